import PyProof.Rows.All
import Wide.All
import OpenK.AllK
import Wide.FinOn
import KE.KExcSuper
import HandS.Base
import HandS.Call
import HandS.Ends
import HandS.Exc
import HandS.TryOnly
import HandS.ExcOwn
import HandS.ExcSuper
import HandS.Words
import HandS.WordsExc
import KE.KStateDown
import HandS.Defaults
import HandS.Property
import HandS.Head0
import HandS.Head1
import HandS.Head2
import HandS.Head3
import HandS.HeadEnd
import HandS.HeadHook1
import HandS.HeadHook2
import HandS.List
import HandS.Comp
import HandS.IsInst
import HandS.Gcd
import HandS.Steps
import HandS.TryMany
import HandS.Dict
import HandS.Iter
import HandS.Conv
import HandS.SortInts
import HandS.Deep
import HandS.TupAny
import HandS.WordsDict
import PyProof.P3Eq
import KE.KeyNested
import HandS.TupSets
import HandS.SortOrd
import HandS.SortRule
import KE.SortData
import KE.DatumOrd
import PySem.Challenge.RW_nowaittasks_k07_whole_levels_any_schedul
section
set_option Elab.async false
set_option linter.all false
set_option maxRecDepth 100000
set_option maxHeartbeats 2000000
/-! own errors: class E(T): def __init__(self, a, ..): super().__init__(text); self.a = a; .. ; T an own class over Exception -/
namespace NwX
open PySem PySem.W PySem.Calls PyProof.Rows
open Builtin Builtin.ObjectAttr
abbrev exT : List Value := [.type "Exception", .type "BaseException", .type "object"]
def stSuper (e : Expr) (p0 p1 p2 p3 p4 : Pos) : Stmt := .Expr (.Call (.Attribute (.Call (.Name "super" p0) [] [] p1) "__init__" p2) [e] [] p3) p4
def stStore (f : Str) (q1 q2 q3 q4 : Pos) : Stmt := .Assign [.Attribute (.Name "self" q1) f q2] (.Name f q3) q4
/-- what the written part says of the class -/
structure ErrK (prog : Program) (K : Frag) (C fI : Addr) (qual : Str) (params : Arguments) (body : List Stmt) (scope : Scope) : Prop where
  cls : excInitIn K C exT "Exception.__new__" = true
  over : excOver K C exT = true
  sa : findIn K (.ref C) "__setattr__" = some (some (.builtin "object.__setattr__"))
  ga : findIn K (.ref C) "__getattribute__" = some (some (.builtin "BaseException.__getattribute__"))
  gg : findIn K (.ref C) "__getattr__" = some none
  iC : findIn K (.ref C) "__init__" = some (some (.ref fI))
  tI : typeIn K (.ref fI) = some (.type "function")
  kC : keepIn K (.ref C) = true
  exC : subIn K (.ref C) (.type "BaseException") = some true
  exE : subIn K (.ref C) (.type "Exception") = some true
  me : mroIn K C (.ref C) = some true
  tyC : typeIn K (.ref C) = some (.type "type")
  hdC : hasDictIn K C = true
  sup : ks_superIn K C C "__init__" = some (some (.builtin "Exception.__init__"))
  opq : nsIn K cStatics "thirdparty.any" = some none
  fn : ∃ (oc : Value) (od : Option Addr) (osl : Array (Option Value)) (cc cda : Addr) (kV doc pm ct : Value) (an : Option Addr) (vs : Array Value) (file : Str) (tf : Tok) (o1 o2 : Value) (d1 d2 : Option Addr) (s1 s2 : Array (Option Value)),
    K.lookup fI = some ⟨oc, od, .func (fnX "__init__" qual params body scope [("__class__", cc)] .none kV doc pm an (.ref cda) ct), osl⟩ ∧ codeIn K (.ref cda) qual = true ∧
    K.lookup cda = some ⟨o1, d1, .fields vs, s1⟩ ∧ vs[2]? = some (.str file tf) ∧ ((prog.main.file : Str) == file) = true ∧ K.lookup cc = some ⟨o2, d2, .cell (some (.ref C)), s2⟩
/-- how the call of super().__init__ goes: true of a written text, of a text and a name, by rfl -/
def CallOk (env : Env) (e : Expr) (p0 p1 p2 p3 p4 : Pos) : Prop := (∃ pl : Sem Bool, eval (.Call (.Attribute (.Call (.Name "super" p0) [] [] p1) "__init__" p2) [e] [] p3) env = (do
      let ov ← attributeBase (.Call (.Name "super" p0) [] [] p1) "__init__" env (eval (.Call (.Name "super" p0) [] [] p1) env)
      standAt p2.atName
      let (f, first) ← holding [ov] (getMethod ov "__init__" pl)
      callWith p3 f first (backTo p3 (starEach [e] env)) [])) ∧ starEach [e] env = [(false, eval e env)] ∧ swapsWith (.Call (.Attribute (.Call (.Name "super" p0) [] [] p1) "__init__" p2) [e] [] p3) none p4.line env = pure false ∧ interactive env = false
/-- what the text of __init__ is -/
structure ErrS (qual : Str) (params : Arguments) (body : List Stmt) (scope : Scope) (ps : List Str) : Prop where
  cell : ∀ x ∈ scope.names, x.2 ≠ .cell
  co : scope.isCoroutine = false
  gen : scope.isGenerator = false
  kind : scope.kind = .function
  sup : scope.names.lookup ("super" : Str) = some .globalImplicit
  klass : scope.names.lookup ("__class__" : Str) = some .free
  slf : scope.names.lookup ("self" : Str) = some .local
  loc : ∀ p ∈ ps, scope.names.lookup p = some .local
  head : ∃ ar, (params.posonlyargs ++ params.args).head? = some ar ∧ ar.arg = "self"
  nd : (("self" : Str) :: ps).Nodup
  bind : ∀ (cl : List (Str × Addr)) (kV doc pm : Value) (an : Option Addr) (cdv ct : Value) (us : List Value), us.length = ps.length + 1 → bindArgs (fnX "__init__" qual params body scope cl .none kV doc pm an cdv ct) ⟨us, []⟩ = pure ((("self" : Str) :: ps).zip us)
/-- the message: a text, whatever it is -/
def MsgOk (e : Expr) (env : Env) (m : Str → Option Value) : Prop := ∀ (M : Model) (prog : Program) (w : World), M = model prog w → ∀ (A : Around) (E : Value → Shared → Prop) (s : Shared) (Q : Value → Shared → Prop), s.heap.Ns env.locals m →
  (∀ z t t', Q (.str z t) { s with toks := t' }) → wpAny M A (eval e env) Q E s
theorem msg_const {x : Str} {j} {pos : Pos} {env : Env} {m : Str → Option Value} : MsgOk (.Constant (.str x) j pos) env m := fun M prog w hM A E s Q _ q => by
  subst hM
  exact Calls.Constant_str (q _ _ _)
theorem msg_add {x y z : Str} {j} {p1 p2 p3 : Pos} {env : Env} {m : Str → Option Value} {t : Tok} (hk : env.scope.kind = .function) (hl : env.kindOf y = some .local) (hd : (y == ("__debug__" : Str)) = false) (hm : m y = some (.str z t)) (hz : x.length + z.length ≤ sizeLine) :
    MsgOk (.BinOp (.Constant (.str x) j p1) .Add (.Name y p2) p3) env m := fun M prog w hM A E s Q hn q => by
  subst hM
  refine wpAny_BinOp (Calls.Constant_str ?_)
  refine ESX.ldL (m := m) hn hm ?_ hk hl hd
  exact add_str (fun t' tk => q _ _ _) hz
theorem ns_keep {h h' : Heap} {L : Addr} {m : Str → Option Value} (n : h.Ns L m) (k : ∀ o, h.get? L = some o → h'.get? L = some o) : h'.Ns L m := by
  obtain ⟨oL, es, ep, hL, r⟩ := n
  exact ⟨oL, es, ep, k _ hL, r⟩
section
variable {prog : Program} {w : World} {A : Around} {R : Result → Shared → Prop} {s : Shared} {K : Frag} {C fI : Addr} {qual : Str} {params : Arguments} {rest : List Stmt} {scope : Scope} {e : Expr} {p0 p1 p2 p3 p4 : Pos} {ps : List Str}
/-- super().__init__(text), then the rest -/
theorem init_super {mg : Str → Option Value} (T : ErrK prog K C fI qual params (stSuper e p0 p1 p2 p3 p4 :: rest) scope) (S : ErrS qual params (stSuper e p0 p1 p2 p3 p4 :: rest) scope ps)
    (htop : (prog.main.scope.names.lookup ("super" : Str)).isSome = false) {x t0 : Addr} {vs : List Value} (hlen : vs.length = ps.length) (X : K.In s.heap) (hlim : s.heap.NoLimit) (hG : s.heap.Ns mainGlobals mg) (hm : mg "super" = none)
    (hB : ∃ mb, s.heap.Ns builtinsNs mb ∧ mb "super" = some (.type "super")) (hx : s.heap.get? x = some (HandSPX.excO C t0)) (hxC : x ≠ C) (hroom : A.depth < recursionLimit) (hcall : ∀ L cda cc : Addr, CallOk (envX qual scope L fI (.ref cda) [("__class__", cc)]) e p0 p1 p2 p3 p4)
    (he : ∀ cc cda : Addr, MsgOk e (envX qual scope s.heap.objs.size fI (.ref cda) [("__class__", cc)]) (fun y => ((("self" : Str) :: ps).zip (.ref x :: vs)).reverse.lookup y))
    (hq : ∀ h₁ tk₁ t1 (cc cda : Addr), (∀ b o, b ≠ x → s.heap.get? b = some o → h₁.get? b = some o) → h₁.get? x = some (HandSPX.excO C t1) → h₁.Ns s.heap.objs.size (fun y => ((("self" : Str) :: ps).zip (.ref x :: vs)).reverse.lookup y) →
      wpAny (model prog w) (A.deeper (envX qual scope s.heap.objs.size fI (.ref cda) [("__class__", cc)])) (execs rest (envX qual scope s.heap.objs.size fI (.ref cda) [("__class__", cc)])) (fun f s' => R (.ok (.ret (match f with | .ret v => v | _ => .none))) s')
        (fun ev s' => wpAny (model prog w) (A.deeper (envX qual scope s.heap.objs.size fI (.ref cda) [("__class__", cc)])) (leaving (envX qual scope s.heap.objs.size fI (.ref cda) [("__class__", cc)]) ev) (fun _ s'' => R (.error ev) s'') (fun e' s'' => R (.error e') s'') s')
        { s with heap := h₁, toks := tk₁ }) :
    codeAny (model prog w) A (.call (.ref fI) ⟨.ref x :: vs, []⟩) R s := by
  obtain ⟨oc, od, osl, cc, cda, kV, doc, pm, ct, an, fvs, file, tf, o1, o2, d1, d2, s1, s2, lk, hcd, hcode, hvs, hfile, hcell⟩ := T.fn
  obtain ⟨ar, har, hself⟩ := S.head
  have hxL : s.heap.objs.size ≠ x := Nat.ne_of_gt (Heap.lt_size hx)
  have hself' : ((("self" : Str) :: ps).zip (Value.ref x :: vs)).reverse.lookup ("self" : Str) = some (.ref x) := by
    rw [List.zip_cons_cons, List.reverse_cons, List.lookup_append]
    have : (ps.zip vs).reverse.lookup ("self" : Str) = none := by
      rw [List.lookup_eq_none_iff]
      intro p hp
      have hp' := (List.mem_reverse.mp hp)
      have h1 : p.1 ∈ ps := (List.of_mem_zip (a := p.1) (b := p.2) hp').1
      have nd := (List.nodup_cons.mp S.nd).1
      simp only [bne_iff_ne, ne_eq, beq_iff_eq, Bool.not_eq_true, beq_eq_false_iff_ne]
      intro q
      exact nd (q ▸ h1)
    rw [this]
    simp
  refine ks_codeAny_call_defAt (fd := fnX "__init__" qual params (stSuper e p0 p1 p2 p3 p4 :: rest) scope [("__class__", cc)] .none kV doc pm an (.ref cda) ct) (body := stSuper e p0 p1 p2 p3 p4 :: rest) (binds := (("self" : Str) :: ps).zip (.ref x :: vs)) hroom (X _ _ lk) rfl hlim (codeRec_of X hcd) rfl
    (BindsTo.of_eq (S.bind _ _ _ _ _ _ _ _ (by rw [List.length_cons, hlen]))) S.cell ?_ (fun h₁ hns hk₁ => ?_) S.co S.gen S.kind
  · intro y hy
    have h1 : y.1 ∈ ("self" : Str) :: ps := (List.of_mem_zip (a := y.1) (b := y.2) hy).1
    rcases List.mem_cons.mp h1 with q | q
    · rw [q]; exact S.slf
    · exact S.loc _ q
  have X₁ : K.In h₁ := X.keeps hk₁
  obtain ⟨cd, hcC⟩ : ∃ cd, clsIn K C = some cd := by
    have z := T.sup
    unfold ks_superIn at z
    cases q : clsIn K C with
    | none => rw [q] at z; cases z
    | some cd => exact ⟨cd, rfl⟩
  obtain ⟨oD, hD1, hD2⟩ : ∃ oD, h₁.get? C = some oD ∧ oD.data = .cls cd := by
    unfold clsIn at hcC
    split at hcC
    · rename_i c d cd' sl ho
      cases hcC
      exact ⟨_, X₁ _ _ ho, rfl⟩
    · cases hcC
  have hx₁ := hk₁ _ _ hx
  obtain ⟨mb, hB1, hB2⟩ := hB
  have hin : Looks (model prog w) h₁ (isInstance (.ref x) (.type "Exception")) true := (InstAt.type (ox := HandSPX.excO C t0) (od := none) ⟨hx₁, rfl, rfl, trivial⟩).andThen (looks_subIn X₁ T.exE)
  show _root_.PySem.wpAt _ _ (.func _ (envX qual scope s.heap.objs.size fI (.ref cda) [("__class__", cc)])) (execs _ (envX qual scope s.heap.objs.size fI (.ref cda) [("__class__", cc)])) _ _ _
  obtain ⟨⟨pl, hev⟩, hst, hsw, hint⟩ := hcall s.heap.objs.size cda cc
  refine ks_wpAt_execs_cons (ks_wpAt_Expr_any (ks_wpAt_MethodCall (he := hev) (ks_wpAt_super_base (attr := "__init__") S.sup S.klass (by decide) rfl (X₁ _ _ lk) rfl har rfl (X₁ _ _ hcode) rfl hvs hfile htop ?_)) (hi := hint) (hs := hsw))
  refine ks_loadName_global S.kind S.sup (loadGlobal_builtin (mg := mg) (mb := mb) (ns_keep hG (fun o q => hk₁ _ _ q)) hm (ns_keep hB1 (fun o q => hk₁ _ _ q)) hB2 ⟨rfl, ?_⟩)
  refine wpAny_loadName_free S.kind S.klass rfl ⟨_, X₁ _ _ hcell, rfl⟩ ?_
  refine wpAny_loadName_local S.kind (by rw [hself]; exact S.slf) hns (by rw [hself]; exact hself') ?_
  refine ks_wpAny_isType_cls hD1 hD2 ⟨rfl, ?_⟩
  refine ks_wpAny_call_super hD1 hD2 hx₁ rfl (fun c q => nomatch q) (looks_mroIn X₁ T.me) (fun h₂ e₂ k₂ => ?_)
  have hsuper := T.sup
  unfold ks_superIn at hsuper
  rw [hcC] at hsuper
  have X₂ : K.In h₂ := X₁.keeps k₂
  have hx₂ := k₂ _ _ hx₁
  refine kxs_getMethod kxs_Exception e₂ (looks_opaque X₂ T.opq) (l₀ := cd.mro) (fun A Q E s k q => wpAny_bind ((looks_clsIn X₂ hcC) A _ E s k (wpAny_pure q))) rfl X₂ hsuper (hin.keeps k₂) hxC (by decide) ?_
  have k₃ : ∀ b o, h₂.get? b = some o → (h₂.push (kxs_mw "Exception.__init__" x)).get? b = some o := fun b o q => Heap.get?_push_of_some _ q
  have hu : (h₂.push (kxs_mw "Exception.__init__" x)).get? h₂.objs.size = some (kxs_mw "Exception.__init__" x) := Heap.get?_push_at rfl rfl
  rw [hst]
  refine ESX.callWith_bw (x := x) rfl (evalArgs_plain ?_)
  show wpAny _ _ (spliced [(false, eval e _)]) _ _ _
  refine Calls.spliced_cons (he cc cda _ prog w rfl _ _ _ _ (ns_keep hns fun o q => k₃ _ _ (k₂ _ _ q)) fun z tz tz' => Calls.spliced_nil ⟨hu, ?_⟩)
  obtain ⟨nm, N, qn, bs, bm, hdct, sn, sub, ab, col, dd, k0, k1, kk2, kk3, k5, hC, hT⟩ := excInit_of (X₂.keeps k₃) T.cls
  refine ESX.call_bw hC (k₃ _ _ hx₂) hu (by show 1 ≤ sizeLine; decide) fun h₄ t1 k₄ hx₄ => ?_
  refine _root_.PySem.wpAt_of_wpAny ?_
  exact hq h₄ _ t1 cc cda (fun b o hb q => k₄ b o hb (k₃ _ _ (k₂ _ _ (hk₁ _ _ q)))) hx₄ (ns_keep hns fun o q => k₄ _ _ hxL (k₃ _ _ (k₂ _ _ q)))
end

/-! ### self.f = v on such an exception -/
section
variable {prog : Program} {w : World} {A : Around} {E : Value → Shared → Prop} {R : Result → Shared → Prop} {hp : Heap} {g : Array GenState} {d : Drawn} {t : Nat} {os : OsState}
theorem taker_none {K : Frag} {C : Addr} {f : Str} (h : findIn K (.ref C) f = some none) : takerIn K C f = some none := by
  unfold takerIn
  rw [h]
  rfl
theorem osa_new {K : Frag} {name : Str} {tk : Tok} {v : Value} {x C : Addr} {fv : Array Value} {cd : ClassData}
    (X : K.In hp) (hx : hp.get? x = some { cls := .ref C, data := .fields fv }) (hov : excOver K C exT = true) (hcd : clsIn K C = some cd) (hh : cd.hasDict = true) (ha : findIn K (.ref C) name = some none)
    (hq : ∀ h' tk' dx, (∀ b o, b ≠ x → hp.get? b = some o → h'.get? b = some o) → hp.objs.size ≤ dx → dx ≠ x → h'.get? x = some { cls := .ref C, dict := some dx, data := .fields fv } →
      h'.Ns1 dx (fun y => if y = name then some v else none) → R (.ok (.ret .none)) ⟨h', g, d, tk', os⟩) :
    codeAny (model prog w) A (.call (.builtin "object.__setattr__") ⟨[.ref x, .str name tk, v], []⟩) R ⟨hp, g, d, t, os⟩ := by
  have I : InstAt hp x { cls := .ref C, data := .fields fv } C none := ⟨hx, rfl, rfl, trivial⟩
  have hxs : x ≠ hp.objs.size := Nat.ne_of_lt (Heap.lt_size hx)
  refine osa_openX (s := ⟨hp, g, d, t, os⟩) F.store_Exception X I hov (taker_none ha) fun b => ?_
  have hcls : Looks (model prog w) hp (classData C) cd := looks_clsIn X hcd
  show wpAny _ _ (storeInOwnDict (.ref x) (.ref C) (.str name tk) name v b) _ _ _
  obtain ⟨nm, bs, mro, ns, qn, hd, sn, sb, ab, col, del⟩ := cd
  dsimp only at hh
  subst hh
  unfold storeInOwnDict ownDictForStores
  repeat (first | with_reducible refine HandSPX.store_in_new ?_ ?_ | with_reducible refine wpAny_loadPart_at hx ?_ | with_reducible refine hcls.at ?_ | wp_step)
  · exact ⟨_, #[], _, (Heap.get?_update_ne _ _ _ _ hxs.symm).trans (Heap.get?_push_at rfl rfl), rfl, fun e he => absurd he (by simp), fun _ => rfl⟩
  · intro h' tk' hn' hs
    have hx₁ : (hp.push { cls := .type "dict", data := .dict #[] }).get? x = some { cls := .ref C, data := .fields fv } := Heap.get?_push_of_some _ hx
    refine hq h' tk' hp.objs.size (fun b o hb ho => ?_) (Nat.le_refl _) hxs.symm ?_ hn'
    · exact (hs.2 b (Nat.ne_of_lt (Heap.lt_size ho))).trans ((Heap.get?_update_ne _ _ _ _ hb).trans (Heap.get?_push_of_some _ ho))
    · exact (hs.2 x hxs).trans (Heap.get?_update_self _ hx₁ rfl)
theorem osa_old {K : Frag} {name : Str} {tk : Tok} {v : Value} {x C dx : Addr} {fv : Array Value} {cd : ClassData} {m0 : Str → Option Value} {nl : List Str}
    (X : K.In hp) (hx : hp.get? x = some { cls := .ref C, dict := some dx, data := .fields fv }) (hns : hp.Ns1 dx m0) (hw : Within m0 nl) (hz : nl.length ≤ 1000) (hov : excOver K C exT = true) (hcd : clsIn K C = some cd) (hh : cd.hasDict = true)
    (ha : findIn K (.ref C) name = some none)
    (hq : ∀ h' tk', (∀ b o, b ≠ dx → hp.get? b = some o → h'.get? b = some o) → h'.Ns1 dx (fun y => if y = name then some v else m0 y) → R (.ok (.ret .none)) ⟨h', g, d, tk', os⟩) :
    codeAny (model prog w) A (.call (.builtin "object.__setattr__") ⟨[.ref x, .str name tk, v], []⟩) R ⟨hp, g, d, t, os⟩ := by
  obtain ⟨oD, esD, epD, hoD, hdD, _⟩ := hns.count hw
  have I : InstAt hp x { cls := .ref C, dict := some dx, data := .fields fv } C (some oD) := ⟨hx, rfl, rfl, hoD⟩
  refine osa_openX (s := ⟨hp, g, d, t, os⟩) F.store_Exception X I hov (taker_none ha) fun b => ?_
  have hcls : Looks (model prog w) hp (classData C) cd := looks_clsIn X hcd
  show wpAny _ _ (storeInOwnDict (.ref x) (.ref C) (.str name tk) name v b) _ _ _
  obtain ⟨nm, bs, mro, ns, qn, hd, sn, sb, ab, col, del⟩ := cd
  dsimp only at hh
  subst hh
  unfold storeInOwnDict ownDictForStores
  repeat (first | with_reducible refine ESX.store_in_old hns hw hz ?_ | with_reducible refine wpAny_loadPart_at hx ?_ | with_reducible refine hcls.at ?_ | wp_step)
  intro h' tk' hn' hs
  exact hq h' tk' (fun b o hb ho => (hs.2 b hb).trans ho) hn'
end

/-- a made error: what is new at e (class C, own dict d) -/
structure OwnMade (h h' : Heap) (e C : Addr) (d : Option Addr) (m : Str → Option Value) : Prop where
  keep : ∀ b o, h.get? b = some o → h'.get? b = some o
  new : h.objs.size ≤ e
  obj : ∃ oe vs, h'.get? e = some oe ∧ oe.cls = .ref C ∧ oe.dict = d ∧ oe.data = .fields vs ∧ vs[1]? = some .none
  dic : ∀ a, d = some a → h.objs.size ≤ a ∧ a ≠ e ∧ h'.Ns1 a m
/-- what __init__ leaves of a fresh exception at x -/
def InitEnd (h h' : Heap) (x C : Addr) (d : Option Addr) (m : Str → Option Value) : Prop :=
  (∀ b o, b ≠ x → h.get? b = some o → h'.get? b = some o) ∧ (∃ t1, h'.get? x = some { cls := .ref C, dict := d, data := .fields #[.ref t1, .none, .none, .none, .bool false, .none] }) ∧
    ∀ a, d = some a → h.objs.size ≤ a ∧ a ≠ x ∧ h'.Ns1 a m
section
variable {prog : Program} {w : World} {A : Around} {R : Flow → Shared → Prop} {E : Value → Shared → Prop} {s : Shared} {K : Frag} {C fI : Addr} {qual : Str} {params : Arguments} {body rest : List Stmt} {scope : Scope} {f1 f2 : Str} {q1 q2 q3 q4 r1 r2 r3 r4 : Pos} {env : Env} {m : Str → Option Value} {v1 v2 : Value} {x t1 : Addr}
theorem store_one (T : ErrK prog K C fI qual params body scope) (X : K.In s.heap) (hk : env.scope.kind = .function) (hls : env.kindOf "self" = some .local) (hl1 : env.kindOf f1 = some .local) (hd1 : (f1 == ("__debug__" : Str)) = false)
    (hn : s.heap.Ns env.locals m) (hms : m "self" = some (.ref x)) (hm1 : m f1 = some v1) (hno : findIn K (.ref C) f1 = some none) (hx : s.heap.get? x = some (HandSPX.excO C t1)) (hnx : K.lookup x = none) (hLx : env.locals ≠ x)
    (hsw : swapsWith (.Name f1 q3) (some (.Attribute (.Name "self" q1) f1 q2)) q4.line env = pure false)
    (hq : ∀ h' tk' dx, (∀ b o, b ≠ x → s.heap.get? b = some o → h'.get? b = some o) → s.heap.objs.size ≤ dx → dx ≠ x → h'.get? x = some { cls := .ref C, dict := some dx, data := .fields #[.ref t1, .none, .none, .none, .bool false, .none] } →
      h'.Ns1 dx (fun y => if y = f1 then some v1 else none) → K.In h' → h'.Ns env.locals m → wpAny (model prog w) A (execs rest env) R E { s with heap := h', toks := tk' }) :
    wpAny (model prog w) A (execs (stStore f1 q1 q2 q3 q4 :: rest) env) R E s := by
  obtain ⟨cd, hcC⟩ : ∃ cd, clsIn K C = some cd := by
    have z := T.sup
    unfold ks_superIn at z
    cases q : clsIn K C with
    | none => rw [q] at z; cases z
    | some cd => exact ⟨cd, rfl⟩
  have hdict : cd.hasDict = true := by
    have z := T.hdC
    unfold hasDictIn at z
    rw [hcC] at z
    exact z
  refine wpAny_execs_cons (plainObj_wpAny_Assign_Attribute ?_ hsw)
  refine ESX.ldL (m := m) hn hm1 (ESX.ldL (m := m) hn hms ?_ hk hls (by decide)) hk hl1 hd1
  refine set_plain X (ox := HandSPX.excO C t1) (od := none) ⟨hx, rfl, rfl, trivial⟩ T.sa ?_
  obtain ⟨hp, g, d, t, os⟩ := s
  refine osa_new X hx T.over hcC hdict hno (fun h₃ tk₃ dx k₃ dn dne hx₃ hn₃ => ?_)
  refine hq h₃ tk₃ dx k₃ dn dne hx₃ hn₃ ?_ (ns_keep hn fun o q => k₃ _ _ hLx q)
  exact fun a o e => k₃ a o (fun z => by rw [z, hnx] at e; cases e) (X a o e)
theorem store_two (T : ErrK prog K C fI qual params body scope) (X : K.In s.heap) {dx : Addr} {m0 : Str → Option Value} (hk : env.scope.kind = .function) (hls : env.kindOf "self" = some .local) (hl1 : env.kindOf f1 = some .local) (hd1 : (f1 == ("__debug__" : Str)) = false)
    (hn : s.heap.Ns env.locals m) (hms : m "self" = some (.ref x)) (hm1 : m f1 = some v1) (hno : findIn K (.ref C) f1 = some none) (hx : s.heap.get? x = some { cls := .ref C, dict := some dx, data := .fields #[.ref t1, .none, .none, .none, .bool false, .none] })
    (hns : s.heap.Ns1 dx m0) (hw : Within m0 [f2])
    (hsw : swapsWith (.Name f1 q3) (some (.Attribute (.Name "self" q1) f1 q2)) q4.line env = pure false)
    (hq : ∀ h' tk', (∀ b o, b ≠ dx → s.heap.get? b = some o → h'.get? b = some o) → h'.Ns1 dx (fun y => if y = f1 then some v1 else m0 y) → wpAny (model prog w) A (execs rest env) R E { s with heap := h', toks := tk' }) :
    wpAny (model prog w) A (execs (stStore f1 q1 q2 q3 q4 :: rest) env) R E s := by
  obtain ⟨cd, hcC⟩ : ∃ cd, clsIn K C = some cd := by
    have z := T.sup
    unfold ks_superIn at z
    cases q : clsIn K C with
    | none => rw [q] at z; cases z
    | some cd => exact ⟨cd, rfl⟩
  have hdict : cd.hasDict = true := by
    have z := T.hdC
    unfold hasDictIn at z
    rw [hcC] at z
    exact z
  refine wpAny_execs_cons (plainObj_wpAny_Assign_Attribute ?_ hsw)
  refine ESX.ldL (m := m) hn hm1 (ESX.ldL (m := m) hn hms ?_ hk hls (by decide)) hk hl1 hd1
  obtain ⟨oD, _, _, hoD, _, _⟩ := hns.count hw
  refine set_plain X (ox := { cls := .ref C, dict := some dx, data := .fields #[.ref t1, .none, .none, .none, .bool false, .none] }) (od := some oD) ⟨hx, rfl, rfl, hoD⟩ T.sa ?_
  obtain ⟨hp, g, d, t, os⟩ := s
  refine osa_old X hx hns hw (by show 1 ≤ 1000; decide) T.over hcC hdict hno (fun h₃ tk₃ k₃ hn₃ => ?_)
  exact hq h₃ tk₃ k₃ hn₃
end

/-- the body: super().__init__(e), then a store a parameter (none, one or two) -/
def BodyIs (e : Expr) (p0 p1 p2 p3 p4 : Pos) (body : List Stmt) : List Str → Prop
  | [] => body = [stSuper e p0 p1 p2 p3 p4]
  | [f] => ∃ q1 q2 q3 q4, body = [stSuper e p0 p1 p2 p3 p4, stStore f q1 q2 q3 q4]
  | [f, f'] => ∃ q1 q2 q3 q4 r1 r2 r3 r4, body = [stSuper e p0 p1 p2 p3 p4, stStore f q1 q2 q3 q4, stStore f' r1 r2 r3 r4]
  | _ => False
/-- the own dict's words -/
def fldM : List Str → List Value → Str → Option Value
  | [f], [v] => fun y => if y = f then some v else none
  | [f, f'], [v, v'] => fun y => if y = f' then some v' else if y = f then some v else none
  | _, _ => fun _ => none
theorem swaps_store {f : Str} {q1 q2 q3 q4 : Pos} {env : Env} : swapsWith (.Name f q3) (some (.Attribute (.Name "self" q1) f q2)) q4.line env = pure false := by rfl
section
variable {prog : Program} {w : World} {A : Around} {R : Result → Shared → Prop} {s : Shared} {K : Frag} {C fI : Addr} {qual : Str} {params : Arguments} {body : List Stmt} {scope : Scope} {e : Expr} {p0 p1 p2 p3 p4 : Pos} {ps : List Str}
theorem init_end {mg : Str → Option Value} (T : ErrK prog K C fI qual params body scope) (S : ErrS qual params body scope ps) (hb : BodyIs e p0 p1 p2 p3 p4 body ps) (hdb : ∀ p ∈ ps, (p == ("__debug__" : Str)) = false)
    (hno : ∀ p ∈ ps, findIn K (.ref C) p = some none)
    (htop : (prog.main.scope.names.lookup ("super" : Str)).isSome = false) {x t0 : Addr} {vs : List Value} (hlen : vs.length = ps.length) (X : K.In s.heap) (hlim : s.heap.NoLimit) (hG : s.heap.Ns mainGlobals mg) (hm : mg "super" = none)
    (hB : ∃ mb, s.heap.Ns builtinsNs mb ∧ mb "super" = some (.type "super")) (hx : s.heap.get? x = some (HandSPX.excO C t0)) (hnx : K.lookup x = none) (hxC : x ≠ C) (hroom : A.depth < recursionLimit) (hcall : ∀ L cda cc : Addr, CallOk (envX qual scope L fI (.ref cda) [("__class__", cc)]) e p0 p1 p2 p3 p4)
    (he : ∀ L cc cda : Addr, MsgOk e (envX qual scope L fI (.ref cda) [("__class__", cc)]) (fun y => ((("self" : Str) :: ps).zip (.ref x :: vs)).reverse.lookup y))
    (hq : ∀ h' tk' d, InitEnd s.heap h' x C d (fldM ps vs) → (d = none ↔ ps = []) → R (.ok (.ret .none)) { s with heap := h', toks := tk' }) :
    codeAny (model prog w) A (.call (.ref fI) ⟨.ref x :: vs, []⟩) R s := by
  have hLx : s.heap.objs.size ≠ x := Nat.ne_of_gt (Heap.lt_size hx)
  match ps, vs, hlen with
  | [], [], _ =>
    have hb' : body = [stSuper e p0 p1 p2 p3 p4] := hb
    subst hb'
    refine init_super T S htop rfl X hlim hG hm hB hx hxC hroom hcall (fun cc cda => he _ cc cda) fun h₁ tk₁ t1 cc cda k hx₁ hn₁ => ?_
    exact wpAny_execs_nil (hq h₁ _ none ⟨k, ⟨_, hx₁⟩, fun a z => nomatch z⟩ ⟨fun _ => rfl, fun _ => rfl⟩)
  | [f], [v], _ =>
    obtain ⟨q1, q2, q3, q4, hb'⟩ := hb
    subst hb'
    refine init_super T S htop rfl X hlim hG hm hB hx hxC hroom hcall (fun cc cda => he _ cc cda) fun h₁ tk₁ t1 cc cda k hx₁ hn₁ => ?_
    have X₁ : K.In h₁ := fun a o q => k a o (fun z => by rw [z, hnx] at q; cases q) (X a o q)
    have nd := S.nd
    have hfs : f ≠ ("self" : Str) := fun q => (List.nodup_cons.mp nd).1 (by rw [q]; exact List.mem_cons_self)
    refine store_one (x := x) (v1 := v) T X₁ S.kind S.slf (S.loc _ List.mem_cons_self) (hdb _ List.mem_cons_self) hn₁ ?_ ?_ (hno _ List.mem_cons_self) hx₁ hnx hLx swaps_store ?_
    · show List.lookup ("self" : Str) [(f, v), (("self" : Str), Value.ref x)] = some (.ref x)
      have q : (("self" : Str) == f) = false := by simpa using (Ne.symm hfs)
      rw [List.lookup_cons, q]
      simp
    · show List.lookup f [(f, v), (("self" : Str), Value.ref x)] = some v
      simp
    · intro h' tk' dx k' dn dne hx' hn' X' hnL
      have hsz : s.heap.objs.size ≤ dx := by
        refine Nat.le_trans ?_ dn
        show s.heap.objs.size ≤ h₁.objs.size
        obtain ⟨oL, es, ep, hL, r⟩ := hn₁
        exact Nat.le_of_lt (Heap.lt_size hL)
      exact wpAny_execs_nil (hq h' _ (some dx) ⟨fun b o hb q => k' b o hb (k b o hb q), ⟨_, hx'⟩, fun a z => by cases z; exact ⟨hsz, dne, hn'⟩⟩ ⟨(fun z => nomatch z), (fun z => nomatch z)⟩)
  | [f, f'], [v, v'], _ =>
    obtain ⟨q1, q2, q3, q4, r1, r2, r3, r4, hb'⟩ := hb
    subst hb'
    refine init_super T S htop rfl X hlim hG hm hB hx hxC hroom hcall (fun cc cda => he _ cc cda) fun h₁ tk₁ t1 cc cda k hx₁ hn₁ => ?_
    have X₁ : K.In h₁ := fun a o q => k a o (fun z => by rw [z, hnx] at q; cases q) (X a o q)
    have nd := S.nd
    have hfs : f ≠ ("self" : Str) := fun q => (List.nodup_cons.mp nd).1 (by rw [q]; exact List.mem_cons_self)
    have hfs' : f' ≠ ("self" : Str) := fun q => (List.nodup_cons.mp nd).1 (by rw [q]; exact List.mem_cons_of_mem _ List.mem_cons_self)
    have hff : f ≠ f' := fun q => (List.nodup_cons.mp (List.nodup_cons.mp nd).2).1 (by rw [q]; exact List.mem_cons_self)
    have lS : List.lookup ("self" : Str) [(f', v'), (f, v), (("self" : Str), Value.ref x)] = some (.ref x) := by
      have q : (("self" : Str) == f) = false := by simpa using (Ne.symm hfs)
      have q' : (("self" : Str) == f') = false := by simpa using (Ne.symm hfs')
      rw [List.lookup_cons, q']
      simp only []
      rw [List.lookup_cons, q]
      simp
    have lF : List.lookup f [(f', v'), (f, v), (("self" : Str), Value.ref x)] = some v := by
      have q : (f == f') = false := by simpa using hff
      rw [List.lookup_cons, q]
      simp
    have lF' : List.lookup f' [(f', v'), (f, v), (("self" : Str), Value.ref x)] = some v' := by simp
    refine store_one (x := x) (v1 := v) T X₁ S.kind S.slf (S.loc _ List.mem_cons_self) (hdb _ List.mem_cons_self) hn₁ lS lF (hno _ List.mem_cons_self) hx₁ hnx hLx swaps_store ?_
    intro h' tk' dx k' dn dne hx' hn' X' hnL
    have hsz : s.heap.objs.size ≤ dx := by
      refine Nat.le_trans ?_ dn
      show s.heap.objs.size ≤ h₁.objs.size
      obtain ⟨oL, es, ep, hL, r⟩ := hn₁
      exact Nat.le_of_lt (Heap.lt_size hL)
    refine store_two (x := x) (v1 := v') (f2 := f) T X' S.kind S.slf (S.loc _ (List.mem_cons_of_mem _ List.mem_cons_self)) (hdb _ (List.mem_cons_of_mem _ List.mem_cons_self)) hnL lS lF' (hno _ (List.mem_cons_of_mem _ List.mem_cons_self)) hx' hn' ?_ swaps_store ?_
    · intro y hy
      show y ∈ [f]
      by_cases z : y = f
      · rw [z]; exact List.mem_cons_self
      · exact absurd (if_neg z) hy
    · intro h3 tk3 k3 hn3
      refine wpAny_execs_nil (hq h3 _ (some dx) ⟨fun b o hb q => ?_, ⟨_, k3 _ _ (Ne.symm dne) hx'⟩, fun a z => by cases z; exact ⟨hsz, dne, hn3⟩⟩ ⟨(fun z => nomatch z), (fun z => nomatch z)⟩)
      exact k3 b o (Nat.ne_of_lt (Nat.lt_of_lt_of_le (Heap.lt_size q) hsz)) (k' b o hb (k b o hb q))
  | _ :: _ :: _ :: _, _, _ => exact hb.elim
theorem err_made {mg : Str → Option Value} (T : ErrK prog K C fI qual params body scope) (S : ErrS qual params body scope ps) (hb : BodyIs e p0 p1 p2 p3 p4 body ps) (hdb : ∀ p ∈ ps, (p == ("__debug__" : Str)) = false)
    (hno : ∀ p ∈ ps, findIn K (.ref C) p = some none)
    (htop : (prog.main.scope.names.lookup ("super" : Str)).isSome = false) {vs : List Value} (hlen : vs.length = ps.length) (X : K.In s.heap) (hlim : s.heap.NoLimit) (hG : s.heap.Ns mainGlobals mg) (hm : mg "super" = none)
    (hB : ∃ mb, s.heap.Ns builtinsNs mb ∧ mb "super" = some (.type "super")) (hroom : A.depth + 1 < recursionLimit) (hcall : ∀ L cda cc : Addr, CallOk (envX qual scope L fI (.ref cda) [("__class__", cc)]) e p0 p1 p2 p3 p4)
    (he : ∀ x L cc cda : Addr, MsgOk e (envX qual scope L fI (.ref cda) [("__class__", cc)]) (fun y => ((("self" : Str) :: ps).zip (.ref x :: vs)).reverse.lookup y))
    (hq : ∀ h' tk' ex d, OwnMade s.heap h' ex C d (fldM ps vs) → (d = none ↔ ps = []) → R (.ok (.ret (.ref ex))) { s with heap := h', toks := tk' }) :
    codeAny (model prog w) A (.call (.ref C) ⟨vs, []⟩) R s := by
  obtain ⟨hp, g, dr, tk, os⟩ := s
  have k : ∀ b o, hp.get? b = some o → ((hp.push (kdv_tup vs)).push (HandSPX.excO C hp.objs.size)).get? b = some o := fun b o q => Heap.get?_push_of_some _ (Heap.get?_push_of_some _ q)
  have hget : ((hp.push (kdv_tup vs)).push (HandSPX.excO C hp.objs.size)).get? (hp.objs.size + 1) = some (HandSPX.excO C hp.objs.size) := by heap_get
  have hnx : K.lookup (hp.objs.size + 1) = none := by
    cases q : K.lookup (hp.objs.size + 1) with
    | none => rfl
    | some o =>
      have z : hp.get? (hp.objs.size + 1) = some o := X _ _ q
      exact absurd (Nat.lt_of_succ_lt (Heap.lt_size z)) (Nat.lt_irrefl _)
  obtain ⟨nm, N, qn, bs, bm, hdct, sn, sub, ab, col, dd, k0, k1, kk2, kk3, k5, hC, hT⟩ := excInit_of X T.cls
  have hvs : vs.length ≤ sizeLine := by
    rw [hlen]
    match ps, hb with
    | [], _ => exact Nat.zero_le _
    | [_], _ => exact (by decide : 1 ≤ sizeLine)
    | [_, _], _ => exact (by decide : 2 ≤ sizeLine)
    | _ :: _ :: _ :: _, hb => exact hb.elim
  have hxC : hp.objs.size + 1 ≠ C := fun q => by
    rw [← q] at hC
    exact absurd (Nat.lt_of_succ_lt (Heap.lt_size hC)) (Nat.lt_irrefl _)
  refine HandSPX.call_own F.excBase_Exception hT hC (looks_findIn X T.iC) (fun self => bind_fn X self T.tI) hvs ?_
  obtain ⟨mb, hB1, hB2⟩ := hB
  refine init_end (s := ⟨(hp.push (kdv_tup vs)).push (HandSPX.excO C hp.objs.size), g, dr, tk, os⟩) (mg := mg) T S hb hdb hno htop hlen (X.keeps k) (hlim.keeps k) (ns_keep hG fun o q => k _ _ q) hm ⟨mb, ns_keep hB1 fun o q => k _ _ q, hB2⟩ hget hnx hxC ?_ hcall (fun L cc cda => he _ L cc cda) fun h' tk' d ⟨k', ⟨t1, hx'⟩, hd⟩ hdn => ?_
  · show A.depth + 1 < recursionLimit
    exact hroom
  · have old : ∀ b o, hp.get? b = some o → h'.get? b = some o := fun b o q => k' b o (Nat.ne_of_lt (Nat.lt_succ_of_lt (Heap.lt_size q))) (k b o q)
    have hs2 : ((hp.push (kdv_tup vs)).push (HandSPX.excO C hp.objs.size)).objs.size = hp.objs.size + 1 + 1 := by rw [Heap.size_push, Heap.size_push]
    refine ⟨rfl, hq h' tk' (hp.objs.size + 1) d ⟨old, Nat.le_succ _, ⟨_, _, hx', rfl, rfl, rfl, rfl⟩, fun a z => ?_⟩ hdn⟩
    obtain ⟨z1, z2, z3⟩ := hd a z
    refine ⟨?_, z2, z3⟩
    have z1' : hp.objs.size + 1 + 1 ≤ a := by
      rw [← hs2]
      exact z1
    show hp.objs.size ≤ a
    omega
end
end NwX

namespace L2
open PySem PySem.Spec PyProof.Rows
/-! ### raise E(a, ..), E such a class -/
/-- the own dict of a made error -/
def errFs (ps : List Str) (vs : List V) : List (Str × V) := (ps.zip vs).reverse
theorem relO_fld : ∀ (ps : List Str) (vs : List V) (us : List Value), Vals vs us → vs.length = ps.length → ps.length ≤ 2 → ps.Nodup → ∀ f, RelO ((errFs ps vs).lookup f) (NwX.fldM ps us f)
  | [], [], us, h, _, _, _, f => by
    cases h
    trivial
  | [p], [v], us, h, _, _, _, f => by
    cases h with
    | cons r rn =>
      rename_i u us'
      cases rn
      show RelO (List.lookup f [(p, v)]) (if f = p then some u else none)
      by_cases hw : f = p
      · subst hw
        rw [if_pos rfl]
        have q : List.lookup f [(f, v)] = some v := by simp [List.lookup]
        rw [q]
        exact r
      · rw [if_neg hw]
        have qw : (f == p) = false := by simpa using hw
        have q2 : List.lookup f [(p, v)] = none := by simp [List.lookup, qw]
        rw [q2]
        trivial
  | [p, p'], [v, v'], us, h, _, _, nd, f => by
    cases h with
    | cons r rn =>
      rename_i u us'
      cases rn with
      | cons r' rn' =>
        rename_i u' us''
        cases rn'
        show RelO (List.lookup f [(p', v'), (p, v)]) (if f = p' then some u' else if f = p then some u else none)
        by_cases hw' : f = p'
        · subst hw'
          rw [if_pos rfl]
          have q : List.lookup f [(f, v'), (p, v)] = some v' := by simp [List.lookup]
          rw [q]
          exact r'
        · rw [if_neg hw']
          have qw' : (f == p') = false := by simpa using hw'
          rw [List.lookup_cons, qw']
          show RelO (List.lookup f [(p, v)]) (if f = p then some u else none)
          by_cases hw : f = p
          · subst hw
            rw [if_pos rfl]
            have q : List.lookup f [(f, v)] = some v := by simp [List.lookup]
            rw [q]
            exact r
          · rw [if_neg hw]
            have qw : (f == p) = false := by simpa using hw
            have q2 : List.lookup f [(p, v)] = none := by simp [List.lookup, qw]
            rw [q2]
            trivial
  | _ :: _ :: _ :: _, _, _, _, _, h3, _, _ => absurd h3 (by simp)
  | [], _ :: _, _, _, h, _, _, _ => nomatch h
  | [_], [], _, _, h, _, _, _ => nomatch h
  | [_], _ :: _ :: _, _, _, h, _, _, _ => absurd h (by simp)
  | [_, _], [], _, _, h, _, _, _ => nomatch h
  | [_, _], [_], _, _, h, _, _, _ => absurd h (by simp)
  | [_, _], _ :: _ :: _ :: _, _, _, h, _, _, _ => absurd h (by simp)
/-- what the top has of an error's class: x at C, with the fields ps; okv: which arguments may be passed -/
structure ErrOk (P : Program) (K : PySem.W.Frag) (mg : Str → Option Value) (x : Str) (C : Addr) (ps : List Str) (okv : List V → Prop) : Prop where
  gC : mg x = some (.ref C)
  gS : mg "super" = none
  htop : (P.main.scope.names.lookup ("super" : Str)).isSome = false
  ga : PySem.W.findIn K (.ref C) "__getattribute__" = some (some (.builtin "BaseException.__getattribute__"))
  gg : PySem.W.findIn K (.ref C) "__getattr__" = some none
  kC : PySem.W.keepIn K (.ref C) = true
  exC : PySem.W.subIn K (.ref C) (.type "BaseException") = some true
  tyC : PySem.W.typeIn K (.ref C) = some (.type "type")
  hdC : PySem.W.hasDictIn K C = true
  hno : ∀ p ∈ ps, PySem.W.findIn K (.ref C) p = some none
  hdb : ∀ p ∈ ps, (p == ("__debug__" : Str)) = false
  nd : ps.Nodup
  le2 : ps.length ≤ 2
  len : ∀ vs, okv vs → vs.length = ps.length
  made : ∃ (fI : Addr) (qual : Str) (params : Arguments) (body : List Stmt) (scope : Scope) (e : Expr) (p0 p1 p2 p3 p4 : Pos), NwX.ErrK P K C fI qual params body scope ∧ NwX.ErrS qual params body scope ps ∧ NwX.BodyIs e p0 p1 p2 p3 p4 body ps ∧
    (∀ L cda cc : Addr, NwX.CallOk (PySem.W.envX qual scope L fI (.ref cda) [("__class__", cc)]) e p0 p1 p2 p3 p4) ∧
    ∀ (vs : List V) (us : List Value), okv vs → Vals vs us → ∀ x L cc cda : Addr, NwX.MsgOk e (PySem.W.envX qual scope L fI (.ref cda) [("__class__", cc)]) (fun y => ((("self" : Str) :: ps).zip (.ref x :: us)).reverse.lookup y)
section
variable {X : Cx} {C : Addr} {x : Str} {ps : List Str} {okv : List V → Prop}
/-- E(a, ..) -/
def tMkE (C : Addr) (ps : List Str) (okv : List V → Prop) (ta : TA) : St → Hp → XK → Prop := fun σ H Q => ta σ H fun vs H1 => okv vs ∧ ∀ d, H1 d = none → Q (.ref C) (some d) (upd H1 d (.xd (errFs ps vs)))
theorem pmk_err {a : Expr} {as : List Expr} {ta : TA} {p pos : Pos} {k : Nat} (T : ErrOk X.prog X.K X.mg x C ps okv) (hps : ps ≠ []) (hr : Room k X.A) (ha : PA X (a :: as) ta) (hg : Gl X x := by rfl) (hxd : (x == ("__debug__" : Str)) = false := by decide)
    (he : starEach (a :: as) X.env = (false, eval a X.env) :: starEach as X.env := by rfl) (hpl : (backTo pos (starEach as X.env)).any (·.1) = false := by rfl) :
    PMk X (.Call (.Name x p) (a :: as) [] pos) (tMkE C ps okv ta) := by
  intro pins s σ H Q I h
  refine wpAny_Call_Name_kw (ld_glob I hg T.gC ?_ hxd)
  refine PySem.W.callWith_K (h₀ := X.base) I.ok.mod.kin T.kC (thn (ha.run pos pins s σ H _ I h) fun us s1 hh => ?_) he hpl
  obtain ⟨vs, H1, I1, r1, okv1, q1⟩ := hh
  refine ⟨I1.kIn, ?_⟩
  show wpAny _ _ (call (.ref C) us) _ _ _
  have hlim := I1.nolimit
  have hG : s1.heap.Ns mainGlobals X.mg := I1.mod.glob.keeps I1.bk
  have hB : ∃ mb, s1.heap.Ns builtinsNs mb ∧ mb "super" = some (.type "super") := by
    obtain ⟨mb, h1, h2⟩ := I1.mod.blt
    exact ⟨mb, h1.keeps I1.bk, (h2 "super" (by decide +kernel)).trans (by first | rfl | decide +kernel | kernel_rfl)⟩
  obtain ⟨hp, g, dr, tk, os⟩ := s1
  obtain ⟨fI, qual, params, body, scope, e, p0, p1, p2, p3, p4, tK, tS, tB, tC, tM⟩ := T.made
  have hlv : vs.length = ps.length := T.len vs okv1
  have hlu : us.length = ps.length := by rw [← r1.length]; exact hlv
  refine wpAny_call (NwX.err_made (mg := X.mg) tK tS tB T.hdb T.hno T.htop hlu I1.kIn hlim hG T.gS hB (by have := hr.dp; omega) tC (fun x L cc cda => tM vs us okv1 r1 x L cc cda) fun h' tk' e d M hdn => ?_)
  show MkP X pins σ Q (.ref e) ⟨h', g, dr, tk', os⟩
  cases d with
  | none => exact absurd (hdn.mp rfl) hps
  | some d =>
    obtain ⟨oe, fv, hoe, hc, hd, hdat, h1⟩ := M.obj
    obtain ⟨Mdbig, Mdne, hns⟩ := M.dic d rfl
    obtain ⟨G', g1, g2⟩ := restrict h' fun b => decide (b ≠ e)
    have gk : ∀ b, b ≠ e → G'.get? b = h'.get? b := fun b hb => g1 b (decide_eq_true hb)
    have ge : G'.get? e = none := g2 e (by simp)
    have old : ∀ b o, hp.get? b = some o → G'.get? b = some o := fun b o q => (gk b (Nat.ne_of_lt (Nat.lt_of_lt_of_le (Heap.lt_size q) M.new))).trans (M.keep b o q)
    have ob : ObjOk X.prog X.w (upd H1 d (.xd (errFs ps vs))) G' d (.xd (errFs ps vs)) :=
      ⟨_, hns.at (fun o q => (gk d Mdne).trans q), fun f => relO_fld ps vs us r1 hlv T.le2 T.nd f⟩
    have J : Inv X pins σ (upd H1 d (.xd (errFs ps vs))) ⟨G', g, dr, tk', os⟩ := I1.laid (t' := tk') old Mdbig ob
    refine ⟨e, oe, fv, ⟨G', g, dr, tk', os⟩, _, .ref C, some d, rfl, J, fun b o q => ?_, ge, hoe, ⟨hc, hd⟩, hdat, h1, ?_, rfl, I1.bare, raises_own T.exC T.tyC, q1 d (I1.hok.fresh Mdbig)⟩
    · by_cases hb : b = e
      · have q' : G'.get? b = some o := q
        rw [hb, ge] at q'; cases q'
      · exact (gk b hb).symm.trans q
    · rw [upd_ne (Ne.symm Mdne)]
      exact I1.hok.fresh M.new
/-- raise E(a, ..) -/
def tRaiseE (C : Addr) (ps : List Str) (okv : List V → Prop) (W : WX) (ta : TA) : TS := fun _ σ H => tMkE C ps okv ta σ H fun cls d H' => W cls d σ H'
theorem ps_raiseE {a : Expr} {as : List Expr} {ta : TA} {W : WX} {p pos pos2 : Pos} {k : Nat} (hc : X.calm = true) (T : ErrOk X.prog X.K X.mg x C ps okv) (hps : ps ≠ []) (hr : Room k X.A) (tk : Takes X W) (ha : PA X (a :: as) ta) (hg : Gl X x := by rfl) (hxd : (x == ("__debug__" : Str)) = false := by decide)
    (he : starEach (a :: as) X.env = (false, eval a X.env) :: starEach as X.env := by rfl) (hpl : (backTo pos (starEach as X.env)).any (·.1) = false := by rfl) :
    PS X (.Raise (some (.Call (.Name x p) (a :: as) [] pos)) none pos2) (tRaiseE C ps okv W ta) := ps_raise hc tk (pmk_err T hps hr ha hg hxd he hpl)
/-- err.f, err the exception that the suite holds (at a; its class cls, its dict d) -/
def tByE (C : Addr) (f : Str) (a : Addr) (cls : Value) (d : Option Addr) (te : TE) : TE := fun σ H Q => te σ H fun x H1 => x = .ref a ∧ cls = .ref C ∧ ∃ (dd : Addr) (fs : List (Str × V)) (v : V), d = some dd ∧ H1 dd = some (.xd fs) ∧ fs.lookup f = some v ∧ Q v H1
theorem pe_byE {a : Addr} {oe : Obj} {cls : Value} {d : Option Addr} {pn : List (Addr × Obj)} {e : Expr} {te : TE} {f : Str} {pos : Pos} (T : ErrOk X.prog X.K X.mg x C ps okv) (hno : PySem.W.findIn X.K (.ref C) f = some none) (hz : Zc cls d oe) (hf : ∃ vs, oe.data = .fields vs) (he : PE (X.suite a ((a, oe) :: pn)) e te)
    (hb : attributeBase e f X.env (eval e X.env) = eval e X.env := by rfl) :
    PE (X.suite a ((a, oe) :: pn)) (.Attribute e f pos) (tByE C f a cls d te) := by
  refine ⟨fun pins s σ H Q I h => ?_⟩
  refine attr_of hb (thn (he.run pins s σ H _ I h) fun u s1 hh => ?_)
  obtain ⟨x, H1, I1, rx, ex, ec, dd, fs, v, ed, ea, el, q⟩ := hh
  subst ex
  obtain rfl : u = Value.ref a := rx
  subst ec
  subst ed
  obtain ⟨ha, _⟩ := I1.pin (a, oe) (List.mem_append_left _ List.mem_cons_self)
  obtain ⟨vs, hd⟩ := hf
  have hx : ObjOk X.prog X.w H1 s1.heap dd (.xd fs) := I1.hok dd _ ea
  obtain ⟨mA, hns, hr⟩ := hx
  obtain ⟨od, ho, hl⟩ := lookIn_ns hns
  obtain ⟨u, hu, ru⟩ := RelO.some_of (v := v) (o := mA f) (by rw [← el]; exact hr f)
  have J : PySem.W.InstAt s1.heap a oe C (some od) := ⟨ha, hz.1, by unfold PySem.W.notCls; rw [hd] <;> rfl, by rw [hz.2]; exact ho⟩
  exact HandSPX.exc_get I1.kIn J T.ga T.gg T.exC (PySem.W.findObj_own T.hdC hno rfl (by rw [hl, hu])) (handed_of ru) ⟨v, H1, I1.tok _, ru, q⟩
end
end L2
end
section
set_option Elab.async false
set_option linter.all false
set_option maxRecDepth 100000
set_option maxHeartbeats 2000000
/-! a head's facts: any truth of the written part, the defs, the errors' __init__s -/
namespace NwH
open PySem PySem.Spec PyProof.Rows L2 He
abbrev Frag := PySem.W.Frag
/-- what stands within n steps of the module's names -/
def reach (g : Addr → Option Obj) : Nat → List Addr
  | 0 => [mainGlobals, cStatics]
  | n + 1 => growD g (reach g n)
/-- an error's class: its name, the qualified name and text of its __init__, its fields -/
structure ErrD where
  cls : Str
  qual : Str
  params : Arguments
  body : List Stmt
  scope : Scope
  ps : List Str
abbrev FnE : Type := Option (Str × Str × Arguments × FuncBody × Scope × Addr × Addr)
def initAt (K : Frag) (x : Str) : Addr := ma K (ga K x) "__init__"
def fnE (K : Frag) (d : ErrD) : FnE := match K.lookup (initAt K d.cls) with
  | some ⟨_, _, .func fd, _⟩ => some (fd.name, fd.qualname, fd.params, fd.body, fd.scope, fd.globals, fd.builtins)
  | _ => none
def ErrD.val (d : ErrD) : FnE := some ("__init__", d.qual, d.params, .stmts d.body, d.scope, mainGlobals, builtinsNs)
def cellB (K : Frag) (C : Addr) (cl : List (Str × Addr)) : Bool := match cl with
  | [(n, cc)] => decide (n = "__class__") && (match K.lookup cc with
    | some ⟨_, _, .cell (some v), _⟩ => decide (v = .ref C)
    | _ => false)
  | _ => false
def codeB (K : Frag) (qual : Str) (file : Str) (cd : Value) : Bool := match cd with
  | .ref a => PySem.W.codeIn K (.ref a) qual && (match K.lookup a with
    | some ⟨_, _, .fields vs, _⟩ => (match (vs[2]? : Option Value) with
      | some (.str f _) => file == f
      | _ => false)
    | _ => false)
  | _ => false
def nonB : Value → Bool
  | .none => true
  | _ => false
def ErrD.ok (file : Str) (K : Frag) (d : ErrD) : Bool :=
  let C := ga K d.cls
  PySem.W.excInitIn K C NwX.exT "Exception.__new__" && (PySem.W.excOver K C NwX.exT && (eqO (PySem.W.findIn K (.ref C) "__setattr__") (some (some (.builtin "object.__setattr__"))) &&
  (eqO (PySem.W.findIn K (.ref C) "__getattribute__") (some (some (.builtin "BaseException.__getattribute__"))) && (eqO (PySem.W.findIn K (.ref C) "__getattr__") (some none) &&
  (eqO (PySem.W.findIn K (.ref C) "__init__") (some (some (.ref (initAt K d.cls)))) && (decide (PySem.W.typeIn K (.ref (initAt K d.cls)) = some (.type "function")) && (PySem.W.keepIn K (.ref C) &&
  (decide (PySem.W.subIn K (.ref C) (.type "BaseException") = some true) && (decide (PySem.W.subIn K (.ref C) (.type "Exception") = some true) && (decide (PySem.W.mroIn K C (.ref C) = some true) &&
  (decide (PySem.W.typeIn K (.ref C) = some (.type "type")) && (PySem.W.hasDictIn K C && (eqO (PySem.W.ks_superIn K C C "__init__") (some (some (.builtin "Exception.__init__"))) &&
  (eqO (PySem.W.nsIn K cStatics "thirdparty.any") (some none) && (d.ps.all (fun p => eqO (PySem.W.findIn K (.ref C) p) (some none)) &&
  (match K.lookup (initAt K d.cls) with
    | some ⟨_, _, .func fd, _⟩ => nonB fd.defaults && (cellB K C fd.closure && codeB K d.qual file fd.code)
    | _ => false))))))))))))))))
theorem cellB_ok {K : Frag} {C : Addr} {cl : List (Str × Addr)} (h : cellB K C cl = true) : ∃ cc o d s, cl = [(("__class__" : Str), cc)] ∧ K.lookup cc = some ⟨o, d, .cell (some (.ref C)), s⟩ := by
  match cl, h with
  | [(n, cc)], h =>
    obtain ⟨h1, h2⟩ := ba h
    have e1 : n = "__class__" := of_decide_eq_true h1
    subst e1
    cases q : K.lookup cc with
    | none => rw [q] at h2; cases h2
    | some ob =>
      obtain ⟨o, d, dt, s⟩ := ob
      rw [q] at h2
      cases dt with
      | cell v =>
        cases v with
        | none => cases h2
        | some v =>
          have e2 : v = .ref C := of_decide_eq_true h2
          subst e2
          exact ⟨cc, o, d, s, rfl, q⟩
      | _ => cases h2
  | [], h => cases h
  | _ :: _ :: _, h => cases h
theorem codeB_ok {K : Frag} {qual file : Str} {cd : Value} (h : codeB K qual file cd = true) : ∃ cda o d s vs f t, cd = .ref cda ∧ PySem.W.codeIn K (.ref cda) qual = true ∧ K.lookup cda = some ⟨o, d, .fields vs, s⟩ ∧ vs[2]? = some (.str f t) ∧ (file == f) = true := by
  cases cd with
  | ref a =>
    obtain ⟨h1, h2⟩ := ba (show (PySem.W.codeIn K (.ref a) qual && _) = true from h)
    cases q : K.lookup a with
    | none => rw [q] at h2; cases h2
    | some ob =>
      obtain ⟨o, d, dt, s⟩ := ob
      rw [q] at h2
      cases dt with
      | fields vs =>
        replace h2 : (match (vs[2]? : Option Value) with
          | some (.str f _) => file == f
          | _ => false) = true := h2
        cases q2 : vs[2]? with
        | none => rw [q2] at h2; cases h2
        | some v =>
          rw [q2] at h2
          cases v with
          | str f t => exact ⟨a, o, d, s, vs, f, t, rfl, h1, q, q2, h2⟩
          | _ => cases h2
      | _ => cases h2
  | _ => cases h
/-- a def wherever it stands -/
structure FnA where
  at_ : Frag → Addr
  name : Str
  qual : Str
  params : Arguments
  body : List Stmt
  scope : Scope
  dfl : List Dv := []
  kwd : List (Str × Dv) := []
def fnT (K : Frag) (a : Addr) : FnW := match K.lookup a with
  | some ⟨_, _, .func fd, _⟩ => some (fd.name, fd.qualname, fd.params, fd.body, fd.scope, fd.globals, fd.closure, fd.builtins)
  | _ => none
def FnA.val (d : FnA) : FnW := some (d.name, d.qual, d.params, .stmts d.body, d.scope, mainGlobals, [], builtinsNs)
def FnA.dvs (K : Frag) (d : FnA) : List V := d.dfl.map (Dv.v K)
def FnA.kws (K : Frag) (d : FnA) : List (Str × V) := d.kwd.map fun q => (q.1, q.2.v K)
def FnA.ok (K : Frag) (d : FnA) : Bool := PySem.W.keepIn K (.ref (d.at_ K)) && (match K.lookup (d.at_ K) with
  | some ⟨_, _, .func fd, _⟩ => PySem.W.codeIn K fd.code d.qual && (dflB K fd.defaults (d.dvs K) && kwdB K fd.kwdefaults (d.kws K))
  | _ => false)
theorem FnA.funD {K : Frag} {d : FnA} (e : fnT K (d.at_ K) = d.val) (c : d.ok K = true) : ∃ fd, FunD K d.name d.qual d.params d.body d.scope (d.dvs K) (d.kws K) (d.at_ K) fd := by
  unfold FnA.ok at c
  unfold fnT at e
  generalize d.at_ K = a at c e ⊢
  obtain ⟨kp, c2⟩ := ba c
  cases q : K.lookup a with
  | none => rw [q] at c2; cases c2
  | some o =>
    obtain ⟨oc, od, dt, osl⟩ := o
    rw [q] at c2 e
    cases dt with
    | func fd =>
      obtain ⟨n1, n2, n3, n4, n5, n6, n7, n8, n9, n10, n11, n12, n13, n14, n15⟩ := fd
      have e2 : (some (n1, n2, n3, n4, n5, n6, n7, n15) : FnW) = some (d.name, d.qual, d.params, .stmts d.body, d.scope, mainGlobals, [], builtinsNs) := e
      simp only [Option.some.injEq, Prod.mk.injEq] at e2
      obtain ⟨h1, h2, h3, h4, h5, h6, h7, h8⟩ := e2
      subst h1 h2 h3 h4 h5 h6 h7 h8
      obtain ⟨k1, k2⟩ := ba (show (PySem.W.codeIn K n13 d.qual && (dflB K n8 (d.dvs K) && kwdB K n9 (d.kws K))) = true from c2)
      obtain ⟨k3, k4⟩ := ba k2
      exact ⟨_, ⟨oc, od, n8, n9, n10, n11, n12, n13, n14, osl, rfl, q, k1, dflB_ok k3, kwdB_ok k4⟩, kp⟩
    | _ => cases c2
/-- a property's getter -/
def prGet (K : Frag) (C f : Str) : Addr := match PySem.W.recIn K (ma K (ga K C) f) "property" with
  | some (.ref g :: _) => g
  | _ => 0
def prB (K : Frag) (C f : Str) : Bool :=
  eqO (PySem.W.findIn K (.ref (ga K C)) f) (some (some (.ref (ma K (ga K C) f)))) && (eqO (PySem.W.specialIn K (.ref (ma K (ga K C) f)) "__get__") (some (some (.builtin "property.__get__"))) && (decide (PySem.W.takesIn K (.ref (ma K (ga K C) f)) = some true) &&
  (match PySem.W.recIn K (ma K (ga K C) f) "property" with
    | some (.ref _ :: _) => true
    | _ => false)))
theorem prB_ok {K : Frag} {C f : Str} (h : prB K C f = true) : PropOf K (ga K C) f (ma K (ga K C) f) (prGet K C f) := by
  obtain ⟨h1, h⟩ := ba h
  obtain ⟨h2, h⟩ := ba h
  obtain ⟨h3, h⟩ := ba h
  refine ⟨eqO_ok h1, eqO_ok h2, of_decide_eq_true h3, ?_⟩
  unfold prGet
  cases q : PySem.W.recIn K (ma K (ga K C) f) "property" with
  | none => rw [q] at h; cases h
  | some l =>
    rw [q] at h
    match l, h with
    | .ref g :: rest, _ => exact ⟨rest, rfl⟩
/-- the facts of a row: truths of the written part; defs; errors -/
structure Row where
  fb : List (Frag → Bool)
  fn : List FnA
  er : List ErrD
  file : Str
abbrev Al : Type := Bool × List FnW × List FnE
def Row.obs (r : Row) (K : Frag) : Al := ((r.fb.all fun f => f K) && ((r.fn.all fun d => d.ok K) && (r.er.all fun d => d.ok r.file K)), r.fn.map (fun d => fnT K (d.at_ K)), r.er.map fun d => fnE K d)
def Row.val (r : Row) : Al := (true, r.fn.map FnA.val, r.er.map ErrD.val)
def Row.Says (r : Row) (K : Frag) : Prop := r.obs K = r.val
def Row.obsG (r : Row) (n : Nat) (g : Addr → Option Obj) : Al := r.obs (frG g (reach g n))
def Row.hook (r : Row) (n : Nat) : PySem.W.Hook where
  α := Al
  obs := fun s => r.obsG n s.heap.get?
  val := fun _ => r.val
  says := fun _ h => ∃ K : Frag, K.In h ∧ r.Says K
  of := fun _ _ e => ⟨_, frG_in, e⟩
  keeps := fun _ _ _ ⟨K, hK, c⟩ k => ⟨K, PySem.W.Frag.In.keeps hK k, c⟩
theorem Row.obs_eq (r : Row) {n : Nat} {g : Addr → Option Obj} {s : Shared} (h : ∀ a, g a = s.heap.get? a) : r.obsG n g = (r.hook n).obs s := by
  have e : g = s.heap.get? := funext h
  rw [e] <;> rfl
section
variable {r : Row} {K : Frag}
theorem Row.Says.one (c : r.Says K) : (r.fb.all fun f => f K) = true ∧ (r.fn.all fun d => d.ok K) = true ∧ (r.er.all fun d => d.ok r.file K) = true := by
  have z : ((r.fb.all fun f => f K) && ((r.fn.all fun d => d.ok K) && (r.er.all fun d => d.ok r.file K))) = true := congrArg (fun z : Al => z.1) c
  obtain ⟨a, b⟩ := ba z
  obtain ⟨b, c⟩ := ba b
  exact ⟨a, b, c⟩
theorem Row.Says.fact (c : r.Says K) (i : Nat) {f : Frag → Bool} (h : r.fb[i]? = some f := by rfl) : f K = true := List.all_eq_true.mp c.one.1 f (List.mem_of_getElem? h)
theorem Row.Says.def_ (c : r.Says K) (i : Nat) {d : FnA} (h : r.fn[i]? = some d := by rfl) : ∃ fd, FunD K d.name d.qual d.params d.body d.scope (d.dvs K) (d.kws K) (d.at_ K) fd := by
  have e : r.fn.map (fun d => fnT K (d.at_ K)) = r.fn.map FnA.val := congrArg (fun z : Al => z.2.1) c
  have e2 : (r.fn.map fun d => fnT K (d.at_ K))[i]? = (r.fn.map FnA.val)[i]? := by rw [e]
  rw [List.getElem?_map, List.getElem?_map, h] at e2
  exact FnA.funD (Option.some.inj e2) (List.all_eq_true.mp c.one.2.1 d (List.mem_of_getElem? h))
theorem Row.Says.err (c : r.Says K) {P : Program} (hf : P.main.file = r.file) (i : Nat) {d : ErrD} (h : r.er[i]? = some d := by rfl) : NwX.ErrK P K (ga K d.cls) (initAt K d.cls) d.qual d.params d.body d.scope ∧ ∀ p ∈ d.ps, PySem.W.findIn K (.ref (ga K d.cls)) p = some none := by
  have e : r.er.map (fun d => fnE K d) = r.er.map ErrD.val := congrArg (fun z : Al => z.2.2) c
  have e2 : (r.er.map fun d => fnE K d)[i]? = (r.er.map ErrD.val)[i]? := by rw [e]
  rw [List.getElem?_map, List.getElem?_map, h] at e2
  have e3 : fnE K d = d.val := Option.some.inj e2
  have o := List.all_eq_true.mp c.one.2.2 d (List.mem_of_getElem? h)
  unfold ErrD.ok at o
  obtain ⟨o1, o⟩ := ba o
  obtain ⟨o2, o⟩ := ba o
  obtain ⟨o3, o⟩ := ba o
  obtain ⟨o4, o⟩ := ba o
  obtain ⟨o5, o⟩ := ba o
  obtain ⟨o6, o⟩ := ba o
  obtain ⟨o7, o⟩ := ba o
  obtain ⟨o8, o⟩ := ba o
  obtain ⟨o9, o⟩ := ba o
  obtain ⟨o10, o⟩ := ba o
  obtain ⟨o11, o⟩ := ba o
  obtain ⟨o12, o⟩ := ba o
  obtain ⟨o13, o⟩ := ba o
  obtain ⟨o14, o⟩ := ba o
  obtain ⟨o15, o⟩ := ba o
  obtain ⟨o16, o⟩ := ba o
  refine ⟨⟨o1, o2, eqO_ok o3, eqO_ok o4, eqO_ok o5, eqO_ok o6, of_decide_eq_true o7, o8, of_decide_eq_true o9, of_decide_eq_true o10, of_decide_eq_true o11, of_decide_eq_true o12, o13, eqO_ok o14, eqO_ok o15, ?_⟩, fun p hp => eqO_ok (List.all_eq_true.mp o16 p hp)⟩
  unfold fnE at e3
  cases q : K.lookup (initAt K d.cls) with
  | none => rw [q] at e3; cases e3
  | some ob =>
    obtain ⟨oc, od, dt, osl⟩ := ob
    rw [q] at e3 o
    cases dt with
    | func fd =>
      obtain ⟨n1, n2, n3, n4, n5, n6, n7, n8, n9, n10, n11, n12, n13, n14, n15⟩ := fd
      have e4 : (some (n1, n2, n3, n4, n5, n6, n15) : FnE) = (some ((("__init__" : Str), d.qual, d.params, FuncBody.stmts d.body, d.scope, mainGlobals, builtinsNs)) : FnE) := e3
      simp only [Option.some.injEq, Prod.mk.injEq] at e4
      obtain ⟨h1, h2, h3, h4, h5, h6, h7⟩ := e4
      subst h1 h2 h3 h4 h5 h6 h7
      obtain ⟨b0, b12⟩ := ba (show (nonB n8 && (cellB K (ga K d.cls) n7 && codeB K d.qual r.file n13)) = true from o)
      obtain ⟨b1, b2⟩ := ba b12
      have e8 : n8 = .none := by
        cases n8 with
        | none => rfl
        | _ => cases b0
      subst e8
      obtain ⟨cc, o2, d2, s2, rfl, lc⟩ := cellB_ok b1
      obtain ⟨cda, oo1, d1, s1, vs, f, t, rfl, hc, lk, hv, hfile⟩ := codeB_ok b2
      exact ⟨oc, od, osl, cc, cda, n9, n10, n11, n14, n12, vs, f, t, oo1, o2, d1, d2, s1, s2, rfl, hc, lk, hv, by rw [hf]; exact hfile, lc⟩
    | _ => cases e3
end
end NwH
end
section
set_option Elab.async false
set_option linter.all false
set_option maxRecDepth 100000
set_option maxHeartbeats 2000000
/-! short readings: one lemma a construct, each reducible to see -/
namespace Nw
open PySem PySem.Spec PyProof.Rows L2
/-! ### a def by its name -/
structure Dok (P : Program) (w : World) (K : PySem.W.Frag) (mg : Str → Option Value) (base : Heap) (k : Nat) (x : Str) (ps : List Str) (sp : Sp) : Prop where
  ex : ∃ (f : Addr) (fd : FuncData), FnOk P w K mg base (L2.CX P w) k f fd ps sp ∧ mg x = some (.ref f) ∧ PySem.W.keepIn K (.ref f) = true ∧ Binds K fd ps []
def tCa (sp : Sp) (E : XK) (t : TA) : TE := fun σ H Q => t σ H fun vs H1 => sp vs H1 Q E
def tCw (sp : Sp) (W : WX) (t : TA) : TE := fun σ H Q => t σ H fun vs H1 => sp vs H1 Q fun c d H2 => W c d σ H2
section
variable {X : Cx} {k : Nat} {x : Str} {ps : List Str} {sp : Sp} {p pos : Pos} {e : Expr} {es : List Expr} {t : TA} {E : XK}
theorem tCa_eq : tCall sp [] E t = tCa sp E t := by
  funext σ H Q
  show t σ H (fun vs H1 => sp (vs ++ []) H1 Q E) = t σ H (fun vs H1 => sp vs H1 Q E)
  have : (fun (vs : List V) (H1 : Hp) => sp (vs ++ []) H1 Q E) = fun vs H1 => sp vs H1 Q E := by
    funext vs H1
    rw [List.append_nil]
  rw [this]
theorem pe_def (D : Dok X.prog X.w X.K X.mg X.base k x ps sp) (hr : Room k X.A) (hg : Gl X x) (hx : Passes (L2.CX X.prog X.w) X E)
    (ha : PA X (e :: es) t) (hdb : (x == ("__debug__" : Str)) = false := by decide) (he : starEach (e :: es) X.env = (false, eval e X.env) :: starEach es X.env := by rfl) (hpl : (backTo pos (starEach es X.env)).any (·.1) = false := by rfl) :
    PE X (.Call (.Name x p) (e :: es) [] pos) (tCa sp E t) := by
  obtain ⟨f, fd, F, hm, hk, hb⟩ := D.ex
  rw [← tCa_eq]
  exact pe_call F hr hg hm hk hb .nil hx ha hdb he hpl
theorem pe_def0 (D : Dok X.prog X.w X.K X.mg X.base k x ps sp) (hr : Room k X.A) (hg : Gl X x) (hx : Passes (L2.CX X.prog X.w) X E) (hdb : (x == ("__debug__" : Str)) = false := by decide) : PE X (.Call (.Name x p) [] [] pos) (tCa sp E tNil) := by
  obtain ⟨f, fd, F, hm, hk, hb⟩ := D.ex
  rw [← tCa_eq]
  exact pe_call0 F hr hg hm hk hb .nil hx hdb
/-- within a try's body -/
theorem pe_defW {W : WX} (D : Dok X.prog X.w X.K X.mg X.base k x ps sp) (hr : Room k X.A) (hg : Gl X x) (tk : Takes X W)
    (ha : PA X (e :: es) t) (hdb : (x == ("__debug__" : Str)) = false := by decide) (he : starEach (e :: es) X.env = (false, eval e X.env) :: starEach es X.env := by rfl) (hpl : (backTo pos (starEach es X.env)).any (·.1) = false := by rfl) :
    PE X (.Call (.Name x p) (e :: es) [] pos) (tCw sp W t) := by
  obtain ⟨f, fd, F, hm, hk, hb⟩ := D.ex
  exact pe_callS (E := WE W) F hr hg hm hk hb (fun σ => passAt tk σ) ha hdb he hpl
end
/-! ### what an operation asks, by names that stand -/
def nAdd : R2 := rI0 fun i j => .int (i + j)
def nSub : R2 := rI0 fun i j => .int (i - j)
def nMul : R2 := rI CMul fun i j => .int (i * j)
def nDiv : R2 := rI CDiv fun i j => .int (i / j)
def nMod : R2 := rI (fun _ j => 0 < j) fun i j => .int (i % j)
def nPow : R2 := rI CPow fun i j => .int (i ^ j.toNat)
def nLt : R2 := rI0 fun i j => .bl (decide (i < j))
def nLe : R2 := rI0 fun i j => .bl (decide (i ≤ j))
def nGt : R2 := rI0 fun i j => .bl (decide (j < i))
def nGe : R2 := rI0 fun i j => .bl (decide (j ≤ i))
def nIsN : R2 := fun x y H Q => y = .non ∧ Q (.bl (decide (x = .non))) H
def nNotN : R2 := fun x y H Q => y = .non ∧ Q (.bl (!decide (x = .non))) H
def nNeg : V → Hp → VK → Prop := rU fun i => .int (-i)
def rcLen (K : PySem.W.Frag) : List V → Hp → VK → Prop := fun xs H Q => ∃ p ys, xs = [.ref p] ∧ (SqL K H p ys ∨ SqT K H p ys) ∧ Q (.int ys.length) H
def rcMin : List V → Hp → VK → Prop := fun xs H Q => ∃ i j, xs = [.int i, .int j] ∧ Q (.int (if j < i then j else i)) H
def rcMax : List V → Hp → VK → Prop := fun xs H Q => ∃ i j, xs = [.int i, .int j] ∧ Q (.int (if j > i then j else i)) H
def rcInt : List V → Hp → VK → Prop := fun xs H Q => (∃ i, xs = [.int i] ∧ Q (.int i) H) ∨ ∃ k, xs = [.bl k] ∧ Q (.int (if k then 1 else 0)) H
def rcList (K : PySem.W.Frag) : List V → Hp → VK → Prop := fun xs H Q => ∃ p ys, xs = [.ref p] ∧ (SqL K H p ys ∨ SqT K H p ys) ∧ ∀ l, H l = none → Q (.ref l) (upd H l (.lst ys))
def rcTuple (K : PySem.W.Frag) : List V → Hp → VK → Prop := fun xs H Q => ∃ p ys, xs = [.ref p] ∧ ((SqL K H p ys ∧ ∀ l, H l = none → Q (.ref l) (upd H l (.tup ys))) ∨ (SqT K H p ys ∧ Q (.ref p) H))
section
variable {X : Cx}
theorem o_add : OpR X (binaryOp .Add) nAdd := op_add
theorem o_sub : OpR X (binaryOp .Sub) nSub := op_sub
theorem o_mul : OpR X (binaryOp .Mult) nMul := op_mul
theorem o_div : OpR X (binaryOp .FloorDiv) nDiv := op_fdiv
theorem o_mod : OpR X (binaryOp .Mod) nMod := op_mod
theorem o_pow : OpR X (binaryOp .Pow) nPow := op_pow
theorem o_lt : OpR X (compareOp .Lt) nLt := op_lt
theorem o_le : OpR X (compareOp .LtE) nLe := op_le
theorem o_gt : OpR X (compareOp .Gt) nGt := op_gt
theorem o_ge : OpR X (compareOp .GtE) nGe := op_ge
theorem o_isN : OpR X (compareOp .Is) nIsN := op_isN
theorem o_notN : OpR X (compareOp .IsNot) nNotN := op_notN
theorem u_neg : UnR X (unaryOp .USub) nNeg := un_neg
theorem c_len : CallR X (.builtin "len") (rcLen X.K) := call_len_seq
theorem c_min (hc : X.calm = true) : CallR X (.builtin "min") rcMin := call_min2 hc
theorem c_max (hc : X.calm = true) : CallR X (.builtin "max") rcMax := call_max2 hc
theorem c_int : CallR X (.type "int") rcInt := call_int1
theorem c_list : CallR X (.type "list") (rcList X.K) := call_list_of
theorem c_tuple : CallR X (.type "tuple") (rcTuple X.K) := call_tuple_of
end
/-! ### tests and branches -/
def isB (x : V) (H : Hp) (Q : Bool → Hp → Prop) : Prop := ∃ k, x = .bl k ∧ Q k H
def tT (te : TE) : TT := fun σ H Q => te σ H fun x H1 => isB x H1 Q
def br (b : Bool) (A B : Prop) : Prop := if b = true then A else B
section
variable {X : Cx} {a b e : Expr} {ta tb te : TE} {pos : Pos} {op : CmpOp} {r : R2}
theorem pt_c (ho : OpR X (compareOp op) r) (ha : PE X a ta) (hb : PE X b tb) (hm : behindInMarks op b = false) : PT X (.Compare a [op] [b] pos) (tT (tOp r ta tb)) := pt_cmpR ho ha hb hm
theorem pt_e (h : PE X e te) (he : ∀ whole, isTrue e X.env whole = (do let v ← whole; standAt e.pos; holding [v] (truthy v)) := by intro _; rfl) : PT X e (tT te) := pt_val h he
end
section
variable {A B : Prop} {b : Bool} {p : Prop} [Decidable p]
theorem br_t (h : A) : br true A B := iteT h
theorem br_f (h : B) : br false A B := iteF h
theorem br_b (h1 : b = true → A) (h2 : b = false → B) : br b A B := by
  cases b with
  | true => exact br_t (h1 rfl)
  | false => exact br_f (h2 rfl)
theorem br_d (h1 : p → A) (h2 : ¬ p → B) : br (decide p) A B := by
  by_cases h : p
  · rw [decide_eq_true h]; exact br_t (h1 h)
  · rw [decide_eq_false h]; exact br_f (h2 h)
theorem br_nd (h1 : ¬ p → A) (h2 : p → B) : br (!decide p) A B := by
  by_cases h : p
  · rw [decide_eq_true h]; exact br_f (h2 h)
  · rw [decide_eq_false h]; exact br_t (h1 h)
theorem br_nt (h : B) : br (!true) A B := br_f h
theorem br_nf (h : A) : br (!false) A B := br_t h
theorem br_nb (h1 : b = false → A) (h2 : b = true → B) : br (!b) A B := by
  cases b with
  | true => exact br_f (h2 rfl)
  | false => exact br_t (h1 rfl)
theorem br_yes (hb : b = true) (h : A) : br b A B := by rw [hb]; exact br_t h
theorem br_no (hb : b = false) (h : B) : br b A B := by rw [hb]; exact br_f h
end
/-! ### readings -/
def nL (xs : List V) (H : Hp) (Q : VK) : Prop := xs.length ≤ sizeLine ∧ ∀ p, H p = none → Q (.ref p) (upd H p (.lst xs))
def nT (xs : List V) (H : Hp) (Q : VK) : Prop := xs.length ≤ sizeLine ∧ ∀ p, H p = none → Q (.ref p) (upd H p (.tup xs))
def Sq (K : PySem.W.Frag) (H : Hp) (a : Addr) (xs : List V) : Prop := SqL K H a xs ∨ SqT K H a xs
def iSeq (K : PySem.W.Frag) (tl : TE) : TI := iList K tl
def lp (J : It) (g : TG) (tb : TS) (D : Ends) (σ : L2.St) (H : Hp) : Prop := ∃ W : Nat → Nat → L2.St → Hp → Prop, (∃ m, W 0 m σ H) ∧ ∀ i m σ H, W i m σ H →
  (J.stop i H ∧ D.nx σ H) ∨ (J.go i H ∧ ∃ N : L2.St → Hp → Prop, (∀ σ' H', N σ' H' → ∃ m', m' < m ∧ W (i + 1) m' σ' H') ∧ ∀ x H', J.yld i H x H' → g x σ H' fun σ2 H2 => tb { D with nx := N, ct := N, bk := D.nx } σ2 H2)
def rg1 (vs : List V) (H : Hp) (R : It → Hp → Prop) : Prop := ∃ j : Int, vs = [.int j] ∧ -(2 ^ 62) ≤ j ∧ j < 2 ^ 62 ∧ R (Itr 0 j.toNat) H
def rg2 (vs : List V) (H : Hp) (R : It → Hp → Prop) : Prop := ∃ i j : Int, vs = [.int i, .int j] ∧ (-(2 ^ 62) ≤ i ∧ i < 2 ^ 62 ∧ -(2 ^ 62) ≤ j ∧ j < 2 ^ 62) ∧ R (Itr i (j - i).toNat) H
def wl (K : PySem.W.Frag) (x : V) (H : Hp) (R : It → Hp → Prop) : Prop := ∃ a, x = .ref a ∧ (∃ xs, SqL K H a xs) ∧ R (Itl K a) H
def wt (K : PySem.W.Frag) (x : V) (H : Hp) (R : It → Hp → Prop) : Prop := ∃ a, x = .ref a ∧ (∃ xs, SqT K H a xs) ∧ R (Itt K a) H
def bm0 (K : PySem.W.Frag) (T : String) (r : V → List V → Hp → VK → Prop) (x : V) (H : Hp) (Q : VK) : Prop := tyV K T x H ∧ r x [] H Q
def bm1 (K : PySem.W.Frag) (T : String) (r : V → List V → Hp → VK → Prop) (t : TA) (σ : L2.St) (x : V) (H : Hp) (Q : VK) : Prop := tyV K T x H ∧ t σ H fun xs H2 => r x xs H2 Q
section
variable {K : PySem.W.Frag} {σ : L2.St} {H : Hp} {Q : VK} {QB : Bool → Hp → Prop} {QA : List V → Hp → Prop} {D : Ends} {t u : TS} {c d : TT} {ta tb te : TE} {tr : TA} {v x y : V} {i j : Int} {n : Nat} {r : R2} {k : Bool} {p : Addr} {xs : List V} {g : TG} {sp : Sp} {E : XK} {W : WX} {wi : TI} {R : It → Hp → Prop}
theorem r_seq (h : t { D with nx := u D } σ H) : tSeq t u D σ H := h
theorem r_next (h : D.nx σ H) : tNext D σ H := h
theorem r_brk (h : D.bk σ H) : tBreak D σ H := h
theorem r_cont (h : D.ct σ H) : tCont D σ H := h
theorem r_asg (h : te σ H fun x H1 => D.nx (σ.set n (some x)) H1) : tAsg te (gName n) D σ H := h
theorem r_asgS {s : TSet} (h : te σ H fun z H1 => ta σ H1 fun o H2 => tb σ H2 fun i H3 => s o i z H3 fun H4 => D.nx σ H4) : tAsg te (gSub ta tb s) D σ H := h
theorem r_drop (h : te σ H fun _ H1 => D.nx σ H1) : tDrop te D σ H := h
theorem r_ret (h : te σ H D.rt) : tRet te D σ H := h
theorem r_retN (h : D.rt .non H) : tRetN D σ H := h
theorem r_ifS (h : c σ H fun b H1 => br b (t D σ H1) (u D σ H1)) : tIfS c t u D σ H := h
theorem r_if (h : c σ H fun b H1 => br b (ta σ H1 Q) (tb σ H1 Q)) : tIf c ta tb σ H Q := h
theorem r_var (e : σ[n]? = some (some v)) (h : Q v H) : tVar n σ H Q := ⟨v, e, h⟩
theorem r_c (h : Q v H) : tC v σ H Q := h
theorem r_op (h : ta σ H fun x H1 => tb σ H1 fun y H2 => r x y H2 Q) : tOp r ta tb σ H Q := h
theorem r_un {r : V → Hp → VK → Prop} (h : ta σ H fun x H1 => r x H1 Q) : tUn r ta σ H Q := h
theorem r_T (h : te σ H fun x H1 => isB x H1 QB) : tT te σ H QB := h
theorem r_isB (h : QB k H) : isB (.bl k) H QB := ⟨k, rfl, h⟩
theorem r_and (h : c σ H fun b H1 => br b (d σ H1 QB) (QB false H1)) : tAnd c d σ H QB := h
theorem r_or (h : c σ H fun b H1 => br b (QB true H1) (d σ H1 QB)) : tOr c d σ H QB := h
theorem r_not (h : c σ H fun b H1 => QB (!b) H1) : tNot c σ H QB := h
theorem r_andV (h : ta σ H fun x H1 => isB x H1 fun b H2 => br b (tb σ H2 Q) (Q (.bl false) H2)) : tAndV ta tb σ H Q := h
theorem r_orV (h : ta σ H fun x H1 => isB x H1 fun b H2 => br b (Q (.bl true) H2) (tb σ H2 Q)) : tOrV ta tb σ H Q := h
theorem r_notV (h : ta σ H fun x H1 => isB x H1 fun b H2 => Q (.bl (!b)) H2) : tNotV ta σ H Q := h
theorem r_nil (h : QA [] H) : tNil σ H QA := h
theorem r_cons (h : te σ H fun x H1 => tr σ H1 fun xs H2 => QA (x :: xs) H2) : tCons te tr σ H QA := h
theorem r_lst (h : tr σ H fun xs H1 => nL xs H1 Q) : tLst tr σ H Q := h
theorem r_tup (h : tr σ H fun xs H1 => nT xs H1 Q) : tTup tr σ H Q := h
theorem r_nL (hl : xs.length ≤ sizeLine) (h : ∀ p, H p = none → Q (.ref p) (upd H p (.lst xs))) : nL xs H Q := ⟨hl, h⟩
theorem r_nT (hl : xs.length ≤ sizeLine) (h : ∀ p, H p = none → Q (.ref p) (upd H p (.tup xs))) : nT xs H Q := ⟨hl, h⟩
theorem r_ca (h : tr σ H fun vs H1 => sp vs H1 Q E) : tCa sp E tr σ H Q := h
theorem r_cw (h : tr σ H fun vs H1 => sp vs H1 Q fun c d H2 => W c d σ H2) : tCw sp W tr σ H Q := h
theorem r_cb {r : List V → Hp → VK → Prop} (h : tr σ H fun vs H1 => r vs H1 Q) : tCB r tr σ H Q := h
theorem r_add (h : Q (.int (i + j)) H) : nAdd (.int i) (.int j) H Q := ⟨i, j, rfl, rfl, h⟩
theorem r_sub (h : Q (.int (i - j)) H) : nSub (.int i) (.int j) H Q := ⟨i, j, rfl, rfl, h⟩
theorem r_mul (c : CMul i j) (h : Q (.int (i * j)) H) : nMul (.int i) (.int j) H Q := ⟨i, j, rfl, rfl, c, h⟩
theorem r_div (c : 0 < j ∧ j < 1073741824) (h : Q (.int (i / j)) H) : nDiv (.int i) (.int j) H Q := ⟨i, j, rfl, rfl, c, h⟩
theorem r_mod (c : 0 < j) (h : Q (.int (i % j)) H) : nMod (.int i) (.int j) H Q := ⟨i, j, rfl, rfl, c, h⟩
theorem r_pow (c : CPow i j) (h : Q (.int (i ^ j.toNat)) H) : nPow (.int i) (.int j) H Q := ⟨i, j, rfl, rfl, c, h⟩
theorem r_lt (h : Q (.bl (decide (i < j))) H) : nLt (.int i) (.int j) H Q := ⟨i, j, rfl, rfl, h⟩
theorem r_le (h : Q (.bl (decide (i ≤ j))) H) : nLe (.int i) (.int j) H Q := ⟨i, j, rfl, rfl, h⟩
theorem r_gt (h : Q (.bl (decide (j < i))) H) : nGt (.int i) (.int j) H Q := ⟨i, j, rfl, rfl, h⟩
theorem r_ge (h : Q (.bl (decide (j ≤ i))) H) : nGe (.int i) (.int j) H Q := ⟨i, j, rfl, rfl, h⟩
theorem r_neg (h : Q (.int (-i)) H) : nNeg (.int i) H Q := ⟨i, rfl, h⟩
theorem r_isN (h : Q (.bl (decide (x = .non))) H) : nIsN x .non H Q := ⟨rfl, h⟩
theorem r_notN (h : Q (.bl (!decide (x = .non))) H) : nNotN x .non H Q := ⟨rfl, h⟩
theorem r_eqI (h : Q (.bl (decide (i = j))) H) : rEq (.int i) (.int j) H Q := ⟨rfl, by
  have e : decide (V.int i = V.int j) = decide (i = j) := by simp
  rw [e]; exact h⟩
theorem r_neI (h : Q (.bl (!decide (i = j))) H) : rNe (.int i) (.int j) H Q := ⟨rfl, by
  have e : decide (V.int i = V.int j) = decide (i = j) := by simp
  rw [e]; exact h⟩
theorem r_eqB {a b : Bool} (h : Q (.bl (decide (a = b))) H) : rEq (.bl a) (.bl b) H Q := ⟨rfl, by
  have e : decide (V.bl a = V.bl b) = decide (a = b) := by simp
  rw [e]; exact h⟩
theorem r_neB {a b : Bool} (h : Q (.bl (!decide (a = b))) H) : rNe (.bl a) (.bl b) H Q := ⟨rfl, by
  have e : decide (V.bl a = V.bl b) = decide (a = b) := by simp
  rw [e]; exact h⟩
theorem r_ixL (h : SqL K H p xs) (e : atI xs i = some v) (q : Q v H) : rIx K (.ref p) (.int i) H Q := .inl ⟨p, xs, i, v, rfl, rfl, h, e, q⟩
theorem r_ixT (h : SqT K H p xs) (e : atI xs i = some v) (q : Q v H) : rIx K (.ref p) (.int i) H Q := .inr (.inl ⟨p, xs, i, v, rfl, rfl, h, e, q⟩)
theorem r_ix (h : Sq K H p xs) (e : atI xs i = some v) (q : Q v H) : rIx K (.ref p) (.int i) H Q := by
  rcases h with h | h
  · exact r_ixL h e q
  · exact r_ixT h e q
theorem r_len (h : Sq K H p xs) (q : Q (.int xs.length) H) : rcLen K [.ref p] H Q := ⟨p, xs, rfl, h, q⟩
theorem r_min (q : Q (.int (if j < i then j else i)) H) : rcMin [.int i, .int j] H Q := ⟨i, j, rfl, q⟩
theorem r_max (q : Q (.int (if j > i then j else i)) H) : rcMax [.int i, .int j] H Q := ⟨i, j, rfl, q⟩
theorem r_int (q : Q (.int i) H) : rcInt [.int i] H Q := .inl ⟨i, rfl, q⟩
theorem r_list (h : Sq K H p xs) (q : ∀ l, H l = none → Q (.ref l) (upd H l (.lst xs))) : rcList K [.ref p] H Q := ⟨p, xs, rfl, h, q⟩
theorem r_gcd (q : Q (.int ((Nat.gcd i.natAbs j.natAbs : Nat) : Int)) H) : rGcd [.int i, .int j] H Q := ⟨i, j, rfl, q⟩
theorem r_for (h : wi σ H fun J H1 => lp J g t D σ H1) : tFor wi g t D σ H := h
theorem r_rg1 (h : tr σ H fun vs H1 => rg1 vs H1 R) : iRng1 tr σ H R := h
theorem r_rg2 (h : tr σ H fun vs H1 => rg2 vs H1 R) : iRng2 tr σ H R := h
theorem r_rgN (h : n < 2 ^ 62) (q : R (Itr 0 n) H) : rg1 [.int n] H R := ⟨n, rfl, by omega, by omega, by rw [Int.toNat_natCast]; exact q⟩
theorem r_wlI (h : te σ H fun x H1 => wl K x H1 R) : iList K te σ H R := h
theorem r_wtI (h : te σ H fun x H1 => wt K x H1 R) : iTup K te σ H R := h
theorem r_wl (h : SqL K H p xs) (q : R (Itl K p) H) : wl K (.ref p) H R := ⟨p, rfl, ⟨xs, h⟩, q⟩
theorem r_wt (h : SqT K H p xs) (q : R (Itt K p) H) : wt K (.ref p) H R := ⟨p, rfl, ⟨xs, h⟩, q⟩
theorem r_bm0 {r : V → List V → Hp → VK → Prop} {T : String} (h : te σ H fun x H1 => bm0 K T r x H1 Q) : tBM0 K T r te σ H Q := h
theorem r_bm {r : V → List V → Hp → VK → Prop} {T : String} (h : te σ H fun x H1 => bm1 K T r tr σ x H1 Q) : tBM K T r te tr σ H Q := h
theorem r_pop (h : H p = some (.lst xs)) (e : xs[xs.length - 1]? = some v) (q : Q v (upd H p (.lst xs.dropLast))) : bm0 K "list" rPop (.ref p) H Q := ⟨.inl ⟨rfl, _, SqL.of h⟩, p, xs, v, rfl, rfl, h, e, q⟩
theorem r_rev (h : H p = some (.lst xs)) (q : Q .non (upd H p (.lst xs.reverse))) : bm0 K "list" rReverse (.ref p) H Q := ⟨.inl ⟨rfl, _, SqL.of h⟩, p, xs, rfl, rfl, h, q⟩
theorem r_bmL {r : V → List V → Hp → VK → Prop} (h : H p = some (.lst xs)) (q : tr σ H fun vs H2 => r (.ref p) vs H2 Q) : bm1 K "list" r tr σ (.ref p) H Q := ⟨.inl ⟨rfl, _, SqL.of h⟩, q⟩
theorem r_app (h : H p = some (.lst xs)) (z : xs.length < sizeLine) (q : Q .non (upd H p (.lst (xs ++ [v])))) : rAppend (.ref p) [v] H Q := ⟨p, xs, v, rfl, rfl, h, z, q⟩
theorem r_setL {m : Nat} {Qh : Hp → Prop} (h : H p = some (.lst xs)) (e : ixN xs.length i = some m) (q : Qh (upd H p (.lst (xs.set m v)))) : rSetL (.ref p) (.int i) v H Qh := ⟨p, xs, i, m, rfl, rfl, h, e, q⟩
theorem lp_list (Pv : Nat → L2.St → Hp → Prop) (h0 : Pv 0 σ H) (hl : ∀ i σ H, i ≤ xs.length → Pv i σ H → SqL K H p xs)
    (hs : ∀ i x σ H, xs[i]? = some x → Pv i σ H → g x σ H fun σ2 H2 => t { D with nx := Pv (i + 1), ct := Pv (i + 1), bk := D.nx } σ2 H2) (hd : ∀ σ H, Pv xs.length σ H → D.nx σ H) : lp (Itl K p) g t D σ H := for_list Pv h0 hl hs hd
theorem lp_tup (Pv : Nat → L2.St → Hp → Prop) (h0 : Pv 0 σ H) (hl : ∀ i σ H, i ≤ xs.length → Pv i σ H → SqT K H p xs)
    (hs : ∀ i x σ H, xs[i]? = some x → Pv i σ H → g x σ H fun σ2 H2 => t { D with nx := Pv (i + 1), ct := Pv (i + 1), bk := D.nx } σ2 H2) (hd : ∀ σ H, Pv xs.length σ H → D.nx σ H) : lp (Itt K p) g t D σ H := for_tup Pv h0 hl hs hd
theorem lp_rng {lo : Int} (Pv : Nat → L2.St → Hp → Prop) (h0 : Pv 0 σ H) (hs : ∀ (i : Nat) σ H, i < n → Pv i σ H → g (.int (lo + i)) σ H fun σ2 H2 => t { D with nx := Pv (i + 1), ct := Pv (i + 1), bk := D.nx } σ2 H2)
    (hd : ∀ σ H, Pv n σ H → D.nx σ H) : lp (Itr lo n) g t D σ H := for_range Pv h0 hs hd
theorem r_gN {q : Nat} {Qs : L2.St → Hp → Prop} (h : Qs (σ.set q (some v)) H) : gName q v σ H Qs := h
end
/-! ### heaps -/
theorem same_new {H : Hp} {p : Addr} {o : HO} (h : H p = none) : Same H (upd H p o) := fun b u e => by
  rw [upd_ne (ne_of_none e h)]
  exact e
theorem _root_.L2.Same.new {H H1 : Hp} {p : Addr} {o : HO} (s : Same H H1) (h : H1 p = none) : Same H (upd H1 p o) := s.trans (same_new h)
theorem _root_.L2.Same.seqT {K : PySem.W.Frag} {H H' : Hp} {a : Addr} {xs : List V} (e : Same H H') (h : SqT K H a xs) : SqT K H' a xs := by
  rcases h with (h | ⟨o, h⟩) | h
  · exact .inl (.inl (e _ _ h))
  · exact .inl (.inr ⟨o, e _ _ h⟩)
  · exact .inr h
theorem _root_.L2.Same.sq {K : PySem.W.Frag} {H H' : Hp} {a : Addr} {xs : List V} (e : Same H H') (h : Sq K H a xs) : Sq K H' a xs := by
  rcases h with h | h
  · exact .inl (e.seq h)
  · exact .inr (Same.seqT e h)
/-- all but what stands at l is as it was -/
def Bt (l : Addr) (H H' : Hp) : Prop := ∀ b o, b ≠ l → H b = some o → H' b = some o
theorem Bt.refl (l : Addr) (H : Hp) : Bt l H H := fun _ _ _ h => h
theorem Bt.trans {l : Addr} {H H1 H2 : Hp} (a : Bt l H H1) (b : Bt l H1 H2) : Bt l H H2 := fun c o n h => b c o n (a c o n h)
theorem Bt.of {l : Addr} {H H' : Hp} (s : Same H H') : Bt l H H' := fun b o _ h => s b o h
theorem Bt.put {l : Addr} {H : Hp} {o : HO} : Bt l H (upd H l o) := fun b u n e => by
  rw [upd_ne n]
  exact e
end Nw
end
section
set_option Elab.async false
set_option linter.all false
set_option maxRecDepth 100000
set_option maxHeartbeats 2000000
/-! what many laws share: is_int, is_row, check_number, the draws -/
namespace Nw
open PySem PySem.Spec PyProof.Rows L2
local macro_rules | `(tactic| walk_at "rd1") => `(tactic| repeat' (first | with_reducible refine r_asg ?_ | with_reducible refine r_c ?_ | with_reducible refine r_op ?_ | ((with_reducible refine' r_var ?ev ?_); (case ev => rfl)) | with_reducible refine r_sub ?_))
local macro_rules | `(tactic| walk_at "rd") => `(tactic| repeat' (first
  | with_reducible refine r_seq ?_ | with_reducible refine r_asg ?_ | with_reducible refine r_ret ?_ | with_reducible refine r_retN ?_ | with_reducible refine r_drop ?_ | with_reducible refine r_next ?_ | with_reducible refine r_brk ?_ | with_reducible refine r_cont ?_
  | ((with_reducible refine' r_var ?ev ?_); (case ev => rfl)) | with_reducible refine r_c ?_ | with_reducible refine r_op ?_ | with_reducible refine r_un ?_ | with_reducible refine r_ifS ?_ | with_reducible refine r_if ?_
  | with_reducible refine r_T ?_ | with_reducible refine r_isB ?_ | with_reducible refine r_and ?_ | with_reducible refine r_or ?_ | with_reducible refine r_not ?_ | with_reducible refine r_andV ?_ | with_reducible refine r_orV ?_ | with_reducible refine r_notV ?_
  | with_reducible refine r_nil ?_ | with_reducible refine r_cons ?_ | with_reducible refine r_lst ?_ | with_reducible refine r_tup ?_ | with_reducible refine r_ca ?_ | with_reducible refine r_cw ?_ | with_reducible refine r_cb ?_
  | with_reducible refine r_add ?_ | with_reducible refine r_sub ?_ | with_reducible refine r_neg ?_ | with_reducible refine r_lt ?_ | with_reducible refine r_le ?_ | with_reducible refine r_gt ?_ | with_reducible refine r_ge ?_ | with_reducible refine r_eqI ?_ | with_reducible refine r_neI ?_ | with_reducible refine r_eqB ?_ | with_reducible refine r_neB ?_
  | with_reducible refine r_isN ?_ | with_reducible refine r_notN ?_ | with_reducible refine r_min ?_ | with_reducible refine r_max ?_ | with_reducible refine r_int ?_ | with_reducible refine r_gcd ?_ | with_reducible refine r_for ?_ | with_reducible refine r_rg1 ?_ | with_reducible refine r_rg2 ?_ | with_reducible refine r_wlI ?_ | with_reducible refine r_wtI ?_ | with_reducible refine r_gN ?_ | with_reducible refine r_asgS ?_ | with_reducible refine r_bm0 ?_ | with_reducible refine r_bm ?_
  | with_reducible refine br_t ?_ | with_reducible refine br_f ?_ | with_reducible refine br_nt ?_ | with_reducible refine br_nf ?_))
/-! ### kinds -/
/-- is it an int, told of what is no object -/
def intB : V → Option Bool
  | .int _ => some true
  | .bl _ => some false
  | .non => some false
  | .str _ => some false
  | _ => none
section
variable {K : PySem.W.Frag} {H H' : Hp} {Q : VK} {x v : V} {a : Addr} {xs : List V} {t n : String} {b : Bool}
theorem r_isi (ty : TyX K H x (.type t)) (e : kitB t n = some b) (q : Q (.bl b) H) : rIsi K [x, .ty n] H Q := ⟨x, .ty n, .type t, .type n, b, rfl, .ty n, ty, kit_ty e, q⟩
theorem ty_l (h : SqL K H a xs) : TyX K H (.ref a) (.type "list") := by
  rcases h with (h | ⟨o, h⟩) | ⟨o, its, n, h1, h2, _⟩
  · exact .base (.lst h)
  · exact .base (.frz h)
  · exact .kList h1 h2
theorem ty_t (h : SqT K H a xs) : TyX K H (.ref a) (.type "tuple") := by
  rcases h with (h | ⟨o, h⟩) | ⟨o, its, n, h1, h2, _⟩
  · exact .base (.tup h)
  · exact .fTuple h
  · exact .kTuple h1 h2
def kindOf : V → String
  | .int _ => "int"
  | .bl _ => "bool"
  | .non => "NoneType"
  | .str _ => "str"
  | _ => ""
theorem ty_flat (h : intB x = some b) : TyX K H x (.type (kindOf x)) := by
  cases x with
  | int i => exact .base (.int i)
  | bl i => exact .base (.bl i)
  | non => exact .base .non
  | str i => exact .base (.str i)
  | _ => cases h
theorem lt_no {t : String} (h1 : kitB t "list" = some false) (h2 : kitB t "tuple" = some false) : PySem.W.kitAny K (.type t) [.type "list", .type "tuple"] = some false :=
  kitAny_cons (kit_ty h1) (fun _ => kitAny_cons (kit_ty h2) (fun _ => kitAny_nil) (fun h => nomatch h)) (fun h => nomatch h)
theorem lt_l : PySem.W.kitAny K (.type "list") [.type "list", .type "tuple"] = some true := kitAny_cons (kit_ty (b := "list") (r := true) (by decide +kernel)) (fun h => nomatch h) (fun _ => rfl)
theorem lt_t : PySem.W.kitAny K (.type "tuple") [.type "list", .type "tuple"] = some true := kitAny_cons (kit_ty (b := "list") (r := false) (by decide +kernel)) (fun _ => kitAny_cons (kit_ty (b := "tuple") (r := true) (by decide +kernel)) (fun h => nomatch h) (fun _ => rfl)) (fun h => nomatch h)
theorem lt_flat (h : intB x = some b) : PySem.W.kitAny K (.type (kindOf x)) [.type "list", .type "tuple"] = some false := by
  cases x with
  | int i => exact lt_no (t := "int") (by decide +kernel) (by decide +kernel)
  | bl i => exact lt_no (t := "bool") (by decide +kernel) (by decide +kernel)
  | non => exact lt_no (t := "NoneType") (by decide +kernel) (by decide +kernel)
  | str i => exact lt_no (t := "str") (by decide +kernel) (by decide +kernel)
  | _ => cases h
theorem r_isiT {tp : Addr} (h : H tp = some (.tup [.ty "list", .ty "tuple"])) (ty : TyX K H x (.type t)) (e : PySem.W.kitAny K (.type t) [.type "list", .type "tuple"] = some b) (q : Q (.bl b) H) : rIsiT K [x, .ref tp] H Q :=
  ⟨x, tp, _, .type t, _, b, rfl, h, .cons (.ty "list") (.cons (.ty "tuple") .nil), ty, e, q⟩
end
theorem ty_mono {K : PySem.W.Frag} {H H' : Hp} {x : V} {t : String} (s : Same H H') (h : TyX K H x (.type t)) : TyX K H' x (.type t) := by
  cases h with
  | base h =>
    cases h with
    | non => exact .base .non
    | bl x => exact .base (.bl x)
    | int x => exact .base (.int x)
    | str x => exact .base (.str x)
    | flt x => exact .base (.flt x)
    | lst e => exact .base (.lst (s _ _ e))
    | frz e => exact .base (.frz (s _ _ e))
    | tup e => exact .base (.tup (s _ _ e))
    | dK e => exact .base (.dK (s _ _ e))
    | dT e => exact .base (.dT (s _ _ e))
  | byt b => exact .byt b
  | set e => exact .set (s _ _ e)
  | kList e c => exact .kList e c
  | kTuple e c => exact .kTuple e c
  | kDict e c => exact .kDict e c
  | fTuple e => exact .fTuple (s _ _ e)
  | fDict e => exact .fDict (s _ _ e)
/-! ### is_int, is_row, check_number -/
def sp_is_int (K : PySem.W.Frag) : Sp := fun vs H Q _ => ∃ v t, vs = [v] ∧ TyX K H v (.type t) ∧ t ∈ ["int", "bool", "NoneType", "str", "list", "tuple"] ∧ Q (.bl (t == "int")) H
def sp_is_row (K : PySem.W.Frag) : Sp := fun vs H Q _ => ∃ v t, vs = [v] ∧ TyX K H v (.type t) ∧ t ∈ ["int", "bool", "NoneType", "str", "list", "tuple"] ∧ ∀ H', Same H H' → Q (.bl (t == "list" || t == "tuple")) H'
def t_is_int (K : PySem.W.Frag) : TS := (tRet (tAndV (tCB (rIsi K) (tCons (tVar 0) (tCons (tC (.ty "int")) tNil))) (tNotV (tCB (rIsi K) (tCons (tVar 0) (tCons (tC (.ty "bool")) tNil))))))
def t_is_row (K : PySem.W.Frag) : TS := (tRet (tCB (rIsiT K) (tCons (tVar 0) (tCons (tTup (tCons (tC (.ty "list")) (tCons (tC (.ty "tuple")) tNil))) tNil))))
theorem rd_is_int {K : PySem.W.Frag} (vs : List V) (H : Hp) (Q : VK) (E : XK) (h : sp_is_int K vs H Q E) : t_is_int K { nx := fun _ H' => Q .non H', rt := Q } (start ["thing"] vs) H := by
  obtain ⟨v, t, rfl, ty, ht, q⟩ := h
  unfold t_is_int
  walk_at "rd"
  simp only [List.mem_cons, List.not_mem_nil, or_false] at ht
  rcases ht with rfl | rfl | rfl | rfl | rfl | rfl
  · refine r_isi (b := true) ty (by decide +kernel) ?_
    walk_at "rd"
    refine r_isi (b := false) ty (by decide +kernel) ?_
    walk_at "rd"
    exact q
  · refine r_isi (b := true) ty (by decide +kernel) ?_
    walk_at "rd"
    refine r_isi (b := true) ty (by decide +kernel) ?_
    walk_at "rd"
    exact q
  all_goals
    refine r_isi (b := false) ty (by decide +kernel) ?_
    walk_at "rd"
    exact q
theorem rd_is_row {K : PySem.W.Frag} (vs : List V) (H : Hp) (Q : VK) (E : XK) (h : sp_is_row K vs H Q E) : t_is_row K { nx := fun _ H' => Q .non H', rt := Q } (start ["thing"] vs) H := by
  obtain ⟨v, t, rfl, ty, ht, q⟩ := h
  unfold t_is_row
  walk_at "rd"
  refine r_nT (by show 2 ≤ sizeLine; decide) fun p hp => ?_
  walk_at "rd"
  have ty' := ty_mono (same_new (o := .tup [.ty "list", .ty "tuple"]) hp) ty
  simp only [List.mem_cons, List.not_mem_nil, or_false] at ht
  rcases ht with rfl | rfl | rfl | rfl | rfl | rfl
  · exact r_isiT upd_same ty' (lt_no (by decide +kernel) (by decide +kernel)) (q _ (same_new hp))
  · exact r_isiT upd_same ty' (lt_no (by decide +kernel) (by decide +kernel)) (q _ (same_new hp))
  · exact r_isiT upd_same ty' (lt_no (by decide +kernel) (by decide +kernel)) (q _ (same_new hp))
  · exact r_isiT upd_same ty' (lt_no (by decide +kernel) (by decide +kernel)) (q _ (same_new hp))
  · exact r_isiT upd_same ty' lt_l (q _ (same_new hp))
  · exact r_isiT upd_same ty' lt_t (q _ (same_new hp))
/-! ### errors -/
def ps_BadNumber : List Str := ["word"]
def ok_BadNumber (vs : List V) : Prop := ∃ w : Str, vs = [.str w] ∧ w.length ≤ 1000
theorem len_ok_BadNumber {vs : List V} (h : ok_BadNumber vs) : vs.length = ps_BadNumber.length := by
  obtain ⟨w, rfl, _⟩ := h
  rfl
theorem msgAdd_one {f xm : Str} {j} {q1 q2 q3 : Pos} {env : Env} {v : V} {u self : Value} {w : Str} (hv : v = .str w) (hw : w.length ≤ 1000) (r : RelV v u) (hx : xm.length ≤ 100) (hk : env.scope.kind = .function) (hl : env.kindOf f = some .local) (hd : (f == ("__debug__" : Str)) = false) :
    NwX.MsgOk (.BinOp (.Constant (.str xm) j q1) .Add (.Name f q2) q3) env (fun y => ([(("self" : Str), self), (f, u)]).reverse.lookup y) := by
  subst hv
  obtain ⟨t, rfl⟩ := r
  refine NwX.msg_add (z := w) (t := t) hk hl hd ?_ (Nat.le_trans (Nat.add_le_add hx hw) (by decide))
  show List.lookup f [(f, Value.str w t), (("self" : Str), self)] = some (.str w t)
  simp
theorem msgAdd_BadNumber {vs : List V} {us : List Value} {xm : Str} {j} {q1 q2 q3 : Pos} {env : Env} {self : Value} (h : ok_BadNumber vs) (r : Vals vs us) (hx : xm.length ≤ 100) (hk : env.scope.kind = .function) (hl : env.kindOf "word" = some .local) :
    NwX.MsgOk (.BinOp (.Constant (.str xm) j q1) .Add (.Name "word" q2) q3) env (fun y => ((("self" : Str) :: ps_BadNumber).zip (self :: us)).reverse.lookup y) := by
  obtain ⟨w, rfl, hw⟩ := h
  cases r with
  | cons r rn =>
    cases rn
    exact msgAdd_one rfl hw r hx hk hl (by decide +kernel)
def ps_BadRow : List Str := ["place"]
def ok_BadRow (vs : List V) : Prop := ∃ i : Int, vs = [.int i]
theorem len_ok_BadRow {vs : List V} (h : ok_BadRow vs) : vs.length = ps_BadRow.length := by
  obtain ⟨w, rfl⟩ := h
  rfl
/-- what a raise asks -/
def er (C : Addr) (ps : List Str) (okv : List V → Prop) (vs : List V) (H : Hp) (E : XK) : Prop := okv vs ∧ ∀ d, H d = none → E (.ref C) (some d) (upd H d (.xd (errFs ps vs)))
theorem r_raise {C : Addr} {ps : List Str} {okv : List V → Prop} {W : WX} {ta : TA} {D : Ends} {σ : L2.St} {H : Hp} (h : ta σ H fun vs H1 => er C ps okv vs H1 fun c d H2 => W c d σ H2) : tRaiseE C ps okv W ta D σ H := h
def t_check_number (K : PySem.W.Frag) (E : XK) : TS := (tIfS (tOr (tNot (tT (tCa (sp_is_int K) E0 (tCons (tVar 0) tNil)))) (tT (tOp nLt (tVar 0) (tVar 1))))
    (tRaiseE (He.ga K "BadNumber") ps_BadNumber ok_BadNumber (fun cls d _ H => E cls d H) (tCons (tVar 2) tNil))
    tNext)
/-- either a whole number from m on, and all is well; or not, and BadNumber(w) -/
def sp_check_number (K : PySem.W.Frag) : Sp := fun vs H Q E => ∃ (v : V) (m : Int) (w : Str), vs = [v, .int m, .str w] ∧
  ((∃ n : Int, v = .int n ∧ m ≤ n ∧ Q .non H) ∨ (((∃ n : Int, v = .int n ∧ n < m) ∨ intB v = some false) ∧ w.length ≤ 1000 ∧ ∀ d, H d = none → E (.ref (He.ga K "BadNumber")) (some d) (upd H d (.xd [(("word" : Str), .str w)]))))
theorem int_of {K : PySem.W.Frag} {v : V} {H : Hp} {Q : VK} {E : XK} {b : Bool} (h : intB v = some b) (q : Q (.bl b) H) : sp_is_int K [v] H Q E := by
  refine ⟨v, kindOf v, rfl, ty_flat h, ?_, ?_⟩
  · cases v with
    | int i => simp [kindOf]
    | bl i => simp [kindOf]
    | non => simp [kindOf]
    | str i => simp [kindOf]
    | _ => cases h
  · cases v with
    | int i => cases h; exact q
    | bl i => cases h; exact q
    | non => cases h; exact q
    | str i => cases h; exact q
    | _ => cases h
theorem rd_check_number {K : PySem.W.Frag} (vs : List V) (H : Hp) (Q : VK) (E : XK) (h : sp_check_number K vs H Q E) : t_check_number K E { nx := fun _ H' => Q .non H', rt := Q } (start ["number", "least", "word"] vs) H := by
  obtain ⟨v, m, w, rfl, h⟩ := h
  unfold t_check_number
  walk_at "rd"
  rcases h with ⟨n, rfl, hn, q⟩ | ⟨hb, hw, hE⟩
  · refine int_of (b := true) rfl ?_
    walk_at "rd"
    exact br_d (fun c => absurd c (by omega)) fun _ => q
  · have fin : tRaiseE (He.ga K "BadNumber") ps_BadNumber ok_BadNumber (fun cls d _ H => E cls d H) (tCons (tVar 2) tNil) { nx := fun _ H' => Q .non H', rt := Q } (start ["number", "least", "word"] [v, .int m, .str w]) H := by
      refine r_raise ?_
      walk_at "rd"
      exact ⟨⟨w, rfl, hw⟩, fun d hd => hE d hd⟩
    rcases hb with ⟨n, rfl, hn⟩ | hb
    · refine int_of (b := true) rfl ?_
      walk_at "rd"
      exact br_d (fun _ => fin) fun c => absurd hn c
    · refine int_of (b := false) hb ?_
      walk_at "rd"
      exact fin
/-! ### the draws -/
abbrev iv (ns : List Int) : List V := ns.map V.int
/-- the list at l holds whole numbers -/
def Held (l : Addr) (H : Hp) : Prop := ∃ ns : List Int, H l = some (.lst (iv ns))
def sp__law_take (K : PySem.W.Frag) : Sp := fun vs H Q _ => ∃ (l : Addr) (m : Int), vs = [.ref l, .int m] ∧ Held l H ∧ 0 < m ∧ ∀ r H', 0 ≤ r → r < m → Bt l H H' → Held l H' → Q (.int r) H'
def t__law_take (K : PySem.W.Frag) : TS := (tSeq (tIfS (tT (tOp rEq (tCB (rcLen K) (tCons (tVar 0) tNil)) (tC (.int 0))))
    (tRet (tC (.int 0)))
    tNext)
    (tRet (tOp nMod (tCB rcInt (tCons (tBM0 K "list" rPop (tVar 0)) tNil)) (tVar 1))))
theorem rd__law_take {K : PySem.W.Frag} (vs : List V) (H : Hp) (Q : VK) (E : XK) (h : sp__law_take K vs H Q E) : t__law_take K { nx := fun _ H' => Q .non H', rt := Q } (start ["_law_found", "_law_many"] vs) H := by
  obtain ⟨l, m, rfl, ⟨ns, hl⟩, hm, q⟩ := h
  unfold t__law_take
  walk_at "rd"
  refine r_len (xs := iv ns) (.inl (SqL.of hl)) ?_
  walk_at "rd"
  refine br_d (fun c => ?_) (fun c => ?_)
  · walk_at "rd"
    exact q 0 H (Int.le_refl _) hm (Bt.refl _ _) ⟨ns, hl⟩
  · walk_at "rd"
    have hn : ns ≠ [] := fun e => c (by rw [e]; rfl)
    refine r_pop (v := .int (ns.getLast hn)) hl ?_ ?_
    · rw [List.getElem?_map, List.length_map, List.getElem?_eq_getElem (by have := List.length_pos_iff.mpr hn; omega)]
      show some (V.int _) = _
      rw [List.getLast_eq_getElem]
    walk_at "rd"
    refine r_mod hm ?_
    refine q _ _ (Int.emod_nonneg _ (by omega)) (Int.emod_lt_of_pos _ hm) Bt.put ⟨ns.dropLast, ?_⟩
    rw [upd_same, ← List.map_dropLast]
/-! the first draw -/
def t__law_drawn (K : PySem.W.Frag) : TS := (tSeq (tAsg (tLst tNil) (gName 1))
    (tSeq (tFor (iRng1 (tCons (tCB rcMin (tCons (tCB (rcLen K) (tCons (tVar 0) tNil)) (tCons (tC (.int 63)) tNil))) tNil)) (gName 2)
    (tSeq (tAsg (tCB rcInt (tCons (tOp (rIx K) (tVar 0) (tVar 2)) tNil)) (gName 3))
    (tSeq (tIfS (tT (tOp nLt (tVar 3) (tC (.int 0))))
    (tSeq (tDrop (tBM K "list" rAppend (tVar 1) (tCons (tC (.int 1)) tNil)))
    (tAsg (tOp nSub (tC (.int 0)) (tVar 3)) (gName 3)))
    tNext)
    (tIfS (tT (tOp nGe (tVar 3) (tOp nPow (tC (.int 10)) (tC (.int 18)))))
    (tFor (iRng1 (tCons (tC (.int 50)) tNil)) (gName 4)
    (tIfS (tT (tOp nGt (tVar 3) (tC (.int 0))))
    (tSeq (tDrop (tBM K "list" rAppend (tVar 1) (tCons (tOp nMod (tCB rcInt (tCons (tVar 3) tNil)) (tC (.int 30))) tNil)))
    (tAsg (tOp nDiv (tVar 3) (tC (.int 30))) (gName 3)))
    tNext))
    (tSeq (tAsg (tOp nMod (tCB rcInt (tCons (tOp nAdd (tOp nAdd (tOp nMul (tVar 3) (tC (.int 69069))) (tOp nMul (tVar 2) (tC (.int 362437)))) (tC (.int 5))) tNil)) (tC (.int 2147483629))) (gName 5))
    (tFor (iRng1 (tCons (tC (.int 5)) tNil)) (gName 4)
    (tSeq (tAsg (tOp nMod (tCB rcInt (tCons (tOp nAdd (tOp nAdd (tOp nAdd (tOp nMul (tVar 5) (tVar 5)) (tOp nMul (tVar 4) (tC (.int 52021)))) (tOp nMul (tVar 2) (tC (.int 31)))) (tC (.int 11))) tNil)) (tC (.int 2147483587))) (gName 5))
    (tDrop (tBM K "list" rAppend (tVar 1) (tCons (tOp nDiv (tVar 5) (tC (.int 7))) tNil))))))))))
    (tSeq (tDrop (tBM0 K "list" rReverse (tVar 1)))
    (tRet (tVar 1)))))
def sp__law_drawn (K : PySem.W.Frag) : Sp := fun vs H Q _ => ∃ (a : Addr) (ns : List Int), vs = [.ref a] ∧ SqL K H a (iv ns) ∧ ns.length ≤ 63 ∧ ∀ l H', H l = none → Same H H' → Held l H' → Q (.ref l) H'
/-- the list made so far: new, not longer than c -/
def Grown (H : Hp) (l : Addr) (c : Nat) (H' : Hp) : Prop := H l = none ∧ Same H H' ∧ ∃ ns : List Int, H' l = some (.lst (iv ns)) ∧ ns.length ≤ c
theorem Grown.app {H H' : Hp} {l : Addr} {c : Nat} (g : Grown H l c H') (i : Int) : ∃ ns : List Int, H' l = some (.lst (iv ns)) ∧ ns.length ≤ c ∧ Grown H l (c + 1) (upd H' l (.lst (iv ns ++ [.int i]))) := by
  obtain ⟨h0, s, ns, h1, h2⟩ := g
  refine ⟨ns, h1, h2, h0, fun b o e => ?_, ns ++ [i], ?_, ?_⟩
  · rw [upd_ne (ne_of_none e h0)]
    exact s b o e
  · rw [upd_same]
    simp [iv]
  · rw [List.length_append, List.length_singleton]
    omega
theorem Grown.mono {H H' : Hp} {l : Addr} {c d : Nat} (g : Grown H l c H') (h : c ≤ d) : Grown H l d H' := by
  obtain ⟨h0, s, ns, h1, h2⟩ := g
  exact ⟨h0, s, ns, h1, by omega⟩
/-- from the cell's size on -/
def t_dr_tail (K : PySem.W.Frag) : TS := (tIfS (tT (tOp nGe (tVar 3) (tOp nPow (tC (.int 10)) (tC (.int 18)))))
    (tFor (iRng1 (tCons (tC (.int 50)) tNil)) (gName 4)
    (tIfS (tT (tOp nGt (tVar 3) (tC (.int 0))))
    (tSeq (tDrop (tBM K "list" rAppend (tVar 1) (tCons (tOp nMod (tCB rcInt (tCons (tVar 3) tNil)) (tC (.int 30))) tNil)))
    (tAsg (tOp nDiv (tVar 3) (tC (.int 30))) (gName 3)))
    tNext))
    (tSeq (tAsg (tOp nMod (tCB rcInt (tCons (tOp nAdd (tOp nAdd (tOp nMul (tVar 3) (tC (.int 69069))) (tOp nMul (tVar 2) (tC (.int 362437)))) (tC (.int 5))) tNil)) (tC (.int 2147483629))) (gName 5))
    (tFor (iRng1 (tCons (tC (.int 5)) tNil)) (gName 4)
    (tSeq (tAsg (tOp nMod (tCB rcInt (tCons (tOp nAdd (tOp nAdd (tOp nAdd (tOp nMul (tVar 5) (tVar 5)) (tOp nMul (tVar 4) (tC (.int 52021)))) (tOp nMul (tVar 2) (tC (.int 31)))) (tC (.int 11))) tNil)) (tC (.int 2147483587))) (gName 5))
    (tDrop (tBM K "list" rAppend (tVar 1) (tCons (tOp nDiv (tVar 5) (tC (.int 7))) tNil)))))))
theorem small_line {n : Nat} (h : n ≤ 10000) : n < sizeLine := Nat.lt_of_le_of_lt h (by decide)
theorem rd_dr_tail {K : PySem.W.Frag} {H H2 : Hp} {l : Addr} {a : Option V} {c : Int} {i : Int} {v4 v5 : Option V} {n : Nat} {D : Ends} (g : Grown H l n H2) (hn : n ≤ 5000) (hi : 0 ≤ i ∧ i < 63)
    (k : ∀ v3 v4 v5 H', Grown H l (n + 50) H' → D.nx [a, some (.ref l), some (.int i), v3, v4, v5] H') : t_dr_tail K D [a, some (.ref l), some (.int i), some (.int c), v4, v5] H2 := by
  unfold t_dr_tail
  walk_at "rd"
  refine r_pow (by unfold CPow; decide) ?_
  walk_at "rd"
  refine br_d (fun _ => ?_) (fun _ => ?_)
  · walk_at "rd"
    refine r_rgN (n := 50) (by decide) ?_
    refine lp_rng (fun j σ H' => ∃ c v4, σ = [a, some (.ref l), some (.int i), some (.int c), v4, v5] ∧ Grown H l (n + j) H') ⟨c, _, rfl, g⟩ ?_ ?_
    · rintro j σ H' hj ⟨c, v4, rfl, g⟩
      walk_at "rd"
      refine br_d (fun h => ?_) (fun h => ?_)
      · walk_at "rd"
        obtain ⟨ms, h1, h2, g'⟩ := g.app (c % 30)
        refine r_bmL h1 ?_
        walk_at "rd"
        refine r_mod (by decide) ?_
        walk_at "rd"
        refine r_app h1 (small_line (by rw [List.length_map]; omega)) ?_
        walk_at "rd"
        refine r_div ⟨by decide, by decide⟩ ?_
        exact ⟨_, _, rfl, g'⟩
      · exact ⟨_, _, rfl, g.mono (by omega)⟩
    · rintro σ H' ⟨c, v4, rfl, g⟩
      exact k _ _ _ _ g
  · walk_at "rd"
    refine r_mul (.inr (by decide)) ?_
    walk_at "rd"
    refine r_mul (.inr (by decide)) ?_
    walk_at "rd"
    refine r_mod (by decide) ?_
    walk_at "rd"
    refine r_rgN (n := 5) (by decide) ?_
    refine lp_rng (fun j σ H' => ∃ x v4, (0 ≤ x ∧ x < 2147483629) ∧ σ = [a, some (.ref l), some (.int i), some (.int c), v4, some (.int x)] ∧ Grown H l (n + j) H') ⟨_, _, ⟨Int.emod_nonneg _ (by decide), Int.emod_lt_of_pos _ (by decide)⟩, rfl, g⟩ ?_ ?_
    · rintro j σ H' hj ⟨x, v4, hx, rfl, g⟩
      walk_at "rd"
      refine r_mul (.inl ⟨by omega, by omega⟩) ?_
      walk_at "rd"
      refine r_mul (.inr (by decide)) ?_
      walk_at "rd"
      refine r_mul (.inr (by decide)) ?_
      walk_at "rd"
      refine r_mod (by decide) ?_
      walk_at "rd"
      obtain ⟨ms, h1, h2, g'⟩ := g.app ((x * x + (0 + (j : Int)) * 52021 + i * 31 + 11) % 2147483587 / 7)
      refine r_bmL h1 ?_
      walk_at "rd"
      refine r_div ⟨by decide, by decide⟩ ?_
      walk_at "rd"
      refine r_app h1 (small_line (by rw [List.length_map]; omega)) ?_
      refine ⟨_, _, ⟨Int.emod_nonneg _ (by decide), ?_⟩, rfl, g'⟩
      exact Int.lt_trans (Int.emod_lt_of_pos _ (by decide)) (by decide)
    · rintro σ H' ⟨x, v4, hx, rfl, g⟩
      exact k _ _ _ _ (g.mono (by omega))
theorem rd__law_drawn {K : PySem.W.Frag} (vs : List V) (H : Hp) (Q : VK) (E : XK) (h : sp__law_drawn K vs H Q E) : t__law_drawn K { nx := fun _ H' => Q .non H', rt := Q } (start ["_law_script", "_law_found", "_law_place", "_law_cell", "_law_turn", "_law_grain"] vs) H := by
  obtain ⟨a, ns, rfl, hS, hlen, q⟩ := h
  unfold t__law_drawn
  walk_at "rd"
  refine r_nL (Nat.zero_le _) fun l hl => ?_
  walk_at "rd"
  have g0 : Grown H l 0 (upd H l (.lst [])) := ⟨hl, same_new hl, [], upd_same, Nat.le_refl _⟩
  refine r_len (xs := iv ns) (.inl (g0.2.1.seq hS)) ?_
  walk_at "rd"
  have e63 : (if (63 : Int) < ((iv ns).length : Int) then (63 : Int) else ((iv ns).length : Int)) = (ns.length : Int) := by
    rw [List.length_map, if_neg (by omega)]
  rw [e63]
  refine r_rgN (by have : (63 : Nat) < 2 ^ 62 := by decide
                   omega) ?_
  refine lp_rng (fun i σ H' => ∃ v2 v3 v4 v5, σ = [some (.ref a), some (.ref l), v2, v3, v4, v5] ∧ Grown H l (i * 60) H') ⟨_, _, _, _, rfl, by rw [Nat.zero_mul]; exact g0⟩ ?_ ?_
  · rintro i σ H1 hi ⟨v2, v3, v4, v5, rfl, g⟩
    walk_at "rd"
    have hx : ns[i]? = some ns[i] := List.getElem?_eq_getElem hi
    refine r_ixL (xs := iv ns) (v := .int ns[i]) (g.2.1.seq hS) ?_ ?_
    · rw [Int.zero_add, atI_nat (by rw [List.getElem?_map, hx]; rfl)]
    walk_at "rd"
    have i63 : 0 ≤ 0 + (i : Int) ∧ 0 + (i : Int) < 63 := by omega
    have fin : ∀ v3 v4 v5 H', Grown H l (i * 60 + 1 + 50) H' → ∃ w2 w3 w4 w5, ([some (.ref a), some (.ref l), some (.int (0 + (i : Int))), v3, v4, v5] : List (Option V)) = [some (.ref a), some (.ref l), w2, w3, w4, w5] ∧ Grown H l ((i + 1) * 60) H' :=
      fun v3 v4 v5 H' g' => ⟨_, _, _, _, rfl, g'.mono (by omega)⟩
    refine br_d (fun _ => ?_) (fun _ => ?_)
    · walk_at "rd"
      obtain ⟨ms, h1, h2, g'⟩ := g.app 1
      refine r_bmL h1 ?_
      walk_at "rd"
      refine r_app h1 (small_line (by rw [List.length_map]; omega)) ?_
      walk_at "rd1"
      exact rd_dr_tail g' (by omega) i63 fin
    · refine r_next ?_
      exact rd_dr_tail (g.mono (Nat.le_succ _)) (by omega) i63 fin
  · rintro σ H1 ⟨v2, v3, v4, v5, rfl, g⟩
    obtain ⟨h0, s, ms, h1, h2⟩ := g
    walk_at "rd"
    refine r_rev h1 ?_
    walk_at "rd"
    refine q l _ h0 (fun b o e => ?_) ⟨ms.reverse, ?_⟩
    · rw [upd_ne (ne_of_none e h0)]
      exact s b o e
    · rw [upd_same, ← List.map_reverse]
section
variable {K : PySem.W.Frag} {vs : List V} {H : Hp} {Q : VK} {E : XK}
theorem len_is_int (h : sp_is_int K vs H Q E) : vs.length = 1 := by
  obtain ⟨_, _, rfl, _⟩ := h
  rfl
theorem len_is_row (h : sp_is_row K vs H Q E) : vs.length = 1 := by
  obtain ⟨_, _, rfl, _⟩ := h
  rfl
theorem len_check_number (h : sp_check_number K vs H Q E) : vs.length = 3 := by
  obtain ⟨_, _, _, rfl, _⟩ := h
  rfl
theorem len__law_take (h : sp__law_take K vs H Q E) : vs.length = 2 := by
  obtain ⟨_, _, rfl, _⟩ := h
  rfl
theorem len__law_drawn (h : sp__law_drawn K vs H Q E) : vs.length = 1 := by
  obtain ⟨_, _, rfl, _⟩ := h
  rfl
end
/-! ### a heap but for one object -/
def del (l : Addr) (H : Hp) : Hp := fun b => if b = l then none else H b
theorem del_ne {l b : Addr} {H : Hp} (h : b ≠ l) : del l H b = H b := if_neg h
theorem del_at {l : Addr} {H : Hp} : del l H l = none := if_pos rfl
theorem del_same (l : Addr) (H : Hp) : Same (del l H) H := fun b o e => by
  by_cases h : b = l
  · rw [h, del_at] at e; cases e
  · rw [del_ne h] at e; exact e
theorem _root_.Nw.Bt.del {l : Addr} {H H' : Hp} (h : Bt l H H') : Same (Nw.del l H) (Nw.del l H') := fun b o e => by
  by_cases c : b = l
  · rw [c, del_at] at e; cases e
  · rw [del_ne c] at e ⊢; exact h b o c e
theorem _root_.L2.Same.dl {l : Addr} {H H' : Hp} (h : Same H H') : Same (Nw.del l H) (Nw.del l H') := (Bt.of h).del
theorem Bt.fresh {l p : Addr} {H H' : Hp} (h : Bt l H H') (n : p ≠ l) (hp : H' p = none) : H p = none := by
  cases q : H p with
  | none => rfl
  | some o =>
    rw [h p o n q] at hp
    cases hp
theorem del_put {l : Addr} {H : Hp} {o : HO} : del l (upd H l o) = del l H := by
  funext b
  by_cases c : b = l
  · rw [c, del_at, del_at]
  · rw [del_ne c, del_ne c, upd_ne c]
theorem r_rg2N {lo hi : Int} {n : Nat} {H : Hp} {R : It → Hp → Prop} (e : (hi - lo).toNat = n) (b : -(2 ^ 62) ≤ lo ∧ lo < 2 ^ 62 ∧ -(2 ^ 62) ≤ hi ∧ hi < 2 ^ 62) (q : R (Itr lo n) H) : rg2 [.int lo, .int hi] H R := ⟨lo, hi, rfl, b, by rw [e]; exact q⟩
theorem Held.same {l : Addr} {H H' : Hp} (h : Held l H) (s : Same H H') : Held l H' := by
  obtain ⟨ns, e⟩ := h
  exact ⟨ns, s _ _ e⟩
theorem Held.ne {l p : Addr} {H : Hp} (h : Held l H) (hp : H p = none) : p ≠ l := fun e => by
  obtain ⟨ns, q⟩ := h
  rw [e, q] at hp
  cases hp
theorem del_upd {l p : Addr} {H : Hp} {o : HO} (h : p ≠ l) : del l (upd H p o) = upd (del l H) p o := by
  funext b
  by_cases c : b = l
  · rw [c, del_at, upd_ne (Ne.symm h), del_at]
  · rw [del_ne c]
    by_cases d : b = p
    · rw [d, upd_same, upd_same]
    · rw [upd_ne d, upd_ne d, del_ne c]
/-! ### comprehensions -/
def lcG (J : It) (g : TG) (tt : TT) (te : TE) (vs : List Nat) (Q : VK) (σ : L2.St) (H1 : Hp) : Prop := ∀ D, H1 D = none → ∃ W : Nat → Nat → Hp → Prop, (∃ m, W 0 m (upd H1 D (.lst []))) ∧ ∀ i m H, W i m H →
  (J.stop i H ∧ Q (.ref D) H) ∨ (J.go i H ∧ ∃ Nx : Hp → Prop, (∀ H', Nx H' → ∃ m', m' < m ∧ W (i + 1) m' H') ∧ ∀ x H', J.yld i H x H' → g x (wipe σ vs) H' fun σ2 H2 => wipe σ2 vs = wipe σ vs ∧ tt σ2 H2 fun b H3 =>
    if b = true then te σ2 H3 fun y H4 => ∃ acc, H4 D = some (.lst acc) ∧ acc.length < sizeLine ∧ Nx (upd H4 D (.lst (acc ++ [y]))) else Nx H3)
theorem r_lc {wi : TI} {g : TG} {tt : TT} {te : TE} {vs : List Nat} {Q : VK} {σ : L2.St} {H : Hp} (h : wi σ H fun J H1 => lcG J g tt te vs Q σ H1) : tLc wi g tt te vs σ H Q := h
theorem range_map_succ {α : Type} (f : Nat → α) (i : Nat) : (List.range (i + 1)).map f = (List.range i).map f ++ [f i] := by
  rw [List.range_succ, List.map_append]
  rfl
theorem same_upd {H H' : Hp} {D : Addr} {o : HO} (h0 : H D = none) (s : Same H H') : Same H (upd H' D o) := fun b u e => by
  rw [upd_ne (ne_of_none e h0)]
  exact s b u e
/-- [e for x in range(lo, lo + n)], the elements told -/
theorem lc_rng {lo : Int} {n j : Nat} {te : TE} {vs : List Nat} {Q : VK} {σ : L2.St} {H : Hp} (f : Nat → V) (hn : n ≤ 10000) (hw : ∀ x, wipe ((wipe σ vs).set j (some x)) vs = wipe σ vs)
    (hs : ∀ (i : Nat) (H' : Hp) (Q' : VK), i < n → Same H H' → (∀ H4, Same H' H4 → Q' (f i) H4) → te ((wipe σ vs).set j (some (.int (lo + i)))) H' Q')
    (k : ∀ D H', H D = none → Same H H' → H' D = some (.lst ((List.range n).map f)) → Q (.ref D) H') : lcG (Itr lo n) (gName j) tYes te vs Q σ H := fun D hD => by
  refine L2.lc_range (fun i H' => Same H H' ∧ H' D = some (.lst ((List.range i).map f))) ⟨same_new hD, upd_same⟩ ?_ (fun H' p => k D H' hD p.1 p.2)
  rintro i H' hi ⟨s, e⟩
  refine ⟨hw _, hs i H' _ hi s fun H4 s4 => ?_⟩
  refine ⟨_, s4 _ _ e, ?_, same_upd hD (s.trans s4), ?_⟩
  · rw [List.length_map, List.length_range]
    exact small_line (by omega)
  · rw [upd_same, range_map_succ]
/-- [e for x in xs], xs a list -/
theorem lc_lst {K : PySem.W.Frag} {a : Addr} {xs : List V} {j : Nat} {te : TE} {vs : List Nat} {Q : VK} {σ : L2.St} {H : Hp} (f : V → V) (hx : SqL K H a xs) (hn : xs.length ≤ 10000) (hw : ∀ x, wipe ((wipe σ vs).set j (some x)) vs = wipe σ vs)
    (hs : ∀ (i : Nat) (x : V) (H' : Hp) (Q' : VK), xs[i]? = some x → Same H H' → (∀ H4, Same H' H4 → Q' (f x) H4) → te ((wipe σ vs).set j (some x)) H' Q')
    (k : ∀ D H', H D = none → Same H H' → H' D = some (.lst (xs.map f)) → Q (.ref D) H') : lcG (Itl K a) (gName j) tYes te vs Q σ H := fun D hD => by
  refine L2.lc_list (xs := xs) (fun i H' => Same H H' ∧ H' D = some (.lst ((xs.take i).map f))) ⟨same_new hD, upd_same⟩ (fun i H' _ p => p.1.seq hx) ?_ (fun H' p => k D H' hD p.1 (by rw [p.2, List.take_length]))
  rintro i x H' hi ⟨s, e⟩
  have hlt : i < xs.length := (List.getElem?_eq_some_iff.mp hi).1
  refine ⟨hw x, hs i x H' _ hi s fun H4 s4 => ?_⟩
  refine ⟨_, s4 _ _ e, ?_, same_upd hD (s.trans s4), ?_⟩
  · rw [List.length_map, List.length_take]
    exact small_line (by omega)
  · rw [upd_same, List.take_add_one, hi, Option.toList_some, List.map_append]
    rfl
/-- .. the elements told by their places -/
theorem lc_lsti {K : PySem.W.Frag} {a : Addr} {xs : List V} {j : Nat} {te : TE} {vs : List Nat} {Q : VK} {σ : L2.St} {H : Hp} (f : Nat → V) (hx : SqL K H a xs) (hn : xs.length ≤ 10000) (hw : ∀ x, wipe ((wipe σ vs).set j (some x)) vs = wipe σ vs)
    (hs : ∀ (i : Nat) (x : V) (H' : Hp) (Q' : VK), xs[i]? = some x → Same H H' → (∀ H4, Same H' H4 → Q' (f i) H4) → te ((wipe σ vs).set j (some x)) H' Q')
    (k : ∀ D H', H D = none → Same H H' → H' D = some (.lst ((List.range xs.length).map f)) → Q (.ref D) H') : lcG (Itl K a) (gName j) tYes te vs Q σ H := fun D hD => by
  refine L2.lc_list (xs := xs) (fun i H' => Same H H' ∧ H' D = some (.lst ((List.range i).map f))) ⟨same_new hD, upd_same⟩ (fun i H' _ p => p.1.seq hx) ?_ (fun H' p => k D H' hD p.1 p.2)
  rintro i x H' hi ⟨s, e⟩
  have hlt : i < xs.length := (List.getElem?_eq_some_iff.mp hi).1
  refine ⟨hw x, hs i x H' _ hi s fun H4 s4 => ?_⟩
  refine ⟨_, s4 _ _ e, ?_, same_upd hD (s.trans s4), ?_⟩
  · rw [List.length_map, List.length_range]
    exact small_line (by omega)
  · rw [upd_same, range_map_succ]
theorem r_all {K : PySem.W.Frag} {a : Addr} {bs : List Bool} {H : Hp} {Q : VK} (h : SqL K H a (bs.map V.bl)) (q : Q (.bl (bs.all id)) H) : rAll K [.ref a] H Q := ⟨a, bs, rfl, h, q⟩
theorem take {K : PySem.W.Frag} {l : Addr} {m : Int} {H : Hp} {Q : VK} {E : XK} (hl : Held l H) (hm : 0 < m) (k : ∀ r H', 0 ≤ r → r < m → Bt l H H' → Held l H' → Q (.int r) H') : sp__law_take K [.ref l, .int m] H Q E := ⟨l, m, rfl, hl, hm, k⟩
/-! ### what comes back whatever new stands -/
def Back (v : V) (H : Hp) (Q : VK) : Prop := ∀ H', Same H H' → Q v H'
theorem Back.self {v : V} {H : Hp} {Q : VK} (h : Back v H Q) : Q v H := h H (Same.refl H)
theorem Back.same {v : V} {H H' : Hp} {Q : VK} (h : Back v H Q) (s : Same H H') : Back v H' Q := fun H2 s2 => h H2 (s.trans s2)
theorem ty_sq {K : PySem.W.Frag} {H : Hp} {a : Addr} {xs : List V} (h : Sq K H a xs) : ∃ t, TyX K H (.ref a) (.type t) ∧ t ∈ ["int", "bool", "NoneType", "str", "list", "tuple"] ∧ (t == "list" || t == "tuple") = true := by
  rcases h with h | h
  · exact ⟨"list", ty_l h, by simp, rfl⟩
  · exact ⟨"tuple", ty_t h, by simp, rfl⟩
theorem row_sq {K : PySem.W.Frag} {H : Hp} {Q : VK} {E : XK} {a : Addr} {xs : List V} (h : Sq K H a xs) (q : Back (.bl true) H Q) : sp_is_row K [.ref a] H Q E := by
  obtain ⟨t, h1, h2, h3⟩ := ty_sq h
  refine ⟨_, t, rfl, h1, h2, fun H' s => ?_⟩
  rw [h3]
  exact q H' s
theorem row_flat {K : PySem.W.Frag} {H : Hp} {Q : VK} {E : XK} {v : V} {b : Bool} (h : intB v = some b) (q : Back (.bl false) H Q) : sp_is_row K [v] H Q E := by
  refine ⟨v, Nw.kindOf v, rfl, ty_flat h, ?_, fun H' s => ?_⟩
  · cases v with
    | int i => simp [Nw.kindOf]
    | bl i => simp [Nw.kindOf]
    | non => simp [Nw.kindOf]
    | str i => simp [Nw.kindOf]
    | _ => cases h
  · have e : (Nw.kindOf v == "list" || Nw.kindOf v == "tuple") = false := by
      cases v with
      | int i => rfl
      | bl i => rfl
      | non => rfl
      | str i => rfl
      | _ => cases h
    rw [e]
    exact q H' s
end Nw
end
section
set_option Elab.async false
set_option linter.all false
set_option maxRecDepth 100000
set_option maxHeartbeats 2000000
/-! several except clauses, each with or without a name -/
namespace Nw
open PySem PySem.Spec PyProof.Rows L2
abbrev Cl : Type := Value × Option Nat × (Addr → Value → Option Addr → TS)
def outD (D : Ends) (i : Nat) : Ends := { nx := fun s h => D.nx (s.set i none) h, rt := D.rt, bk := fun s h => D.bk (s.set i none) h, ct := fun s h => D.ct (s.set i none) h }
/-- what one clause's suite does with the exception at a -/
def oneCl (o : Option Nat) (ts : Addr → Value → Option Addr → TS) (cls : Value) (d : Option Addr) (D : Ends) (σ : L2.St) (H : Hp) (a : Addr) : Prop := match o with
  | none => ts a cls d D σ H
  | some i => ts a cls d (outD D i) (σ.set i (some (.ref a))) H
def wCls (K : PySem.W.Frag) (Wo : WX) (D : Ends) : List Cl → WX
  | [] => Wo
  | z :: r => fun cls d σ H => ∃ b, PySem.W.exmOne K cls z.1 = some b ∧ (b = true → ∀ a, H a = none → oneCl z.2.1 z.2.2 cls d D σ H a) ∧ (b = false → wCls K Wo D r cls d σ H)
inductive ClsOk (X : Cx) : List ExceptHandler → List Cl → Prop
  | nil : ClsOk X [] []
  | bare {x : Str} {c : Value} {ts : Addr → Value → Option Addr → TS} {b1 : Stmt} {su : List Stmt} {p1 p2 : Pos} {hs : List ExceptHandler} {l : List Cl} (hc : Names X x c)
      (hsu : ∀ (a : Addr) (ob : Obj) (cls : Value) (d : Option Addr) (pn : List (Addr × Obj)), Zc cls d ob → (∃ vs, ob.data = .fields vs) → PSs (X.suite a ((a, ob) :: pn)) (b1 :: su) (ts a cls d)) (r : ClsOk X hs l) :
      ClsOk X (.ExceptHandler (some (.Name x p1)) none (b1 :: su) p2 :: hs) ((c, none, ts) :: l)
  | named {x n : Str} {c : Value} {i : Nat} {ts : Addr → Value → Option Addr → TS} {b1 : Stmt} {su : List Stmt} {p1 p2 : Pos} {hs : List ExceptHandler} {l : List Cl} (hc : Names X x c) (hi : X.N[i]? = some n) (hln : X.env.kindOf n = some .local)
      (hsu : ∀ (a : Addr) (ob : Obj) (cls : Value) (d : Option Addr) (pn : List (Addr × Obj)), Zc cls d ob → (∃ vs, ob.data = .fields vs) → PSs (X.suite a ((a, ob) :: pn)) (b1 :: su) (ts a cls d)) (r : ClsOk X hs l) :
      ClsOk X (.ExceptHandler (some (.Name x p1)) (some n) (b1 :: su) p2 :: hs) ((c, some i, ts) :: l)
section
variable {X : Cx} {body : List Stmt} {h1 : ExceptHandler} {hs : List ExceptHandler} {l : List Cl} {pos : Pos} {tb : WX → TS} {Wo : WX}
theorem ps_tries (st : X.stack = X.env :: X.outer) (fr : X.env.frame = some X.env.locals) (nd : X.N.Nodup) (tk : Takes X Wo)
    (hb : ∀ (W : WX) (pn : List (Addr × Obj)) (xe : Value → Shared → Prop), Takes (X.tr pn xe) W → PassesOwn (model X.prog X.w) X.A X.env xe → PSs (X.tr pn xe) body (tb W))
    (hh : ClsOk X (h1 :: hs) l) : PS X (.Try body (h1 :: hs) [] [] pos) (fun D σ H => tb (wCls X.K Wo D l) D σ H) := by
  refine ⟨fun ps s σ H D I h => ?_⟩
  have ok := I.ok
  have hfr : X.A.frames = some (X.env :: X.outer) := by rw [ok.frames, st]
  refine wpAny_Try_except ?_
  refine wpAny_mono ((hb (wCls X.K Wo D l) (X.pn ++ ps) (fun e s₁ => wpAny (model X.prog X.w) X.A (noteFrame e X.env) (fun _ s₂ => wpAny (model X.prog X.w) X.A (setFlight e none) (fun _ s₃ =>
    wpAny (model X.prog X.w) X.A (handleBy e X.env (h1 :: hs)) (SP X ps D) X.xe s₃) X.xe s₂) X.xe s₁) (fun u s' xx => ?_) PassesOwn.looking).run [] s σ H D (I.toTry _) h) (fun f s1 hsp => ?_) (fun e s1 he => he)
  · obtain ⟨a, B, sI, qs, τ, G, cls, d, rfl, J', nb, up, sky, na, os, ag, w⟩ := xx
    have J : Inv X ps τ G sI := J'.ofTry ok
    have sky' : Sky B (X.env :: X.outer) a (Zc cls d) X.env.locals s'.heap := by rw [← st]; exact sky
    show wpAny (model X.prog X.w) X.A (noteFrame (.ref a) X.env) _ _ _
    refine Sky.land Zc.steady hfr fr sky' fun g3 fl3 up3 => ?_
    have J3 : Inv X ps τ G { s' with heap := g3 } := J.landed nb fl3.1 (up.trans up3) os ag
    obtain ⟨ob3, vs3, he3, hz3, hd3⟩ := fl3.there
    have notF : ∀ {h : Heap} {o : Obj} {vs : Array Value}, h.FunFrames B (X.env :: X.outer) → h.get? a = some o → o.data = .fields vs → a ∉ frs (X.env :: X.outer) := fun {h o vs} ff e dd hm => by
      obtain ⟨_, o', e', hnf⟩ := ff.mem hm
      rw [e] at e'; cases e'
      exact hnf _ dd
    have nfr := notF fl3.2.2.1 he3 hd3
    have nL : a ≠ X.env.locals := fun z => nfr (List.mem_filterMap.mpr ⟨X.env, List.mem_cons_self, by rw [fr, z]⟩)
    have nF : a ∉ X.fs := fun hm => by
      obtain ⟨e, he, q⟩ := List.mem_filterMap.mp hm
      exact nfr (List.mem_filterMap.mpr ⟨e, List.mem_cons_of_mem _ he, q⟩)
    have S3 := J3.suite he3 hd3 na nL nF
    have LT : ∀ cls' : Value, cls' = cls → PySem.W.Looks (model X.prog X.w) g3 (typeOf (.ref a)) cls := fun _ _ A Q E s k q => wpAny_typeOf_ref (k _ _ he3) (by rw [hz3.1]; exact q)
    have test : ∀ {x : Str} {c : Value} {p1 : Pos} {Q : Value → Shared → Prop} {E : Value → Shared → Prop}, Names X x c → Q c { s' with heap := g3 } → wpAny (model X.prog X.w) (X.A.mark (some (.ref a))) (eval (.Name x p1) X.env) Q E { s' with heap := g3 } := fun {x c p1 Q E} hc q => by
      obtain ⟨hg, hdbg, hm | ⟨hm, hv, hnn⟩⟩ := hc
      · exact ld_glob (X := X.suite a ((a, ob3) :: (X.pn ++ ps))) S3 hg hm q hdbg
      · exact ld_blt (X := X.suite a ((a, ob3) :: (X.pn ++ ps))) S3 hg hm hv q hnn hdbg
    have go : ∀ {hs' : List ExceptHandler} {l' : List Cl}, ClsOk X hs' l' → wCls X.K Wo D l' cls d τ G →
        wpAny (model X.prog X.w) X.A (handleBy (.ref a) X.env hs') (SP X ps D) X.xe { s' with heap := g3 } := by
      intro hs' l' hk
      induction hk with
      | nil =>
        intro w
        refine wpAny_handleBy_nil ?_
        obtain ⟨k1, k2, k3, ob, vs, T, oT, ts', he, hz, hd, h1, hr⟩ := id fl3
        unfold PySem.passOn
        refine wpAny_bind (wpAny_field he hd h1 ?_)
        rw [if_neg (show ¬ ((Value.ref T == Value.none) = true) from by simp)]
        have fin : wpAny (model X.prog X.w) X.A (setFlight (.ref a) X.env.frame) (fun _ s4 => wpAny (model X.prog X.w) X.A (throw (.ref a) : Sem Flow) (SP X ps D) X.xe s4) X.xe { s' with heap := g3 } := by
          rw [fr]
          refine HandSPX.setFlight_upZ fl3 fun h4 hh4 up4 => wpAny_throw (tk _ _ ?_)
          exact ⟨a, B, sI, ps, τ, G, cls, d, rfl, J, nb, (up.trans up3).trans up4, .inr (.inr (by rw [st]; exact hh4)), na, os, ag, w⟩
        first
          | exact wpAny_bind (wpAny_pure (wpAny_bind fin))
          | exact wpAny_bind fin
      | @bare x c ts b1 su p1 p2 hs2 l2 hc hsu r ih =>
        intro w
        obtain ⟨b, hb1, hyes, hno⟩ := w
        refine wpAny_handleBy_cons (codeAny_handlers_test ?_) (by intro q; cases q)
        have LM := PySem.W.exm_one (M := model X.prog X.w) (J3.kIn) (LT _ rfl) hb1
        refine test hc (LM.here ?_)
        cases b with
        | true =>
          refine codeAny_handlers_suite ?_
          refine HandSPX.lands_againZ fl3 fun g4 fl4 up4 => ?_
          have J4 : Inv X ps τ G { s' with heap := g4 } := J.landed nb fl4.1 ((up.trans up3).trans up4) os ag
          obtain ⟨ob4, vs4, he4, hz4, hd4⟩ := fl4.there
          have S4 := J4.suite he4 hd4 na nL nF
          refine wpAny_mono ((hsu a ob4 cls d (X.pn ++ ps) hz4 ⟨_, hd4⟩).run [] _ _ G _ S4 (hyes rfl a na)) (fun f s6 hsp => ?_) (fun _ _ z => False.elim z)
          cases f with
          | next =>
            obtain ⟨τ6, G6, S6, q6⟩ := hsp
            exact ⟨_, _, S6.unsuite ok, q6⟩
          | brk =>
            obtain ⟨τ6, G6, S6, q6⟩ := hsp
            exact ⟨_, _, S6.unsuite ok, q6⟩
          | cont =>
            obtain ⟨τ6, G6, S6, q6⟩ := hsp
            exact ⟨_, _, S6.unsuite ok, q6⟩
          | ret u =>
            obtain ⟨v6, τ6, G6, S6, r6, q6⟩ := hsp
            exact ⟨_, _, _, S6.unsuite ok, r6, q6⟩
        | false =>
          show wpAny _ X.A (handleBy (.ref a) X.env hs2) _ _ _
          exact ih (hno rfl)
      | @named x n c i ts b1 su p1 p2 hs2 l2 hc hi hln hsu r ih =>
        intro w
        obtain ⟨b, hb1, hyes, hno⟩ := w
        refine wpAny_handleBy_cons (codeAny_handlers_test ?_) (by intro q; cases q)
        have LM := PySem.W.exm_one (M := model X.prog X.w) (J3.kIn) (LT _ rfl) hb1
        refine test hc (LM.here ?_)
        cases b with
        | true =>
          refine codeAny_handlers_suite_as ?_
          refine HandSPX.lands_againZ fl3 fun g4 fl4 up4 => ?_
          have J4 : Inv X ps τ G { s' with heap := g4 } := J.landed nb fl4.1 ((up.trans up3).trans up4) os ag
          obtain ⟨ob4, vs4, he4, hz4, hd4⟩ := fl4.there
          have S4 := J4.suite he4 hd4 na nL nF
          refine store_ok (X := X.suite a ((a, ob4) :: (X.pn ++ ps))) (v := .ref a) S4 nd hi (.inl hln) rfl (fun s5 S5 => ?_) (.inr hln)
          refine wpAny_mono ((hsu a ob4 cls d (X.pn ++ ps) hz4 ⟨_, hd4⟩).run [] s5 _ G _ S5 (hyes rfl a na)) (fun f s6 hsp => ?_) (fun _ _ z => False.elim z)
          have fin : ∀ {τ6 : L2.St} {G6 : Hp} {Q : Shared → Prop}, Inv (X.suite a ((a, ob4) :: (X.pn ++ ps))) [] τ6 G6 s6 → (∀ s7, Inv X ps (τ6.set i none) G6 s7 → Q s7) →
              wpAny (model X.prog X.w) X.A (do bindName X.env n .none; unbindBehindTheSuite X.env n p2) (fun _ s7 => Q s7) X.xe s6 := fun {τ6 G6 Q} S6 hq => gone_ok (S6.unsuite ok) nd hi hln hq
          cases f with
          | next =>
            obtain ⟨τ6, G6, S6, q6⟩ := hsp
            exact fin S6 fun s7 J7 => ⟨_, _, J7, q6⟩
          | brk =>
            obtain ⟨τ6, G6, S6, q6⟩ := hsp
            exact fin S6 fun s7 J7 => ⟨_, _, J7, q6⟩
          | cont =>
            obtain ⟨τ6, G6, S6, q6⟩ := hsp
            exact fin S6 fun s7 J7 => ⟨_, _, J7, q6⟩
          | ret u =>
            obtain ⟨v6, τ6, G6, S6, r6, q6⟩ := hsp
            exact fin S6 fun s7 J7 => ⟨_, _, _, J7, r6, q6⟩
        | false =>
          show wpAny _ X.A (handleBy (.ref a) X.env hs2) _ _ _
          exact ih (hno rfl)
    exact go hh w
  · cases f with
    | next =>
      obtain ⟨τ, G, J', q⟩ := hsp
      exact wpAny_execs_nil ⟨τ, G, J'.ofTry ok, q⟩
    | brk =>
      obtain ⟨τ, G, J', q⟩ := hsp
      exact ⟨τ, G, J'.ofTry ok, q⟩
    | cont =>
      obtain ⟨τ, G, J', q⟩ := hsp
      exact ⟨τ, G, J'.ofTry ok, q⟩
    | ret u =>
      obtain ⟨v, τ, G, J', r, q⟩ := hsp
      exact ⟨v, τ, G, J'.ofTry ok, r, q⟩
end
end Nw
end
section
set_option Elab.async false
set_option linter.all false
set_option maxRecDepth 100000
set_option maxHeartbeats 2000000
/-! a class of the program: fields, methods, properties, making; dicts; walks over lists or tuples -/
namespace Nw
open PySem PySem.Spec PyProof.Rows L2
/-- e.f, a field of an instance of the class at C -/
def tGf (C : Addr) (f : Str) (te : TE) : TE := fun σ H Q => te σ H fun x H1 => ∃ a dx fs v, x = .ref a ∧ H1 a = some (.ins C dx fs) ∧ fs.lookup f = some v ∧ Q v H1
/-- o.f = e -/
def sSf (C : Addr) (f : Str) (te tv : TE) : TS := fun D σ H => tv σ H fun y H1 => te σ H1 fun x H2 => ∃ a dx fs, x = .ref a ∧ H2 a = some (.ins C dx fs) ∧ fs.length < 1000 ∧ D.nx σ (upd H2 a (.ins C dx (putF f y fs)))
/-- o.m(..) -/
def tMa (C : Addr) (m : Str) (sp : Sp) (E : XK) (te : TE) (t : TA) : TE := fun σ H Q => te σ H fun x H1 => ∃ a dx fs, x = .ref a ∧ H1 a = some (.ins C dx fs) ∧ fs.lookup m = none ∧ t σ H1 fun vs H2 => sp (x :: vs) H2 Q E
def tMw (C : Addr) (m : Str) (sp : Sp) (W : WX) (te : TE) (t : TA) : TE := fun σ H Q => te σ H fun x H1 => ∃ a dx fs, x = .ref a ∧ H1 a = some (.ins C dx fs) ∧ fs.lookup m = none ∧ t σ H1 fun vs H2 => sp (x :: vs) H2 Q fun c d H3 => W c d σ H3
/-- C(..) -/
def tKa (C : Addr) (sp : Sp) (E : XK) (t : TA) : TE := fun σ H Q => t σ H fun vs H1 => ∀ x dx, H1 x = none → H1 dx = none → dx ≠ x → sp (.ref x :: vs) (upd (upd H1 dx (.own x)) x (.ins C dx [])) (fun v H2 => v = .non ∧ Q (.ref x) H2) E
def tKw (C : Addr) (sp : Sp) (W : WX) (t : TA) : TE := fun σ H Q => t σ H fun vs H1 => ∀ x dx, H1 x = none → H1 dx = none → dx ≠ x → sp (.ref x :: vs) (upd (upd H1 dx (.own x)) x (.ins C dx [])) (fun v H2 => v = .non ∧ Q (.ref x) H2) fun c d H3 => W c d σ H3
/-- o.p, a property -/
def tPa (C : Addr) (sp : Sp) (E : XK) (te : TE) : TE := fun σ H Q => te σ H fun x H1 => ∃ a dx fs, x = .ref a ∧ H1 a = some (.ins C dx fs) ∧ sp [.ref a] H1 Q E
/-- a method by its name -/
structure Mok (P : Program) (w : World) (K : PySem.W.Frag) (mg : Str → Option Value) (base : Heap) (k : Nat) (C : Addr) (m : Str) (ps : List Str) (sp : Sp) : Prop where
  ex : ∃ (f : Addr) (fd : FuncData), FnOk P w K mg base (L2.CX P w) k f fd ps sp ∧ Meth K C m f ∧ Binds K fd ps []
structure Kok (P : Program) (w : World) (K : PySem.W.Frag) (mg : Str → Option Value) (base : Heap) (k : Nat) (C : Addr) (x : Str) (ps : List Str) (sp : Sp) : Prop where
  ex : ∃ (f : Addr) (fd : FuncData), FnOk P w K mg base (L2.CX P w) k f fd ps sp ∧ Mk K C f ∧ mg x = some (.ref C) ∧ Binds K fd ps []
structure Pok (P : Program) (w : World) (K : PySem.W.Frag) (mg : Str → Option Value) (base : Heap) (k : Nat) (C : Addr) (p : Str) (sp : Sp) : Prop where
  ex : ∃ (g f : Addr) (fd : FuncData), FnOk P w K mg base (L2.CX P w) k g fd ["self"] sp ∧ PropOf K C p f g ∧ Binds K fd ["self"] []
section
variable {X : Cx} {k : Nat} {C : Addr} {x m f : Str} {ps : List Str} {sp : Sp} {p pos apos : Pos} {o e value : Expr} {es : List Expr} {t : TA} {te tv : TE} {E : XK} {W : WX}
theorem pe_gf (c : Cls X.K C) (n : NoAttr X.K C f) (he : PE X e te) (hb : attributeBase e f X.env (eval e X.env) = eval e X.env) : PE X (.Attribute e f pos) (tGf C f te) := by
  refine ⟨fun ps s σ H Q I h => ?_⟩
  refine attr_of hb (thn (he.run ps s σ H _ I h) fun u s1 ⟨x, H1, I1, rx, a, dx, fs, v, ex, ea, l, q⟩ => ?_)
  subst ex
  obtain rfl : u = Value.ref a := rx
  exact getattr_ok I1 ea c n l fun u' s2 I2 ru => ⟨v, H1, I2, ru, q⟩
theorem ps_sf {pos' : Pos} (c : Cls X.K C) (n : NoAttr X.K C f) (ha : PE X o te) (hv : PE X value tv) (hs : swapsWith value (some (.Attribute o f pos')) pos.line X.env = pure false) : PS X (.Assign [.Attribute o f pos'] value pos) (sSf C f te tv) := by
  refine ⟨fun ps s σ H D I h => ?_⟩
  refine plainObj_wpAny_Assign_Attribute (thn (hv.run ps s σ H _ I h) fun u s1 ⟨y, H1, I1, ry, q⟩ => thn (ha.run ps s1 σ H1 _ I1 q) fun ov s2 ⟨x, H2, I2, rx, a, dx, fs, ex, ea, l, q2⟩ => ?_) hs
  subst ex
  obtain rfl : ov = Value.ref a := rx
  exact setattr_ok I2 ea c n l ry fun s3 I3 => ⟨σ, _, I3, q2⟩
theorem sp_eq (vs : List V) {H : Hp} {Q : VK} (h : sp vs H Q E) : sp (vs ++ []) H Q E := by rw [List.append_nil]; exact h
theorem tMa_eq : tMeth C m sp [] E te t = tMa C m sp E te t := by
  funext σ H Q
  show te σ H _ = te σ H _
  congr 1
  funext x H1
  have : (fun (vs : List V) (H2 : Hp) => sp (x :: (vs ++ [])) H2 Q E) = fun vs H2 => sp (x :: vs) H2 Q E := by
    funext vs H2
    rw [List.append_nil]
  rw [this]
theorem tKa_eq : tMake C sp [] E t = tKa C sp E t := by
  funext σ H Q
  show t σ H _ = t σ H _
  congr 1
  funext vs H1
  rw [List.append_nil]
theorem pe_mt {pl : Sem Bool} (D : Mok X.prog X.w X.K X.mg X.base k C m ps sp) (c : Cls X.K C) (hr : Room k X.A) (he : PE X o te) (hx : Passes (L2.CX X.prog X.w) X E) (ha : PA X (e :: es) t)
    (hst : starEach (e :: es) X.env = (false, eval e X.env) :: starEach es X.env := by rfl) (hpl : (backTo pos (starEach es X.env)).any (·.1) = false := by rfl)
    (ht : eval (.Call (.Attribute o m apos) (e :: es) [] pos) X.env = (do
      let ov ← eval o X.env
      standAt apos.atName
      let (f, first) ← holding [ov] (getMethod ov m pl)
      callWith pos f first (backTo pos (starEach (e :: es) X.env)) (backToKw pos (keywordEach [] X.env))) := by rfl) :
    PE X (.Call (.Attribute o m apos) (e :: es) [] pos) (tMa C m sp E te t) := by
  obtain ⟨f, fd, F, hm, hb⟩ := D.ex
  rw [← tMa_eq]
  exact pe_meth (pl := pl) he c hm F hr hb .nil hx ha hst hpl ht
theorem pe_mt0 {pl : Sem Bool} (D : Mok X.prog X.w X.K X.mg X.base k C m ps sp) (c : Cls X.K C) (hr : Room k X.A) (he : PE X o te) (hx : Passes (L2.CX X.prog X.w) X E)
    (ht : eval (.Call (.Attribute o m apos) [] [] pos) X.env = (do
      let ov ← eval o X.env
      standAt apos.atName
      let (f, first) ← holding [ov] (getMethod ov m pl)
      callWith pos f first (backTo pos (starEach [] X.env)) (backToKw pos (keywordEach [] X.env))) := by rfl) :
    PE X (.Call (.Attribute o m apos) [] [] pos) (tMa C m sp E te tNil) := by
  obtain ⟨f, fd, F, hm, hb⟩ := D.ex
  rw [← tMa_eq]
  exact pe_meth0 (pl := pl) he c hm F hr hb .nil hx ht
theorem pe_mtW {pl : Sem Bool} (D : Mok X.prog X.w X.K X.mg X.base k C m ps sp) (c : Cls X.K C) (hr : Room k X.A) (tk : Takes X W) (he : PE X o te) (ha : PA X (e :: es) t)
    (hst : starEach (e :: es) X.env = (false, eval e X.env) :: starEach es X.env := by rfl) (hpl : (backTo pos (starEach es X.env)).any (·.1) = false := by rfl)
    (ht : eval (.Call (.Attribute o m apos) (e :: es) [] pos) X.env = (do
      let ov ← eval o X.env
      standAt apos.atName
      let (f, first) ← holding [ov] (getMethod ov m pl)
      callWith pos f first (backTo pos (starEach (e :: es) X.env)) (backToKw pos (keywordEach [] X.env))) := by rfl) :
    PE X (.Call (.Attribute o m apos) (e :: es) [] pos) (tMw C m sp W te t) := by
  obtain ⟨f, fd, F, hm, hb⟩ := D.ex
  refine ⟨fun qs s σ H Q I h => ?_⟩
  refine PySem.W.methodCall_KW (pl := pl) (thn (he.run qs s σ H _ I h) fun u s1 ⟨x, H1, I1, rx, a, dx, fs, ex, ea, l, q⟩ => ?_) ht
  subst ex
  obtain rfl : u = Value.ref a := rx
  refine getmeth_ok I1 ea c hm l ?_
  refine PySem.W.callWith_K (first := [.ref a]) (h₀ := X.base) I.ok.mod.kin hm.kp (thn (ha.run pos qs s1 σ H1 _ I1 q) fun us s2 ⟨vs, H2, I2, r, q2⟩ => ⟨I2.kIn, ?_⟩) hst hpl
  exact run_fnS (E := WE W) (us := .ref a :: us) (vs := .ref a :: vs) F hr hb (passAt tk σ) I2 (.cons rfl r) q2
theorem pe_mk (D : Kok X.prog X.w X.K X.mg X.base k C x ps sp) (hr : Room (k + 1) X.A) (hg : Gl X x) (hx : Passes (L2.CX X.prog X.w) X E) (ha : PA X (e :: es) t) (hdb : (x == ("__debug__" : Str)) = false := by decide)
    (he : starEach (e :: es) X.env = (false, eval e X.env) :: starEach es X.env := by rfl) (hpl : (backTo pos (starEach es X.env)).any (·.1) = false := by rfl) :
    PE X (.Call (.Name x p) (e :: es) [] pos) (tKa C sp E t) := by
  obtain ⟨f, fd, F, M, hm, hb⟩ := D.ex
  rw [← tKa_eq]
  exact pe_make M F hr hg hm hb .nil hx ha hdb he hpl
theorem pe_mkW (D : Kok X.prog X.w X.K X.mg X.base k C x ps sp) (hr : Room (k + 1) X.A) (hg : Gl X x) (tk : Takes X W) (ha : PA X (e :: es) t) (hdb : (x == ("__debug__" : Str)) = false := by decide)
    (he : starEach (e :: es) X.env = (false, eval e X.env) :: starEach es X.env := by rfl) (hpl : (backTo pos (starEach es X.env)).any (·.1) = false := by rfl) :
    PE X (.Call (.Name x p) (e :: es) [] pos) (tKw C sp W t) := by
  obtain ⟨f, fd, F, M, hm, hb⟩ := D.ex
  refine ⟨fun qs s σ H Q I h => ?_⟩
  refine wpAny_Call_Name_kw (ld_glob I hg hm ?_ hdb)
  refine PySem.W.callWith_K (h₀ := X.base) I.ok.mod.kin M.kp (thn (ha.run pos qs s σ H _ I h) fun us s1 ⟨vs, H1, I1, r, h1⟩ => ⟨I1.kIn, ?_⟩) he hpl
  have hq := h1 (s1.heap.objs.size + 1) s1.heap.objs.size (I1.hok.fresh (Nat.le_succ _)) (I1.hok.fresh (Nat.le_refl _)) (Nat.ne_of_lt (Nat.lt_succ_self _))
  have I2 := Inv.made (C := C) I1
  have r2 : Vals (V.ref (s1.heap.objs.size + 1) :: vs) (Value.ref (s1.heap.objs.size + 1) :: us) := .cons rfl r
  have hl : (Value.ref (s1.heap.objs.size + 1) :: us).length = ps.length := by
    have e := r2.length
    rw [F.len _ _ _ _ hq] at e
    exact e.symm
  have b := hb _ (Value.ref (s1.heap.objs.size + 1) :: us) I2.kIn (by rw [List.append_nil]; exact hl)
  rw [List.append_nil] at b
  refine wpAny_call (make_map (f := f) I1.kIn M.makes M.init (beq_iff_eq.mp M.fn) (codeAny_mono (F.run _ X.stack _ _ ⟨Value.ref (s1.heap.objs.size + 1) :: us, []⟩ (Value.ref (s1.heap.objs.size + 1) :: us) _ _ (WE W σ) (hr.make C us [])
    (I2.env0.make C us []) b r2 hq) fun r s' hq' => ?_))
  cases r with
  | error e => exact passAt tk σ qs _ _ e s' I2 hq'
  | ok fl =>
    cases fl with
    | ret u =>
      obtain ⟨v, H', I3, rv, ev, q3⟩ := I2.after hq'
      subst ev
      exact ⟨rv, ⟨V.ref (s1.heap.objs.size + 1), H', I3, rfl, q3⟩⟩
    | next => exact False.elim hq'
    | brk => exact False.elim hq'
    | cont => exact False.elim hq'
theorem pe_pr (D : Pok X.prog X.w X.K X.mg X.base k C f sp) (c : Cls X.K C) (hr : Room (k + 1) X.A) (he : PE X e te) (hx : Passes (L2.CX X.prog X.w) X.nox E) (hab : attributeBase e f X.env (eval e X.env) = eval e X.env) : PE X (.Attribute e f pos) (tPa C sp E te) := by
  obtain ⟨g, fp, fd, F, hp, hb⟩ := D.ex
  exact pe_prop he c hp F hr hb .nil hx hab
end
/-! ### their readings -/
section
variable {K : PySem.W.Frag} {σ : L2.St} {H : Hp} {Q : VK} {D : Ends} {te tv td tx : TE} {t : TA} {C a d dx : Addr} {fs : List (Str × V)} {f m : Str} {v x y : V} {sp : Sp} {E : XK} {W : WX} {QB : Bool → Hp → Prop}
def gf (C : Addr) (f : Str) (x : V) (H1 : Hp) (Q : VK) : Prop := ∃ a dx fs v, x = .ref a ∧ H1 a = some (.ins C dx fs) ∧ fs.lookup f = some v ∧ Q v H1
theorem r_gf (h : te σ H fun x H1 => gf C f x H1 Q) : tGf C f te σ H Q := h
theorem r_gfI (h : H a = some (.ins C dx fs)) (l : fs.lookup f = some v) (q : Q v H) : gf C f (.ref a) H Q := ⟨a, dx, fs, v, rfl, h, l, q⟩
def sf (C : Addr) (f : Str) (D : Ends) (σ : L2.St) (y x : V) (H2 : Hp) : Prop := ∃ a dx fs, x = .ref a ∧ H2 a = some (.ins C dx fs) ∧ fs.length < 1000 ∧ D.nx σ (upd H2 a (.ins C dx (putF f y fs)))
theorem r_sf (h : tv σ H fun y H1 => te σ H1 fun x H2 => sf C f D σ y x H2) : sSf C f te tv D σ H := h
theorem r_sfI (h : H a = some (.ins C dx fs)) (l : fs.length < 1000) (q : D.nx σ (upd H a (.ins C dx (putF f y fs)))) : sf C f D σ y (.ref a) H := ⟨a, dx, fs, rfl, h, l, q⟩
def mt (C : Addr) (m : Str) (t : TA) (σ : L2.St) (x : V) (H1 : Hp) (R : List V → Hp → Prop) : Prop := ∃ a dx fs, x = .ref a ∧ H1 a = some (.ins C dx fs) ∧ fs.lookup m = none ∧ t σ H1 R
theorem r_ma (h : te σ H fun x H1 => mt C m t σ x H1 fun vs H2 => sp (x :: vs) H2 Q E) : tMa C m sp E te t σ H Q := h
theorem r_mw (h : te σ H fun x H1 => mt C m t σ x H1 fun vs H2 => sp (x :: vs) H2 Q fun c d H3 => W c d σ H3) : tMw C m sp W te t σ H Q := h
theorem r_mtI {R : List V → Hp → Prop} (h : H a = some (.ins C dx fs)) (l : fs.lookup m = none) (q : t σ H R) : mt C m t σ (.ref a) H R := ⟨a, dx, fs, rfl, h, l, q⟩
def pr (C : Addr) (sp : Sp) (E : XK) (x : V) (H1 : Hp) (Q : VK) : Prop := ∃ a dx fs, x = .ref a ∧ H1 a = some (.ins C dx fs) ∧ sp [.ref a] H1 Q E
theorem r_pa (h : te σ H fun x H1 => pr C sp E x H1 Q) : tPa C sp E te σ H Q := h
theorem r_prI (h : H a = some (.ins C dx fs)) (q : sp [.ref a] H Q E) : pr C sp E (.ref a) H Q := ⟨a, dx, fs, rfl, h, q⟩
def mkN (C : Addr) (sp : Sp) (Q : VK) (E : XK) (vs : List V) (H1 : Hp) : Prop := ∀ x dx, H1 x = none → H1 dx = none → dx ≠ x → sp (.ref x :: vs) (upd (upd H1 dx (.own x)) x (.ins C dx [])) (fun v H2 => v = .non ∧ Q (.ref x) H2) E
theorem r_ka (h : t σ H fun vs H1 => mkN C sp Q E vs H1) : tKa C sp E t σ H Q := h
theorem r_kw (h : t σ H fun vs H1 => mkN C sp Q (fun c d H3 => W c d σ H3) vs H1) : tKw C sp W t σ H Q := h
/-! ### chains -/
def ch (r' : R2) (tc : TE) (σ : L2.St) (y z : V) (H3 : Hp) (Q : VK) : Prop := ∃ k, z = .bl k ∧ br k (tc σ H3 fun w' H4 => r' y w' H4 Q) (Q (.bl false) H3)
theorem r_chain {r r' : R2} {ta tb tc : TE} (h : ta σ H fun x H1 => tb σ H1 fun y H2 => r x y H2 fun z H3 => ch r' tc σ y z H3 Q) : tChain r r' ta tb tc σ H Q := h
theorem r_ch {r' : R2} {tc : TE} {k : Bool} (h : br k (tc σ H fun w' H4 => r' y w' H4 Q) (Q (.bl false) H)) : ch r' tc σ y (.bl k) H Q := ⟨k, rfl, h⟩
/-! ### dicts with whole numbers as keys -/
abbrev ki (n : Int) : L2.Key := Sum.inl n
def dg (x y : V) (H2 : Hp) (Q : VK) : Prop := ∃ a v, x = .ref a ∧ DGet H2 a y (some v) ∧ Q v H2
theorem r_dget (h : td σ H fun x H1 => te σ H1 fun y H2 => dg x y H2 Q) : tDGet td te σ H Q := h
theorem r_dgI {kvs : List (L2.Key × V)} {n : Int} (h : Rd H d (.dK kvs)) (l : valV kvs (ki n) = some v) (q : Q v H) : dg (.ref d) (.int n) H Q := ⟨d, v, rfl, .inl ⟨kvs, ki n, h, rfl, l.symm⟩, q⟩
def di (b : Bool) (x y : V) (H2 : Hp) (Q : VK) : Prop := ∃ a o, x = .ref a ∧ DGet H2 a y o ∧ Q (.bl (if b then o.isSome else !o.isSome)) H2
theorem r_din (h : te σ H fun y H1 => td σ H1 fun x H2 => di true x y H2 Q) : tDIn te td σ H Q := h
theorem r_dnotin (h : te σ H fun y H1 => td σ H1 fun x H2 => di false x y H2 Q) : tDNotIn te td σ H Q := h
theorem r_diI {kvs : List (L2.Key × V)} {n : Int} {b : Bool} (h : Rd H d (.dK kvs)) (q : Q (.bl (if b then (valV kvs (ki n)).isSome else !(valV kvs (ki n)).isSome)) H) : di b (.ref d) (.int n) H Q := ⟨d, valV kvs (ki n), rfl, .inl ⟨kvs, ki n, h, rfl, rfl⟩, q⟩
def dp (D : Ends) (σ : L2.St) (v x y : V) (H3 : Hp) : Prop := ∃ a H4, x = .ref a ∧ DPut H3 a y v H4 ∧ D.nx σ H4
theorem r_dput (h : tv σ H fun v H1 => td σ H1 fun x H2 => te σ H2 fun y H3 => dp D σ v x y H3) : sDPut td te tv D σ H := h
theorem r_dpI {kvs : List (L2.Key × V)} {n : Int} (h : H d = some (.dK kvs)) (l : kvs.length < sizeLine) (q : D.nx σ (upd H d (.dK (putK kvs (ki n) v)))) : dp D σ v (.ref d) (.int n) H := ⟨d, _, rfl, DPut.k (k := ki n) h l, q⟩
theorem r_dnew (h : ∀ p, H p = none → Q (.ref p) (upd H p (.dK []))) : tDNewK σ H Q := h
theorem r_tB {tb : TE} (h : tb σ H fun x H1 => isB x H1 QB) : tB tb σ H QB := h
def rLenD : List V → Hp → VK → Prop := fun xs H Q => ∃ a kvs, xs = [V.ref a] ∧ H a = some (.dK kvs) ∧ Q (.int kvs.length) H
theorem r_lenD {kvs : List (L2.Key × V)} (h : H d = some (.dK kvs)) (q : Q (.int kvs.length) H) : rLenD [.ref d] H Q := ⟨d, kvs, rfl, h, q⟩
end
/-! ### xs[i] op= e -/
def rGetN (K : PySem.W.Frag) : V → V → Hp → VK → Prop := fun o i H Q => ∃ (p : Addr) (xs : List V) (n : Nat) (v : V), o = .ref p ∧ i = .int n ∧ SqL K H p xs ∧ xs[n]? = some v ∧ Q v H
theorem get_listN {X : Cx} : PGet X (rGetN X.K) := by
  intro ps s σ H o i ov iw Q I ro ri h
  obtain ⟨p, xs, n, v, rfl, rfl, hq, hv, q⟩ := h
  cases ro
  obtain ⟨t, rfl⟩ := ri
  obtain ⟨its, r, pl, hz⟩ := I.list hq
  obtain ⟨w, ew, rw'⟩ := r.get hv
  have hlt : n < xs.length := (List.getElem?_eq_some_iff.mp hv).1
  have hl := r.length
  have hn := line63
  refine getItem_listL (k := n) (x := w) pl.isList (by omega) (by omega) (by simpa using ew) ⟨v, H, I, rw', q⟩
def augL (K : PySem.W.Frag) (f : Int → Int → Int) (te : TE) (D : Ends) (σ : L2.St) (o i : V) (H2 : Hp) : Prop := rGetN K o i H2 fun x H3 => te σ H3 fun y H4 => ipI f x y H4 fun z H5 => rSetL o i z H5 fun H6 => D.nx σ H6
theorem r_augS {K : PySem.W.Frag} {f : Int → Int → Int} {to ti te : TE} {D : Ends} {σ : L2.St} {H : Hp} (h : to σ H fun o H1 => ti σ H1 fun i H2 => augL K f te D σ o i H2) : tAugS to ti te (rGetN K) (ipI f) rSetL D σ H := h
theorem r_augI {K : PySem.W.Frag} {f : Int → Int → Int} {c : Int} {D : Ends} {σ : L2.St} {H : Hp} {p : Addr} {xs : List V} {n : Nat} {z : Int} (h : H p = some (.lst xs)) (e : xs[n]? = some (.int z)) (q : D.nx σ (upd H p (.lst (xs.set n (.int (f z c)))))) : augL K f (tC (.int c)) D σ (.ref p) (.int n) H :=
  ⟨p, xs, n, .int z, rfl, rfl, SqL.of h, e, z, c, rfl, rfl, p, xs, n, n, rfl, rfl, h, by
    have hlt : n < xs.length := (List.getElem?_eq_some_iff.mp e).1
    unfold ixN
    rw [if_pos (by omega), if_pos (by omega), Int.toNat_natCast], q⟩
/-! ### a walk over a list or a tuple -/
def iSq (K : PySem.W.Frag) (tl : TE) : TI := fun σ H R => tl σ H fun x H1 => ∃ a, x = .ref a ∧ (((∃ xs, SqL K H1 a xs) ∧ R (Itl K a) H1) ∨ ((∃ xs, SqT K H1 a xs) ∧ R (Itt K a) H1))
theorem pi_sq {X : Cx} {tg l : Expr} {tl : TE} (hl : PE X l tl) : PI X tg l (iSq X.K tl) := by
  refine ⟨fun ps s σ H R I h => ?_⟩
  refine thn (hl.run ps s σ H _ I h) fun v s1 ⟨x, H1, I1, r1, q1⟩ => ?_
  obtain ⟨a, e, q1⟩ := q1
  subst e
  cases r1
  have mkI : ∀ b ∈ [s1.heap.objs.size], FpOk X ps H1 b := fun b hb => by
    have e : b = s1.heap.objs.size := by simpa using hb
    subst e
    exact I1.fpOk (Nat.le_refl _) (I1.hok.fresh (Nat.le_refl _))
  rcases q1 with ⟨⟨xs, hq⟩, q⟩ | ⟨⟨xs, hq⟩, q⟩
  · obtain ⟨its, rv, p, hz⟩ := I1.list hq
    refine wpAny_pyIter_list p.isList ?_
    exact ⟨s1.heap.objs.size, [s1.heap.objs.size], _, _, H1, rfl, I1.kept (t' := s1.toks) fun b o e => Heap.get?_push_of_some _ e, turn_list a _, ⟨_, Heap.get?_push_size _ rfl, rfl, rfl⟩, mkI, q⟩
  · obtain ⟨its, rv, p, hz⟩ := I1.tuple hq
    refine wpAny_pyIter_tuple (show s1.heap.IsTuple a its.toArray from p) ?_
    exact ⟨s1.heap.objs.size, [s1.heap.objs.size], _, _, H1, rfl, I1.kept (t' := s1.toks) fun b o e => Heap.get?_push_of_some _ e, turn_tuple a _, ⟨_, Heap.get?_push_size _ rfl, rfl, rfl⟩, mkI, q⟩
section
variable {K : PySem.W.Frag} {σ : L2.St} {H : Hp} {te : TE} {a : Addr} {xs : List V} {R : It → Hp → Prop} {g : TG} {t : TS} {D : Ends}
def wsq (K : PySem.W.Frag) (x : V) (H1 : Hp) (R : It → Hp → Prop) : Prop := ∃ a, x = .ref a ∧ (((∃ xs, SqL K H1 a xs) ∧ R (Itl K a) H1) ∨ ((∃ xs, SqT K H1 a xs) ∧ R (Itt K a) H1))
theorem r_wsqI (h : te σ H fun x H1 => wsq K x H1 R) : iSq K te σ H R := h
/-- for over either -/
theorem lp_sq (hx : Sq K H a xs) (Pv : Nat → L2.St → Hp → Prop) (h0 : Pv 0 σ H) (hl : ∀ i σ' H', i ≤ xs.length → Pv i σ' H' → (SqL K H a xs → SqL K H' a xs) ∧ (SqT K H a xs → SqT K H' a xs))
    (hs : ∀ i x σ H, xs[i]? = some x → Pv i σ H → g x σ H fun σ2 H2 => t { D with nx := Pv (i + 1), ct := Pv (i + 1), bk := D.nx } σ2 H2) (hd : ∀ σ H, Pv xs.length σ H → D.nx σ H) : wsq K (.ref a) H fun J H1 => lp J g t D σ H1 := by
  rcases hx with hx | hx
  · exact ⟨a, rfl, .inl ⟨⟨xs, hx⟩, lp_list (xs := xs) Pv h0 (fun i σ' H' hi p => (hl i σ' H' hi p).1 hx) hs hd⟩⟩
  · exact ⟨a, rfl, .inr ⟨⟨xs, hx⟩, lp_tup (xs := xs) Pv h0 (fun i σ' H' hi p => (hl i σ' H' hi p).2 hx) hs hd⟩⟩
end
theorem hu65 {A : Around} {k : Nat} (hr : Room k A) : A.units + 65 < cLine := by
  have := hr.un
  omega
/-! ### errors -/
def ps_BadName : List Str := ["name"]
def ok_BadName (vs : List V) : Prop := ∃ v b, vs = [v] ∧ intB v = some b
theorem len_ok_BadName {vs : List V} (h : ok_BadName vs) : vs.length = ps_BadName.length := by
  obtain ⟨v, b, rfl, _⟩ := h
  rfl
end Nw
end
section
set_option Elab.async false
set_option linter.all false
set_option maxRecDepth 100000
set_option maxHeartbeats 2000000
/-! comprehensions with a test; elements that are new -/
namespace Nw
open PySem PySem.Spec PyProof.Rows L2
theorem range_filter_succ (P : Nat → Bool) (i : Nat) : (List.range (i + 1)).filter P = (List.range i).filter P ++ (if P i = true then [i] else []) := by
  rw [List.range_succ, List.filter_append]
  cases h : P i <;> simp [h]
/-- [e for x in range(lo, lo + n) if t] -/
theorem lc_rngF {lo : Int} {n j : Nat} {tt : TT} {te : TE} {vs : List Nat} {Q : VK} {σ : L2.St} {H : Hp} (P : Nat → Bool) (f : Nat → V) (hn : n ≤ 10000) (hw : ∀ x, wipe ((wipe σ vs).set j (some x)) vs = wipe σ vs)
    (ht : ∀ (i : Nat) (H' : Hp) (QB : Bool → Hp → Prop), i < n → Same H H' → (∀ H4, Same H' H4 → QB (P i) H4) → tt ((wipe σ vs).set j (some (.int (lo + i)))) H' QB)
    (hs : ∀ (i : Nat) (H' : Hp) (Q' : VK), i < n → P i = true → Same H H' → (∀ H4, Same H' H4 → Q' (f i) H4) → te ((wipe σ vs).set j (some (.int (lo + i)))) H' Q')
    (k : ∀ D H', H D = none → Same H H' → H' D = some (.lst (((List.range n).filter P).map f)) → Q (.ref D) H') : lcG (Itr lo n) (gName j) tt te vs Q σ H := fun D hD => by
  refine L2.lc_range (fun i H' => Same H H' ∧ H' D = some (.lst (((List.range i).filter P).map f))) ⟨same_new hD, upd_same⟩ ?_ (fun H' p => k D H' hD p.1 p.2)
  rintro i H' hi ⟨s, e⟩
  refine ⟨hw _, ht i H' _ hi s fun H3 s3 => ?_⟩
  have e3 := s3 _ _ e
  cases hP : P i with
  | false =>
    rw [if_neg (by decide)]
    refine ⟨s.trans s3, ?_⟩
    rw [range_filter_succ, hP, if_neg (by decide), List.append_nil]
    exact e3
  | true =>
    rw [if_pos rfl]
    refine hs i H3 _ hi hP (s.trans s3) fun H4 s4 => ?_
    refine ⟨_, s4 _ _ e3, ?_, same_upd hD ((s.trans s3).trans s4), ?_⟩
    · rw [List.length_map]
      have := List.length_filter_le P (List.range i)
      rw [List.length_range] at this
      exact small_line (by omega)
    · rw [upd_same, range_filter_succ, hP, if_pos rfl, List.map_append]
      rfl
/-- all tuples stay -/
def TupSame (H H' : Hp) : Prop := ∀ b xs, H b = some (.tup xs) → H' b = some (.tup xs)
theorem TupSame.of {H H' : Hp} (s : Same H H') : TupSame H H' := fun b xs e => s _ _ e
/-- the items of a list or of a tuple -/
def Items (K : PySem.W.Frag) (J : It) (H : Hp) (xs : List V) : Prop := ∃ a, (J = Itl K a ∧ SqL K H a xs) ∨ (J = Itt K a ∧ SqT K H a xs)
/-- [x for x in xs if t] -/
theorem lc_sqF {K : PySem.W.Frag} {J : It} {xs : List V} {j : Nat} {tt : TT} {te : TE} {vs : List Nat} {Q : VK} {σ : L2.St} {H : Hp} (P : V → Bool) (hx : Items K J H xs) (hn : xs.length ≤ 10000) (hw : ∀ x, wipe ((wipe σ vs).set j (some x)) vs = wipe σ vs)
    (ht : ∀ (i : Nat) (x : V) (H' : Hp) (QB : Bool → Hp → Prop), xs[i]? = some x → Same H H' → (∀ H4, Same H' H4 → QB (P x) H4) → tt ((wipe σ vs).set j (some x)) H' QB)
    (hs : ∀ (i : Nat) (x : V) (H' : Hp) (Q' : VK), xs[i]? = some x → Same H H' → (∀ H4, Same H' H4 → Q' x H4) → te ((wipe σ vs).set j (some x)) H' Q')
    (k : ∀ D H', H D = none → Same H H' → H' D = some (.lst (xs.filter P)) → Q (.ref D) H') : lcG J (gName j) tt te vs Q σ H := fun D hD => by
  have body : ∀ (i : Nat) (x : V) (H' : Hp), xs[i]? = some x → (Same H H' ∧ H' D = some (.lst ((xs.take i).filter P))) → gName j x (wipe σ vs) H' fun σ2 H2 => wipe σ2 vs = wipe σ vs ∧ tt σ2 H2 fun b H3 =>
      if b = true then te σ2 H3 fun y H4 => ∃ acc, H4 D = some (.lst acc) ∧ acc.length < sizeLine ∧ (Same H (upd H4 D (.lst (acc ++ [y]))) ∧ (upd H4 D (.lst (acc ++ [y]))) D = some (.lst ((xs.take (i + 1)).filter P))) else (Same H H3 ∧ H3 D = some (.lst ((xs.take (i + 1)).filter P))) := by
    rintro i x H' hi ⟨s, e⟩
    have hlt : i < xs.length := (List.getElem?_eq_some_iff.mp hi).1
    refine ⟨hw x, ht i x H' _ hi s fun H3 s3 => ?_⟩
    have e3 := s3 _ _ e
    have tk : (xs.take (i + 1)).filter P = (xs.take i).filter P ++ (if P x = true then [x] else []) := by
      rw [List.take_add_one, hi, Option.toList_some, List.filter_append]
      cases h : P x <;> simp [h]
    cases hP : P x with
    | false =>
      rw [if_neg (by decide)]
      refine ⟨s.trans s3, ?_⟩
      rw [tk, hP, if_neg (by decide), List.append_nil]
      exact e3
    | true =>
      rw [if_pos rfl]
      refine hs i x H3 _ hi (s.trans s3) fun H4 s4 => ?_
      refine ⟨_, s4 _ _ e3, ?_, same_upd hD ((s.trans s3).trans s4), ?_⟩
      · have := List.length_filter_le P (xs.take i)
        rw [List.length_take] at this
        exact small_line (by omega)
      · rw [upd_same, tk, hP, if_pos rfl]
  have z : Same H (upd H D (.lst [])) ∧ (upd H D (.lst [])) D = some (.lst ((xs.take 0).filter P)) := ⟨same_new hD, upd_same⟩
  obtain ⟨a, ⟨rfl, hx⟩ | ⟨rfl, hx⟩⟩ := hx
  · exact L2.lc_list (xs := xs) (fun i H' => Same H H' ∧ H' D = some (.lst ((xs.take i).filter P))) z (fun i H' _ p => p.1.seq hx) body (fun H' p => k D H' hD p.1 (by rw [p.2, List.take_length]))
  · exact L2.lc_tup (xs := xs) (fun i H' => Same H H' ∧ H' D = some (.lst ((xs.take i).filter P))) z (fun i H' _ p => Same.seqT p.1 hx) body (fun H' p => k D H' hD p.1 (by rw [p.2, List.take_length]))
/-- [e for .. in xs], the elements told by what holds of them from then on -/
theorem lc_sqE {K : PySem.W.Frag} {J : It} {xs : List V} {g : TG} {te : TE} {vs : List Nat} {Q : VK} {σ : L2.St} {H : Hp} (R : Nat → V → Hp → Prop) (hR : ∀ i y H1 H2, TupSame H1 H2 → R i y H1 → R i y H2) (hx : Items K J H xs) (hn : xs.length ≤ 10000)
    (hs : ∀ (i : Nat) (x : V) (H' : Hp) (Q' : VK), xs[i]? = some x → Same H H' → (∀ y H4, Same H' H4 → R i y H4 → Q' y H4) → g x (wipe σ vs) H' fun σ2 H2 => wipe σ2 vs = wipe σ vs ∧ te σ2 H2 Q')
    (k : ∀ D ys H', H D = none → Same H H' → H' D = some (.lst ys) → ys.length = xs.length → (∀ i, i < xs.length → ∃ y, ys[i]? = some y ∧ R i y H') → Q (.ref D) H') : lcG J g tYes te vs Q σ H := fun D hD => by
  have body : ∀ (i : Nat) (x : V) (H' : Hp), xs[i]? = some x → (Same H H' ∧ ∃ ys, H' D = some (.lst ys) ∧ ys.length = i ∧ ∀ m, m < i → ∃ y, ys[m]? = some y ∧ R m y H') → g x (wipe σ vs) H' fun σ2 H2 => wipe σ2 vs = wipe σ vs ∧ tYes σ2 H2 fun b H3 =>
      if b = true then te σ2 H3 fun y H4 => ∃ acc, H4 D = some (.lst acc) ∧ acc.length < sizeLine ∧ (Same H (upd H4 D (.lst (acc ++ [y]))) ∧ ∃ ys, (upd H4 D (.lst (acc ++ [y]))) D = some (.lst ys) ∧ ys.length = i + 1 ∧ ∀ m, m < i + 1 → ∃ z, ys[m]? = some z ∧ R m z (upd H4 D (.lst (acc ++ [y]))))
        else (Same H H3 ∧ ∃ ys, H3 D = some (.lst ys) ∧ ys.length = i + 1 ∧ ∀ m, m < i + 1 → ∃ z, ys[m]? = some z ∧ R m z H3) := by
    rintro i x H' hi ⟨s, ys, e, hl, hr⟩
    have hlt : i < xs.length := (List.getElem?_eq_some_iff.mp hi).1
    refine hs i x H' _ hi s fun y H4 s4 r4 => ?_
    refine ⟨ys, s4 _ _ e, small_line (by omega), same_upd hD (s.trans s4), ys ++ [y], upd_same, by rw [List.length_append, hl]; rfl, fun m hm => ?_⟩
    have up : ∀ z, R m z H4 → R m z (upd H4 D (.lst (ys ++ [y]))) := fun z hz => hR _ _ _ _ (fun b us eb => by
      rw [upd_ne (fun q => by rw [q, s4 _ _ e] at eb; cases eb)]
      exact eb) hz
    by_cases em : m = i
    · subst em
      exact ⟨y, by rw [← hl]; simp, up _ r4⟩
    · obtain ⟨z, e1, e2⟩ := hr m (by omega)
      exact ⟨z, by rw [List.getElem?_append_left (by omega)]; exact e1, up _ (hR _ _ _ _ (TupSame.of s4) e2)⟩
  have z : Same H (upd H D (.lst [])) ∧ ∃ ys, (upd H D (.lst [])) D = some (.lst ys) ∧ ys.length = 0 ∧ ∀ m, m < 0 → ∃ y, ys[m]? = some y ∧ R m y (upd H D (.lst [])) := ⟨same_new hD, [], upd_same, rfl, fun m hm => absurd hm (Nat.not_lt_zero _)⟩
  have fin : ∀ H', (Same H H' ∧ ∃ ys, H' D = some (.lst ys) ∧ ys.length = xs.length ∧ ∀ m, m < xs.length → ∃ y, ys[m]? = some y ∧ R m y H') → Q (.ref D) H' := fun H' ⟨s, ys, e, hl, hr⟩ => k D ys H' hD s e hl hr
  obtain ⟨a, ⟨rfl, hx⟩ | ⟨rfl, hx⟩⟩ := hx
  · exact L2.lc_list (xs := xs) (fun i H' => Same H H' ∧ ∃ ys, H' D = some (.lst ys) ∧ ys.length = i ∧ ∀ m, m < i → ∃ y, ys[m]? = some y ∧ R m y H') z (fun i H' _ p => p.1.seq hx) body fin
  · exact L2.lc_tup (xs := xs) (fun i H' => Same H H' ∧ ∃ ys, H' D = some (.lst ys) ∧ ys.length = i ∧ ∀ m, m < i → ∃ y, ys[m]? = some y ∧ R m y H') z (fun i H' _ p => Same.seqT p.1 hx) body fin
end Nw
end
section
set_option Elab.async false
set_option linter.all false
set_option maxRecDepth 100000
set_option maxHeartbeats 2000000
/-! == of equal data -/
namespace Nw
open PySem PySem.Spec PyProof.Rows L2
def lay (k : Nat) (d : PyData) : Prop := d.canLay0 = true ∧ d.depth ≤ k
theorem lay.le {j k : Nat} {d : PyData} (h : lay j d) (e : j ≤ k) : lay k d := ⟨h.1, Nat.le_trans h.2 e⟩
theorem lays {k : Nat} : ∀ {ds : List PyData}, (∀ d ∈ ds, lay k d) → PyData.canLayAll0 ds = true ∧ PyData.depthAll ds ≤ k
  | [], _ => ⟨by simp [PyData.canLayAll0], by simp [PyData.depthAll]⟩
  | d :: ds, h => by
    obtain ⟨h1, h2⟩ := h d List.mem_cons_self
    obtain ⟨h3, h4⟩ := lays fun e he => h e (List.mem_cons_of_mem _ he)
    refine ⟨by simp [PyData.canLayAll0, h1, h3], ?_⟩
    simp only [PyData.depthAll]
    omega
theorem lay_tup {k : Nat} {ds : List PyData} (h : ∀ d ∈ ds, lay k d) : lay (k + 1) (.tuple ds) := by
  obtain ⟨h1, h2⟩ := lays h
  refine ⟨by simp only [PyData.canLay0]; exact h1, ?_⟩
  simp only [PyData.depth]
  omega
theorem lay_lst {k : Nat} {ds : List PyData} (h : ∀ d ∈ ds, lay k d) : lay (k + 1) (.list ds) := by
  obtain ⟨h1, h2⟩ := lays h
  refine ⟨by simp only [PyData.canLay0]; exact h1, ?_⟩
  simp only [PyData.depth]
  omega
theorem lay_int {i : Int} : lay 0 (.int i) := ⟨by simp [PyData.canLay0], by simp [PyData.depth]⟩
theorem lay_non : lay 0 .none := ⟨by simp [PyData.canLay0], by simp [PyData.depth]⟩
theorem lay_bl {b : Bool} : lay 0 (.bool b) := ⟨by simp [PyData.canLay0], by simp [PyData.depth]⟩
theorem lay.shaped {k : Nat} {d : PyData} (h : lay k d) (e : k ≤ 64) : SeqAt.shaped d = true := by
  show (d.canLay0 && decide (d.depth ≤ 64)) = true
  rw [Bool.and_eq_true]
  exact ⟨h.1, decide_eq_true (Nat.le_trans h.2 e)⟩
section
variable {K : PySem.W.Frag} {H : Hp} {Q : VK} {x y : V} {d : PyData} {k : Nat}
theorem r_neSame (h1 : Dp K H x d) (h2 : Dp K H y d) (l : lay k d) (e : k ≤ 64) (q : Q (.bl false) H) : rNeD K x y H Q := ⟨d, d, h1, h2, l.shaped e, l.shaped e, by
  rw [PySem.SeqAt.eqv_refl d l.1]
  exact q⟩
theorem r_eqSame (h1 : Dp K H x d) (h2 : Dp K H y d) (l : lay k d) (e : k ≤ 64) (q : Q (.bl true) H) : rEqD K x y H Q := ⟨d, d, h1, h2, l.shaped e, l.shaped e, by
  rw [PySem.SeqAt.eqv_refl d l.1]
  exact q⟩
theorem dpAll_of : ∀ {ds : List PyData} {ys : List V}, ys.length = ds.length → (∀ (i : Nat) (d : PyData), ds[i]? = some d → ∃ y, ys[i]? = some y ∧ Dp K H y d) → DpAll K H ys ds
  | [], [], _, _ => .nil
  | [], _ :: _, h, _ => by simp at h
  | _ :: _, [], h, _ => by simp at h
  | d :: ds, y :: ys, hl, h => by
    obtain ⟨z, e, hz⟩ := h 0 d rfl
    cases e
    exact .cons hz (dpAll_of (by simpa using hl) fun i d' hd => h (i + 1) d' hd)
theorem dpAll_ints {l : List Nat} : DpAll K H (l.map fun (z : Nat) => V.int (z : Int)) (l.map fun (z : Nat) => PyData.int (z : Int)) := by
  induction l with
  | nil => exact .nil
  | cons a l ih => exact .cons (.int _) ih
abbrev natsD (l : List Nat) : PyData := .tuple (l.map fun (z : Nat) => PyData.int (z : Int))
theorem dp_nats {t : Addr} {l : List Nat} (h : H t = some (.tup (l.map fun (z : Nat) => V.int (z : Int)))) : Dp K H (.ref t) (natsD l) := .tup (.inl (.inl h)) dpAll_ints
theorem lay_nats {l : List Nat} : lay 1 (natsD l) := lay_tup fun d hd => by
  obtain ⟨z, _, rfl⟩ := List.mem_map.mp hd
  exact lay_int
theorem inV_nats {z : Nat} {l : List Nat} : inV (.int (z : Int)) (l.map fun (z : Nat) => V.int (z : Int)) = decide (z ∈ l) := by
  induction l with
  | nil => rfl
  | cons a l ih =>
    show (eqV (.int (a : Int)) (.int (z : Int)) || inV (.int (z : Int)) (l.map fun (z : Nat) => V.int (z : Int))) = _
    rw [ih]
    by_cases e : a = z
    · subst e
      simp [eqV]
    · have e2 : z ≠ a := fun q => e q.symm
      have e3 : ((a : Int) == (z : Int)) = false := by simpa using fun q : (a : Int) = z => e (by omega)
      simp [eqV, e2]
      omega
theorem nats_flat {l : List Nat} : (l.map fun (z : Nat) => V.int (z : Int)).all flatV = true := by
  rw [List.all_map, List.all_eq_true]
  intro z _
  rfl
theorem r_inN {z : Nat} {p : Addr} {l : List Nat} {neg : Bool} (h : Sq K H p (l.map fun (z : Nat) => V.int (z : Int))) (q : Q (.bl (if neg then !decide (z ∈ l) else decide (z ∈ l))) H) : rIn K neg (.int (z : Int)) (.ref p) H Q := ⟨p, _, rfl, h, rfl, nats_flat, by rw [inV_nats]; exact q⟩
end
/-- [e for x in xs] -/
theorem lc_sqM {K : PySem.W.Frag} {J : It} {xs : List V} {j : Nat} {te : TE} {vs : List Nat} {Q : VK} {σ : L2.St} {H : Hp} (f : V → V) (hx : Items K J H xs) (hn : xs.length ≤ 10000) (hw : ∀ x, wipe ((wipe σ vs).set j (some x)) vs = wipe σ vs)
    (hs : ∀ (i : Nat) (x : V) (H' : Hp) (Q' : VK), xs[i]? = some x → Same H H' → (∀ H4, Same H' H4 → Q' (f x) H4) → te ((wipe σ vs).set j (some x)) H' Q')
    (k : ∀ D H', H D = none → Same H H' → H' D = some (.lst (xs.map f)) → Q (.ref D) H') : lcG J (gName j) tYes te vs Q σ H := by
  refine lc_sqE (xs := xs) (fun i y _ => ∃ x, xs[i]? = some x ∧ y = f x) (fun i y H1 H2 _ h => h) hx hn (fun i x H' Q' hi s q => ⟨hw x, hs i x H' Q' hi s fun H4 s4 => q (f x) H4 s4 ⟨x, hi, rfl⟩⟩) fun D ys H' hD s e hl h => ?_
  refine k D H' hD s ?_
  rw [e]
  congr 2
  apply List.ext_getElem?
  intro i
  rw [List.getElem?_map]
  by_cases hi : i < xs.length
  · obtain ⟨y, e1, x, e2, e3⟩ := h i hi
    rw [e1, e2, e3]
    rfl
  · rw [List.getElem?_eq_none (by omega), List.getElem?_eq_none (by omega)]
    rfl
end Nw
end
section
set_option Elab.async false
set_option linter.all false
set_option maxRecDepth 100000
set_option maxHeartbeats 2000000
/-! walks over a dict -/
namespace Nw
open PySem PySem.Spec PyProof.Rows L2
/-- the ways out of a statement that runs while d is locked -/
def lkD (od : Obj) (d : Addr) (u : HO) (D : Ends) : Ends := ⟨fun τ G => G d = some (.frz od u) ∧ D.nx τ (upd G d u), fun v G => G d = some (.frz od u) ∧ D.rt v (upd G d u), fun τ G => G d = some (.frz od u) ∧ D.bk τ (upd G d u), fun τ G => G d = some (.frz od u) ∧ D.ct τ (upd G d u)⟩
def wkeys (x : V) (H1 : Hp) (R : It → Hp → Prop) : Prop := ∃ d o, x = .ref d ∧ ((∃ kvs, H1 d = some (.frz o (.dK kvs)) ∧ R (Itk d o kvs) H1) ∨ ∃ kvs, H1 d = some (.frz o (.dT kvs)) ∧ R (Itkt d o kvs) H1)
section
variable {σ : L2.St} {H : Hp} {d : Addr} {u : HO} {D : Ends} {t : TS} {te : TE} {R : It → Hp → Prop} {g : TG} {kvs : List (L2.Key × V)} {od : Obj}
theorem r_lock (h : H d = some u) (m : Mut (some u)) (q : ∀ od, t (lkD od d u D) σ (upd H d (.frz od u))) : tLock t D σ H := ⟨d, u, h, m, q⟩
theorem r_keysI (h : te σ H fun x H1 => wkeys x H1 R) : iKeys te σ H R := h
theorem r_keys (h : H d = some (.frz od (.dK kvs))) (q : R (Itk d od kvs) H) : wkeys (.ref d) H R := ⟨d, od, rfl, .inl ⟨kvs, h, q⟩⟩
theorem lp_keys (Pv : Nat → L2.St → Hp → Prop) (h0 : Pv 0 σ H) (hl : ∀ i τ G, i ≤ kvs.length → Pv i τ G → G d = some (.frz od (.dK kvs)))
    (hs : ∀ (i : Nat) (p : L2.Key × V) τ G, kvs[i]? = some p → Pv i τ G → g (kV p.1) τ G fun σ2 H2 => t { D with nx := Pv (i + 1), ct := Pv (i + 1), bk := D.nx } σ2 H2) (hd : ∀ τ G, Pv kvs.length τ G → D.nx τ G) : lp (Itk d od kvs) g t D σ H := by
  refine ⟨fun i m τ G => m = kvs.length - i ∧ i ≤ kvs.length ∧ Pv i τ G, ⟨kvs.length, by simp, Nat.zero_le _, h0⟩, ?_⟩
  rintro i m τ G ⟨rfl, hi, p⟩
  have q := hl i τ G hi p
  by_cases hlt : i < kvs.length
  · refine .inr ⟨⟨q, hlt⟩, Pv (i + 1), fun τ' G' p' => ⟨kvs.length - (i + 1), by omega, rfl, hlt, p'⟩, fun x G' y => ?_⟩
    obtain ⟨e, k, v, hk, ex⟩ := y
    subst e ex
    exact hs i (k, v) τ _ hk p
  · have e : i = kvs.length := by omega
    subst e
    exact .inl ⟨⟨q, Nat.le_refl _⟩, hd τ G p⟩
/-- what stood before the lock stands behind it -/
theorem unlock_same {G : Hp} (h : H d = some u) (s : Same (upd H d (.frz od u)) G) : Same H (upd G d u) := fun b o e => by
  by_cases c : b = d
  · rw [c, upd_same]
    rw [c, h] at e
    exact e
  · rw [upd_ne c]
    exact s b o (by rw [upd_ne c]; exact e)
end
/-- for over a list or a tuple that stood before -/
theorem lp_sq0 {K : PySem.W.Frag} {σ : L2.St} {H0 H : Hp} {a : Addr} {xs : List V} {g : TG} {t : TS} {D : Ends} (hx : Sq K H0 a xs) (s0 : Same H0 H) (Pv : Nat → L2.St → Hp → Prop) (h0 : Pv 0 σ H) (hl : ∀ i τ G, Pv i τ G → Same H0 G)
    (hs : ∀ i x σ H, xs[i]? = some x → Pv i σ H → g x σ H fun σ2 H2 => t { D with nx := Pv (i + 1), ct := Pv (i + 1), bk := D.nx } σ2 H2) (hd : ∀ σ H, Pv xs.length σ H → D.nx σ H) : wsq K (.ref a) H fun J H1 => lp J g t D σ H1 := by
  rcases hx with hx | hx
  · exact ⟨a, rfl, .inl ⟨⟨xs, s0.seq hx⟩, lp_list (xs := xs) Pv h0 (fun i τ G _ p => (hl i τ G p).seq hx) hs hd⟩⟩
  · exact ⟨a, rfl, .inr ⟨⟨xs, Same.seqT s0 hx⟩, lp_tup (xs := xs) Pv h0 (fun i τ G _ p => Same.seqT (hl i τ G p) hx) hs hd⟩⟩
end Nw
end
section
set_option Elab.async false
set_option linter.all false
set_option maxRecDepth 100000
set_option maxHeartbeats 4000000
/-! sets of nested tuples of numbers, below 64 of them: set(xs), sorted of it -/
namespace NwS
open PySem PySem.Spec PyProof.Rows L2
abbrev NK : Type := NestedKey
mutual
/-- no text within -/
def calm : NK → Bool
  | .text _ => false
  | .tup ks => calms ks
  | _ => true
def calms : List NK → Bool
  | [] => true
  | k :: ks => calm k && calms ks
end
theorem calms_mem : ∀ {ks : List NK}, calms ks = true → ∀ k ∈ ks, calm k = true
  | [], _, k, hk => nomatch hk
  | a :: ks, h, k, hk => by
    rw [calms, Bool.and_eq_true] at h
    rcases List.mem_cons.mp hk with e | hk
    · rw [e]; exact h.1
    · exact calms_mem h.2 k hk
/-- the tuple at a is the key k -/
structure Key (h : Heap) (k : NK) (a : Addr) : Prop where
  is : NestedIs h k (.ref a)
  low : k.depth ≤ 8
  cl : calm k = true
section
variable {P : Program} {w : World}
abbrev Says {α : Type} (P : Program) (w : World) (m : Sem α) (x : α) (s : Shared) : Prop := ∀ (A : Around) (E : Value → Shared → Prop) (Q : α → Shared → Prop), Q x s → wpAny (model P w) A m Q E s
theorem ofA_tup {n : Nat} {s : Shared} {a : Addr} {o : Obj} {vs : Array Value} {m : Nat} (ho : s.heap.get? a = some o) (hc : o.cls = .type "tuple") (hd : o.data = .seq vs m) (hv : ∀ v ∈ vs.toList, Says P w (ofAClassStatement n v) false s) :
    Says P w (ofAClassStatement (n + 1) (.ref a)) false s := fun A E Q hq => by
  unfold ofAClassStatement
  refine wpAny_bind (wpAny_typeOf (show s.TypeIs (.ref a) "tuple" from ⟨o, ho, hc⟩) ?_)
  dsimp only
  simp only [show (("tuple" : String) == "tuple") = true by decide, if_true, Bool.not_true, Bool.false_eq_true, if_false]
  try refine wpAny_bind (wpAny_pure ?_)
  try simp only [Bool.not_true, Bool.false_eq_true, if_false]
  refine (show wpAny _ _ (seqItems? (.ref a) >>= _) _ _ s from wpAny_bind (wpAny_seqItems ho hd ?_))
  dsimp only
  refine wpAny_bind (show wpAny _ _ (forIn vs _ _) _ _ s from ?_)
  rw [← Array.forIn_toList]
  refine wpAny_forIn_list _ (fun rest r s' => (r.1 = none ∧ s' = s) ∧ ∀ v ∈ rest, Says P w (ofAClassStatement n v) false s) _ (fun v rest r s' hh => ?_) (fun r s' hh => ?_) _ _ ⟨⟨rfl, rfl⟩, hv⟩
  · obtain ⟨⟨_, rfl⟩, al⟩ := hh
    refine wpAny_bind (al v List.mem_cons_self _ _ _ ?_)
    simp only [Bool.false_eq_true, if_false]
    exact wpAny_pure ⟨⟨rfl, rfl⟩, fun u hu => al u (List.mem_cons_of_mem _ hu)⟩
  · obtain ⟨r1, r2⟩ := r
    obtain ⟨⟨e, rfl⟩, _⟩ := hh
    simp only at e
    subst e
    exact wpAny_pure hq
theorem hby_tup {n : Nat} {s : Shared} {a : Addr} {o : Obj} {vs : Array Value} {m : Nat} (ho : s.heap.get? a = some o) (hc : o.cls = .type "tuple") (hd : o.data = .seq vs m) (hv : ∀ v ∈ vs.toList, Says P w (hashByValue n v) true s) :
    Says P w (hashByValue (n + 1) (.ref a)) true s := fun A E Q hq => by
  unfold hashByValue
  refine wpAny_bind (wpAny_specialOf (show s.TypeIs (.ref a) "tuple" from ⟨o, ho, hc⟩) F.slot_tuple_hash.lookup ?_)
  refine (show wpAny _ _ (seqItems? (.ref a) >>= _) _ _ s from wpAny_bind (wpAny_seqItems ho hd ?_))
  refine wpAny_bind (show wpAny _ _ (forIn vs _ _) _ _ s from ?_)
  rw [← Array.forIn_toList]
  refine wpAny_forIn_list _ (fun rest r s' => (r.1 = none ∧ s' = s) ∧ ∀ v ∈ rest, Says P w (hashByValue n v) true s) _ (fun v rest r s' hh => ?_) (fun r s' hh => ?_) _ _ ⟨⟨rfl, rfl⟩, hv⟩
  · obtain ⟨⟨_, rfl⟩, al⟩ := hh
    refine wpAny_bind (al v List.mem_cons_self _ _ _ ?_)
    simp only [Bool.not_true, Bool.false_eq_true, if_false]
    exact wpAny_pure ⟨⟨rfl, rfl⟩, fun u hu => al u (List.mem_cons_of_mem _ hu)⟩
  · obtain ⟨r1, r2⟩ := r
    obtain ⟨⟨e, rfl⟩, _⟩ := hh
    simp only at e
    subst e
    exact wpAny_pure hq
mutual
theorem ofA_key : ∀ (k : NK) (v : Value) (n : Nat) (s : Shared), NestedIs s.heap k v → k.depth ≤ n → Says P w (ofAClassStatement n v) false s
  | .none, _, n, s, x, _ => by cases x; intro A E Q hq; cases n <;> exact wpAny_pure hq
  | .num i, _, n, s, x, _ => by cases x <;> (intro A E Q hq; cases n <;> exact wpAny_pure hq)
  | .text y, _, n, s, x, _ => by cases x; intro A E Q hq; cases n <;> exact wpAny_pure hq
  | .tup ks, _, n, s, x, hn => by
    cases x with
    | tup hg hc hd hk =>
      rw [NestedKey.depth] at hn
      obtain ⟨n, rfl⟩ : ∃ m, n = m + 1 := ⟨n - 1, by omega⟩
      exact ofA_tup hg hc hd (ofA_keys ks _ n s hk (by omega))
theorem ofA_keys : ∀ (ks : List NK) (vs : List Value) (n : Nat) (s : Shared), NestedAll s.heap ks vs → NestedKey.depthAll ks ≤ n → ∀ v ∈ vs, Says P w (ofAClassStatement n v) false s
  | [], _, n, s, x, _, v, hv => by cases x; cases hv
  | k :: ks, _, n, s, x, hn, v, hv => by
    cases x with
    | cons x1 x2 =>
      rw [NestedKey.depthAll] at hn
      rcases List.mem_cons.mp hv with e | hv
      · rw [e]; exact ofA_key k _ n s x1 (by omega)
      · exact ofA_keys ks _ n s x2 (by omega) v hv
end
mutual
theorem hby_key : ∀ (k : NK) (v : Value) (n : Nat) (s : Shared), NestedIs s.heap k v → k.depth ≤ n → calm k = true → Says P w (hashByValue n v) true s
  | .none, _, n, s, x, _, _ => by cases x; intro A E Q hq; cases n <;> exact wpAny_pure hq
  | .num i, _, n, s, x, _, _ => by cases x <;> (intro A E Q hq; cases n <;> exact wpAny_pure hq)
  | .text y, _, n, s, x, _, c => by cases c
  | .tup ks, _, n, s, x, hn, c => by
    cases x with
    | tup hg hc hd hk =>
      rw [NestedKey.depth] at hn
      obtain ⟨n, rfl⟩ : ∃ m, n = m + 1 := ⟨n - 1, by omega⟩
      exact hby_tup hg hc hd (hby_keys ks _ n s hk (by omega) c)
theorem hby_keys : ∀ (ks : List NK) (vs : List Value) (n : Nat) (s : Shared), NestedAll s.heap ks vs → NestedKey.depthAll ks ≤ n → calms ks = true → ∀ v ∈ vs, Says P w (hashByValue n v) true s
  | [], _, n, s, x, _, _, v, hv => by cases x; cases hv
  | k :: ks, _, n, s, x, hn, c, v, hv => by
    cases x with
    | cons x1 x2 =>
      rw [NestedKey.depthAll] at hn
      rw [calms, Bool.and_eq_true] at c
      rcases List.mem_cons.mp hv with e | hv
      · rw [e]; exact hby_key k _ n s x1 (by omega) c.1
      · exact hby_keys ks _ n s x2 (by omega) c.2 v hv
end
theorem Key.ofA {s : Shared} {k : NK} {a : Addr} (x : Key s.heap k a) : Says P w (ofAClassStatement 8 (.ref a)) false s := ofA_key k _ 8 s x.is x.low
theorem Key.hby {s : Shared} {k : NK} {a : Addr} (x : Key s.heap k a) : Says P w (hashByValue 8 (.ref a)) true s := hby_key k _ 8 s x.is x.low x.cl
theorem Key.quiet {s : Shared} {k : NK} {a : Addr} (x : Key s.heap k a) : Says P w (eqIsQuiet 8 (.ref a)) true s := quiet_key k _ 8 s x.is x.low
theorem Key.at {h h' : Heap} {k : NK} {a : Addr} (x : Key h k a) (kp : ∀ b o vs n, h.get? b = some o → o.data = .seq vs n → h'.get? b = some o) : Key h' k a := ⟨NestedIs.at kp k _ x.is, x.low, x.cl⟩
theorem Key.grow {h h' : Heap} {k : NK} {a : Addr} (x : Key h k a) (kp : ∀ b o, h.get? b = some o → h'.get? b = some o) : Key h' k a := x.at fun b o _ _ e _ => kp b o e
/-- what happens at a set leaves the keys -/
theorem Key.but {h h' : Heap} {k : NK} {a S : Addr} {o : Obj} {es : Array (Int × Value)} {ep : Nat} {t : SetTable} (x : Key h k a) (ho : h.get? S = some o) (hd : o.data = .set es ep t) (sb : Heap.SameBut S h h') : Key h' k a :=
  x.at fun b o' vs n e e2 => (sb.2 b fun z => by
    subst z
    rw [ho] at e
    cases e
    rw [hd] at e2
    cases e2).trans e
theorem Key.inj {h : Heap} {k j : NK} {a : Addr} (x : Key h k a) (y : Key h j a) : k = j := NestedIs.inj _ _ _ x.is y.is
theorem Key.eqb {A : Around} {E : Value → Shared → Prop} {s : Shared} {k j : NK} {a b : Addr} {Q : Bool → Shared → Prop} (x : Key s.heap k a) (y : Key s.heap j b) (hu : A.units + 8 < cLine) (q : Q (decide (k = j)) s) : wpAny (model P w) A (eqBool (.ref a) (.ref b)) Q E s :=
  (nestedKind P w).eqBool hu ⟨x.is, x.low⟩ ⟨y.is, y.low⟩ q
theorem Key.hashed {A : Around} {E : Value → Shared → Prop} {s : Shared} {k : NK} {a : Addr} {Q : Int → Shared → Prop} (x : Key s.heap k a) (hu : A.units + 8 < cLine) (q : Q (k.hash w) { s with toks := s.toks + k.draws }) : wpAny (model P w) A (pyHash (.ref a)) Q E s :=
  (nestedKind P w).pyHash hu ⟨x.is, x.low⟩ q
/-- a search among keys shows nothing -/
theorem Key.unseen {A : Around} {E : Value → Shared → Prop} {s : Shared} {k : NK} {a : Addr} (x : Key s.heap k a) {ys : List Value} (hy : ∀ y ∈ ys, ∃ j c, y = Value.ref c ∧ Key s.heap j c) {Q : Bool → Shared → Prop} (q : Q false s) : wpAny (model P w) A (searchCouldBeSeen (.ref a) ys) Q E s := by
  unfold searchCouldBeSeen
  refine wpAny_bind (wpAny_forIn_list _ (fun rest r s' => (r.1 = none ∧ s' = s) ∧ ∀ y ∈ rest, ∃ j c, y = Value.ref c ∧ Key s.heap j c) _ (fun v rest r s' hh => ?_) (fun r s' hh => ?_) _ _ ⟨⟨rfl, rfl⟩, hy⟩)
  · obtain ⟨⟨_, rfl⟩, al⟩ := hh
    obtain ⟨j, c, rfl, y⟩ := al v List.mem_cons_self
    have more : ∀ y ∈ rest, ∃ j c, y = Value.ref c ∧ Key s'.heap j c := fun u hu => al u (List.mem_cons_of_mem _ hu)
    dsimp only
    by_cases hv : (a == c || (carriedByValue (.ref a) && carriedByValue (.ref c))) = true
    · exact wp_if_pos hv (wpAny_pure ⟨⟨rfl, rfl⟩, more⟩)
    · refine wp_if_neg hv (wpAny_bind (x.quiet _ _ _ ?_))
      simp only [Bool.not_true, Bool.false_eq_true, if_false]
      refine wpAny_bind (y.quiet _ _ _ ?_)
      simp only [Bool.not_true, Bool.false_eq_true, if_false]
      refine wpAny_bind (x.ofA _ _ _ ?_)
      simp only [Bool.false_eq_true, if_false]
      refine wpAny_bind (y.ofA _ _ _ ?_)
      simp only [Bool.false_eq_true, if_false]
      exact wpAny_pure ⟨⟨rfl, rfl⟩, more⟩
  · obtain ⟨r1, r2⟩ := r
    obtain ⟨⟨e, rfl⟩, _⟩ := hh
    simp only at e
    subst e
    exact wpAny_pure q
end
end NwS
end
section
set_option Elab.async false
set_option linter.all false
set_option maxRecDepth 100000
set_option maxHeartbeats 4000000
/-! the set's table: looked through, added to -/
namespace NwS
open PySem PySem.Spec PyProof.Rows L2
/-- the probe behind c steps -/
def pr (m : Nat) (h : Int) (c : Nat) : SetTable.Probe := nth m (runAt m (SetTable.bits h % (m + 1)) (SetTable.bits h)) c
theorem pr_add (m : Nat) (h : Int) (c q : Nat) : nth m (pr m h c) q = pr m h (c + q) := (nth_add m c _ q).symm
theorem pr_j (m : Nat) (h : Int) (c : Nat) : (pr m h c).j = way m h c := rfl
theorem nth_dummy (m : Nat) : ∀ (n : Nat) (p : SetTable.Probe), p.dummy = none → (nth m p n).dummy = none
  | 0, _, h => h
  | n + 1, p, h => nth_dummy m n (adv m p) (by unfold adv; split <;> exact h)
/-- a row of the set's table -/
def rowN (w : World) (p : Addr × NK) : Int × Value := (p.2.hash w, .ref p.1)
/-- the table holds L -/
structure Lay (w : World) (L : List (Addr × NK)) (es : Array (Int × Value)) (t : SetTable) : Prop where
  rows : es.toList = L.map (rowN w)
  tab : TabOk t (L.map fun p => p.2.hash w)
  uniq : (L.map Prod.snd).Nodup
  plain : t.plain = true
  led : w.params.followText "set-order" = true ∨ t.led = true
  room : 5 * L.length < 3 * t.mask
  few : L.length < 64
section
variable {P : Program} {w : World} {L : List (Addr × NK)} {es : Array (Int × Value)} {t : SetTable}
theorem Lay.size (Y : Lay w L es t) : es.size = L.length := by
  rw [← Array.length_toList, Y.rows, List.length_map]
theorem Lay.places (Y : Lay w L es t) : t.place.size = L.length := by
  have h := Y.tab.sz
  rwa [List.length_map] at h
theorem fits_of {n : Nat} (h1 : t.place.size = n) (h2 : t.dummies = #[]) (h3 : n ≤ t.mask) : t.fits n = true := by
  unfold SetTable.fits SetTable.fill
  rw [h2, h1, beq_self_eq_true, Bool.true_and, decide_eq_true_eq]
  exact h3
theorem Lay.fits (Y : Lay w L es t) : t.fits es.size = true := by
  have := Y.room
  exact fits_of (Y.places.trans Y.size.symm) Y.tab.dm (by rw [Y.size]; omega)
theorem Lay.get (Y : Lay w L es t) {i : Nat} {p : Addr × NK} (h : L[i]? = some p) : es[i]? = some (rowN w p) := by
  rw [← Array.getElem?_toList, Y.rows, List.getElem?_map, h] <;> rfl
variable {A : Around} {E : Value → Shared → Prop} {s : Shared} {S a : Addr} {o : Obj} {ep : Nat} {k : NK}
theorem seek_go (ho : s.heap.get? S = some o) (hd : o.data = .set es ep t) (Y : Lay w L es t) (tk : ∀ p ∈ L, Key s.heap p.2 p.1) (x : Key s.heap k a) (hu : A.units + 8 < cLine) {K : Nat} (far : K < 10 * SetTable.turns t.mask)
    (free : way t.mask (k.hash w) K ∉ t.place.toList) (full : ∀ c, c < K → way t.mask (k.hash w) c ∈ t.place.toList) {Q : SetFound → Shared → Prop} (yes : k ∈ L.map Prod.snd → Q (.there none) s) (no : k ∉ L.map Prod.snd → Q (.free (way t.mask (k.hash w) K) false) s) :
    ∀ (f c : Nat) (st : Option SetTable.Probe), st.getD (t.probeStart (k.hash w)) = pr t.mask (k.hash w) c → c ≤ K → K < c + f → (∀ (i : Nat) q, L[i]? = some q → q.2 = k → ∃ c', (c ≤ c' ∧ c' < K) ∧ t.place.toList[i]? = some (way t.mask (k.hash w) c')) →
      wpAny (model P w) A (setSearchFrom S (.ref a) (k.hash w) true f st) Q E s := by
  intro f
  induction f with
  | zero => intro c st _ h1 h2 _; omega
  | succ f ih =>
    intro c st est hcK hKf ahead
    have ways : ∀ q, (nth t.mask (pr t.mask (k.hash w) c) q).j = way t.mask (k.hash w) (c + q) := fun q => by rw [pr_add, pr_j]
    have hashes : ∀ (i : Nat) q, L[i]? = some q → (es[i]?.map (·.1)).getD 0 = q.2.hash w := fun i q hq => by rw [Y.get hq] <;> rfl
    have dl : (pr t.mask (k.hash w) c).dummy = none := nth_dummy _ c _ rfl
    have ec : c + (K - c) = K := by omega
    have spec := go_spec t Y.tab.ris Y.tab.dm (fun i => (es[i]?.map (·.1)).getD 0) (k.hash w) (10 * SetTable.turns t.mask) (K - c) (pr t.mask (k.hash w) c) dl (by omega) (fun q hq => by rw [ways]; exact full _ (by omega)) (by rw [ways, ec]; exact free)
    rw [setSearchFrom_succ]
    refine wpAny_bind (wpAny_setState_of ho hd Y.fits ?_)
    dsimp only
    refine wp_if_neg (by unfold SetTable.gaveWay; rw [mask_odd Y.tab.mok]; decide) ?_
    try refine wpAny_bind (wpAny_pure ?_)
    rw [est]
    rcases spec with ⟨q, i, hq, hi, _, first, found⟩ | ⟨none_, found⟩
    · have found' : t.probe (fun i => (es[i]?.map (·.1)).getD 0) (k.hash w) (pr t.mask (k.hash w) c) = some (.candidate (way t.mask (k.hash w) (c + q)) i (pr t.mask (k.hash w) (c + (q + 1)))) := by
        rw [← ways, ← pr_add]
        exact found
      rw [found']
      dsimp only
      rw [ways] at hi
      have li : i < L.length := by
        have := (List.getElem?_eq_some_iff.mp hi).1
        rw [Array.length_toList, Y.places] at this
        exact this
      obtain ⟨p, hp⟩ : ∃ p, L[i]? = some p := ⟨_, List.getElem?_eq_getElem li⟩
      have pm := List.mem_of_getElem? hp
      have slot := slot_live Y.tab.ris hi
      have body : wpAny (model P w) A (searchRest S (.ref a) (k.hash w) true f es t (way t.mask (k.hash w) (c + q)) i (pr t.mask (k.hash w) (c + (q + 1)))) Q E s := by
        unfold searchRest
        rw [Y.get hp]
        dsimp only [rowN]
        refine wpAny_bind (wpAny_holding ((tk p pm).eqb x hu ?_))
        refine wpAny_bind (wpAny_setState_of ho hd Y.fits ?_)
        dsimp only
        by_cases same : p.2 = k
        · exact wp_if_pos (by simp [same]) (wpAny_pure (yes (List.mem_map.mpr ⟨p, pm, same⟩)))
        · refine wp_if_neg (by simp [same]) ?_
          try refine wpAny_bind (wpAny_pure ?_)
          rw [sameMem]
          dsimp only
          simp only [if_true, slot, Y.get hp, rowN]
          refine wpAny_bind (wpAny_isSame_ref_self (wpAny_bind (wpAny_pure ?_)))
          simp only [if_true]
          refine wp_if_neg (by simp [same]) (ih (c + (q + 1)) _ rfl (by omega) (by omega) fun i' q' hi' hk' => ?_)
          obtain ⟨c', ⟨b1, b2⟩, b3⟩ := ahead i' q' hi' hk'
          refine ⟨c', ⟨?_, b2⟩, b3⟩
          rcases Nat.lt_trichotomy c' (c + q) with z | z | z
          · refine absurd ((hashes i' q' hi').trans (by rw [hk'])) (first (c' - c) i' (by omega) ?_)
            rw [ways, show c + (c' - c) = c' by omega]
            exact b3
          · rw [z] at b3
            have s2 := slot_live Y.tab.ris b3
            rw [slot] at s2
            injection s2 with s2
            subst s2
            rw [hp] at hi'
            cases hi'
            exact absurd hk' same
          · omega
      by_cases hl : t.led = true
      · refine wp_if_neg (by simp [hl]) ?_
        try refine wpAny_bind (wpAny_pure ?_)
        exact body
      · refine wp_if_pos (by simp [hl]) (wpAny_bind (x.unseen (fun y hy => ?_) ?_))
        · obtain ⟨e, he, rfl⟩ := List.mem_map.mp hy
          have he1 : e ∈ es ∧ e.1 = k.hash w := by simpa using he
          have he2 : e ∈ es.toList := by simpa using he1.1
          rw [Y.rows] at he2
          obtain ⟨r, hr, rfl⟩ := List.mem_map.mp he2
          exact ⟨r.2, r.1, rfl, tk r hr⟩
        · refine wp_if_neg (by decide) ?_
          try refine wpAny_bind (wpAny_pure ?_)
          exact body
    · have found' : t.probe (fun i => (es[i]?.map (·.1)).getD 0) (k.hash w) (pr t.mask (k.hash w) c) = some (.empty (way t.mask (k.hash w) K) none) := by
        have e : way t.mask (k.hash w) K = (nth t.mask (pr t.mask (k.hash w) c) (K - c)).j := by rw [ways, ec]
        rw [e]
        exact found
      rw [found']
      dsimp only
      refine wpAny_pure (no fun hm => ?_)
      obtain ⟨q0, h0, e0⟩ := List.mem_map.mp hm
      obtain ⟨i0, hi0⟩ := List.getElem?_of_mem h0
      obtain ⟨c', ⟨b1, b2⟩, b3⟩ := ahead i0 q0 hi0 e0
      refine none_ (c' - c) i0 (by omega) ?_ ((hashes i0 q0 hi0).trans (by rw [e0]))
      rw [ways, show c + (c' - c) = c' by omega]
      exact b3
/-- what a search for adding finds -/
theorem seek (ho : s.heap.get? S = some o) (hd : o.data = .set es ep t) (Y : Lay w L es t) (tk : ∀ p ∈ L, Key s.heap p.2 p.1) (x : Key s.heap k a) (hu : A.units + 8 < cLine) {Q : SetFound → Shared → Prop} (yes : k ∈ L.map Prod.snd → Q (.there none) s)
    (no : ∀ K, k ∉ L.map Prod.snd → way t.mask (k.hash w) K ∉ t.place.toList → (∀ c, c < K → way t.mask (k.hash w) c ∈ t.place.toList) → Q (.free (way t.mask (k.hash w) K) false) s) :
    wpAny (model P w) A (setSearch S (.ref a) (k.hash w) true) Q E s := by
  have := Y.room
  obtain ⟨K, far, free, full⟩ := Y.tab.first (by rw [List.length_map]; omega) (k.hash w)
  have lim : K < 100000 := by
    have : 10 * SetTable.turns t.mask ≤ 1420 := by
      unfold SetTable.turns
      rcases Y.tab.mok with e | e | e <;> omega
    omega
  unfold setSearch
  refine seek_go ho hd Y tk x hu far free full yes (fun z => no K z free full) 100000 0 none rfl (Nat.zero_le _) (by omega) fun i q hq e => ?_
  have hh : (L.map fun p => p.2.hash w)[i]? = some (k.hash w) := by rw [List.getElem?_map, hq, ← e] <;> rfl
  have li : i < t.place.toList.length := by
    rw [Array.length_toList, Y.places]
    exact (List.getElem?_eq_some_iff.mp hq).1
  obtain ⟨c, hc, e2⟩ := Y.tab.before free hh (List.getElem?_eq_getElem li)
  exact ⟨c, ⟨Nat.zero_le _, hc⟩, by rw [e2]; exact List.getElem?_eq_getElem li⟩
/-- the rows in another order -/
theorem rows_by (es : Array (Int × Value)) (hr : es.toList = L.map (rowN w)) (ord : Array Nat) (hp : ord.toList.Perm (List.range L.length)) : ∃ M : List (Addr × NK), M.Perm L ∧ (ord.filterMap (es[·]?)).toList = M.map (rowN w) ∧ (M.map fun p => p.2.hash w) = ord.toList.map fun i => (es.map (·.1)).getD i 0 := by
  have ent : ∀ i, es[i]? = (L[i]?).map (rowN w) := fun i => by rw [← Array.getElem?_toList, hr, List.getElem?_map]
  have all : ∀ l : List Nat, (∀ i ∈ l, i < L.length) → l.filterMap (fun i => es[i]?) = (l.filterMap fun i => L[i]?).map (rowN w) ∧ ((l.filterMap fun i => L[i]?).map fun p => p.2.hash w) = l.map fun i => (es.map (·.1)).getD i 0 := by
    intro l
    induction l with
    | nil => exact fun _ => ⟨rfl, rfl⟩
    | cons i l ih =>
      intro hl
      obtain ⟨h1, h2⟩ := ih fun j hj => hl j (List.mem_cons_of_mem _ hj)
      have hi : i < L.length := hl i List.mem_cons_self
      have g : L[i]? = some L[i] := List.getElem?_eq_getElem hi
      have g2 : es[i]? = some (rowN w L[i]) := by rw [ent, g] <;> rfl
      refine ⟨?_, ?_⟩
      · rw [List.filterMap_cons_some g2, List.filterMap_cons_some g, List.map_cons, h1]
      · rw [List.filterMap_cons_some g, List.map_cons, List.map_cons, h2]
        have g3 : (es.map (·.1))[i]? = some (L[i].2.hash w) := by rw [Array.getElem?_map, g2] <;> rfl
        rw [Array.getD_eq_getD_getElem?, g3] <;> rfl
  have whole : ∀ l : List (Addr × NK), (List.range l.length).filterMap (fun i => l[i]?) = l := by
    intro l
    induction l with
    | nil => rfl
    | cons y l ih =>
      rw [List.length_cons, List.range_succ_eq_map, List.filterMap_cons_some (show (fun i => (y :: l)[i]?) 0 = some y from rfl), List.filterMap_map]
      exact congrArg (y :: ·) ih
  obtain ⟨h1, h2⟩ := all ord.toList fun i hi => List.mem_range.mp (hp.mem_iff.mp hi)
  refine ⟨_, ?_, by first | (rw [Array.toList_filterMap]; exact h1) | simpa using h1, h2⟩
  have := hp.filterMap fun i => L[i]?
  rwa [whole L] at this
end
end NwS
end
section
set_option Elab.async false
set_option linter.all false
set_option maxRecDepth 100000
set_option maxHeartbeats 4000000
/-! the set: adding, set(xs) of a list -/
namespace NwS
open PySem PySem.Spec PyProof.Rows L2
/-- the object at S is a set of the keys of L -/
def Hold (w : World) (h : Heap) (S : Addr) (L : List (Addr × NK)) : Prop := ∃ o es ep t, h.get? S = some o ∧ o.ExactSet ∧ o.data = .set es ep t ∧ Lay w L es t
def Keys (h : Heap) (L : List (Addr × NK)) : Prop := ∀ p ∈ L, Key h p.2 p.1
theorem Keys.grow {h h' : Heap} {L : List (Addr × NK)} (x : Keys h L) (kp : ∀ b o, h.get? b = some o → h'.get? b = some o) : Keys h' L := fun p hp => (x p hp).grow kp
section
variable {P : Program} {w : World} {L : List (Addr × NK)} {es : Array (Int × Value)} {t : SetTable} {A : Around} {E : Value → Shared → Prop} {s : Shared} {S a : Addr} {o : Obj} {ep : Nat} {k : NK}
theorem Hold.same {h h' : Heap} (x : Hold w h S L) (e : ∀ o, h.get? S = some o → h'.get? S = some o) : Hold w h' S L := by
  obtain ⟨o, es, ep, t, h1, r⟩ := x
  exact ⟨o, es, ep, t, e o h1, r⟩
/-- the table laid anew -/
theorem relay (ho : s.heap.get? S = some o) (ex : o.ExactSet) (hd : o.data = .set es ep t) (hr : es.toList = L.map (rowN w)) (hp : t.place.size = L.length) (dm : t.dummies = #[]) (le : L.length ≤ t.mask)
    (un : (L.map Prod.snd).Nodup) (pl : t.plain = true) (ld : w.params.followText "set-order" = true ∨ t.led = true) (few : L.length < 64) {wanted M : Nat} (big : SetTable.sizeAbove wanted = M + 1) (ok : MaskOk M) (room : 5 * L.length < 3 * M)
    {Q : Unit → Shared → Prop} (q : ∀ h' L', Heap.SameBut S s.heap h' → Hold w h' S L' → L'.Perm L → Q () { s with heap := h' }) : wpAny (model P w) A (setRelay S wanted) Q E s := by
  have sz : es.size = L.length := by rw [← Array.length_toList, hr, List.length_map]
  obtain ⟨t', ord, e, pm, T, em, el, epl, _⟩ := relaid_ok t (hs := es.map (·.1)) (wanted := wanted) (M := M) (by omega) ok (by rw [Array.size_map, sz]; omega)
  rw [Array.size_map, sz] at pm
  obtain ⟨M', m1, m2, m3⟩ := rows_by es hr ord pm
  rw [← m3] at T
  have sz2 : (ord.filterMap (es[·]?)).size = L.length := by rw [← Array.length_toList, m2, List.length_map, m1.length_eq]
  have lim : M + 1 ≤ 128 := by rcases ok with z | z | z <;> omega
  rw [setRelay_eq]
  refine wpAny_bind (wpAny_setState_of ho hd (by rw [sz]; exact fits_of hp dm le) ?_)
  dsimp only
  refine wp_if_neg (by rw [big, sizeLine_eq]; omega) ?_
  try refine wpAny_bind (wpAny_pure ?_)
  rw [e]
  dsimp only
  refine wpAny_bind (wp_if_neg (by rw [sz2, sz]; simp) ?_)
  try refine wpAny_bind (wpAny_pure ?_)
  refine wpAny_pure ?_
  dsimp only
  refine wpAny_storeSet_of ho hd (q _ M' (Heap.SameBut.update ..) ⟨_, _, _, t', store_at ho hd, ⟨ex.1, ex.2.1, ex.2.2⟩, rfl, m2, T, (m1.map Prod.snd).nodup_iff.mpr un, by rw [epl]; exact pl, by rw [el]; exact ld, ?_, ?_⟩ m1) (by rw [sz2, sizeLine_eq]; omega)
  · rw [m1.length_eq, em]; exact room
  · rw [m1.length_eq]; exact few
theorem mid_perm {α : Type} (l : List α) (n : Nat) (y : α) : (l.take n ++ y :: l.drop n).Perm (y :: l) := by
  have h : (l.take n ++ y :: l.drop n).Perm (y :: (l.take n ++ l.drop n)) := List.perm_middle
  rwa [List.take_append_drop] at h
/-- a key added -/
theorem adds (x : Hold w s.heap S L) (tk : Keys s.heap L) (key : Key s.heap k a) (hu : A.units + 8 < cLine) (few : L.length + 1 < 64) {Q : Bool → Shared → Prop}
    (q : ∀ b h' L', Heap.SameBut S s.heap h' → Hold w h' S L' → (k ∈ L.map Prod.snd ∧ L' = L ∨ k ∉ L.map Prod.snd ∧ L'.Perm ((a, k) :: L)) → Q b { s with heap := h' }) :
    wpAny (model P w) A (setAddHashed S (.ref a) (k.hash w)) Q E s := by
  obtain ⟨o, es, ep, t, ho, ex, hd, Y⟩ := id x
  have sz := Y.size
  have room := Y.room
  unfold setAddHashed
  refine wpAny_holding ?_
  rw [show (100000 : Nat) = 99999 + 1 from rfl, setAddHashedIn_succ]
  refine wpAny_bind (wpAny_setState_of ho hd Y.fits ?_)
  dsimp only
  refine wp_if_neg (by simp [byScan, Value.scannable]) ?_
  try refine wpAny_bind (wpAny_pure ?_)
  refine wpAny_bind (seek ho hd Y tk key hu (fun hm => ?_) fun K hm free full => ?_)
  · dsimp only
    exact wpAny_pure (q false s.heap L (Heap.SameBut.refl S s.heap) x (.inl ⟨hm, rfl⟩))
  · dsimp only
    refine wpAny_bind (wpAny_setState_of ho hd Y.fits ?_)
    dsimp only
    have pe := Y.tab.put free full
    generalize t.put (way t.mask (k.hash w) K) = pt at pe ⊢
    obtain ⟨t1, n⟩ := pt
    dsimp only at pe ⊢
    obtain ⟨rfl, le, T, em, el, epl, _, _, efill⟩ := pe
    have pl1 : t1.plain = true := epl.trans Y.plain
    first
      | (refine wpAny_bind ?_; refine wp_if_pos pl1 ?_; refine key.hby _ _ _ ?_)
      | refine wp_if_pos pl1 (wpAny_bind (key.hby _ _ _ ?_))
    simp only [if_true]
    generalize SetTable.below t.place (way t.mask (k.hash w) K) = n at le T ⊢
    have rows1 : (SetTable.insertAt es n (k.hash w, Value.ref a)).toList = (L.take n ++ (a, k) :: L.drop n).map (rowN w) := by
      rw [SetTable.toList_insertAt, Y.rows, List.map_append, List.map_cons, List.map_take, List.map_drop] <;> rfl
    have hs1 : (L.map fun p => p.2.hash w).take n ++ k.hash w :: (L.map fun p => p.2.hash w).drop n = (L.take n ++ (a, k) :: L.drop n).map fun p => p.2.hash w := by
      rw [List.map_append, List.map_cons, List.map_take, List.map_drop]
    rw [hs1] at T
    have pm := mid_perm L n (a, k)
    generalize SetTable.insertAt es n (k.hash w, Value.ref a) = es1 at rows1 ⊢
    generalize L.take n ++ (a, k) :: L.drop n = L1 at pm T rows1
    have len1 : L1.length = L.length + 1 := pm.length_eq
    have un1 : (L1.map Prod.snd).Nodup := (pm.map Prod.snd).nodup_iff.mpr (List.nodup_cons.mpr ⟨hm, Y.uniq⟩)
    have sz1 : es1.size = L1.length := by rw [← Array.length_toList, rows1, List.length_map]
    have ld1 : w.params.followText "set-order" = true ∨ t1.led = true := by rw [el]; exact Y.led
    have fill1 : t1.fill = L1.length := by rw [efill, List.length_map, len1]
    have sp1 : t1.place.size = L1.length := by have h := T.sz; rwa [List.length_map] at h
    refine wpAny_bind (wpAny_storeSet_of ho hd ?_ (by rw [sz1, len1, sizeLine_eq]; omega))
    have sb : Heap.SameBut S s.heap (s.heap.update S (Obj.putSet es1 t1)) := Heap.SameBut.update ..
    have ho1 := store_at (es' := es1) (t' := t1) ho hd
    generalize s.heap.update S (Obj.putSet es1 t1) = h1 at sb ho1 ⊢
    by_cases hf : t1.tooFull = true
    · first
        | (refine wpAny_bind ?_; refine wp_if_pos (by simp [hf]) ?_)
        | (refine wp_if_pos (by simp [hf]) ?_; refine wpAny_bind ?_)
      have full1 : 3 * t1.mask ≤ 5 * L1.length := by
        have h := hf
        unfold SetTable.tooFull at h
        rw [decide_eq_true_eq, fill1] at h
        omega
      rw [sz]
      have two : L.length = 4 ∨ L.length = 18 := by
        rw [em, len1] at full1
        rcases Y.tab.mok with z | z | z <;> rw [z] at full1 room <;> omega
      have lm : L1.length ≤ t1.mask := by
        rw [em, len1]
        omega
      have go : ∀ M, SetTable.sizeAbove (SetTable.grown (L.length + 1)) = M + 1 → MaskOk M → 5 * (L.length + 1) < 3 * M → wpAny (model P w) A (setRelay S (SetTable.grown (L.length + 1))) (fun _ s' => wpAny (model P w) A (pure true) Q E s') E { s with heap := h1 } := fun M big ok rm =>
        relay (s := { s with heap := h1 }) ho1 ⟨ex.1, ex.2.1, ex.2.2⟩ rfl rows1 sp1 T.dm lm un1 pl1 ld1 (by rw [len1]; exact few) big ok (by rw [len1]; exact rm) fun h2 L2 sb2 x2 pm2 => wpAny_pure (q true h2 L2 (sb.trans sb2) x2 (.inr ⟨hm, pm2.trans pm⟩))
      rcases two with z | z
      · exact go 31 (by rw [z, size_20]) (.inr (.inl rfl)) (by omega)
      · exact go 127 (by rw [z, size_76]) (.inr (.inr rfl)) (by omega)
    · first
        | refine wp_if_neg (by simp [hf]) ?_
        | (refine wpAny_bind ?_; refine wp_if_neg (by simp [hf]) ?_; refine wpAny_pure ?_)
      refine wpAny_pure (q true h1 L1 sb ⟨_, es1, _, t1, ho1, ⟨ex.1, ex.2.1, ex.2.2⟩, rfl, rows1, T, un1, pl1, ld1, ?_, by rw [len1]; exact few⟩ (.inr ⟨hm, pm⟩))
      have h := hf
      unfold SetTable.tooFull at h
      rw [decide_eq_true_eq, fill1] at h
      omega
/-- what a set has of a row's first i -/
structure Part (ks : List (Addr × NK)) (i : Nat) (L : List (Addr × NK)) : Prop where
  from_ : ∀ p ∈ L, p ∈ ks.take i
  has : ∀ p ∈ ks.take i, p.2 ∈ L.map Prod.snd
  le : L.length ≤ i
theorem Part.step {ks L L' : List (Addr × NK)} {i : Nat} {p : Addr × NK} (g : Part ks i L) (e : ks[i]? = some p) (h : p.2 ∈ L.map Prod.snd ∧ L' = L ∨ p.2 ∉ L.map Prod.snd ∧ L'.Perm (p :: L)) : Part ks (i + 1) L' := by
  have et : ks.take (i + 1) = ks.take i ++ [p] := by rw [List.take_succ, e] <;> rfl
  rcases h with ⟨hm, rfl⟩ | ⟨_, pm⟩
  · refine ⟨fun r hr => by rw [et]; exact List.mem_append_left _ (g.from_ r hr), fun r hr => ?_, Nat.le_succ_of_le g.le⟩
    rw [et, List.mem_append, List.mem_singleton] at hr
    rcases hr with hr | rfl
    · exact g.has r hr
    · exact hm
  · refine ⟨fun r hr => ?_, fun r hr => ?_, by rw [pm.length_eq]; exact Nat.succ_le_succ g.le⟩
    · rw [et, List.mem_append, List.mem_singleton]
      rcases List.mem_cons.mp (pm.mem_iff.mp hr) with z | z
      · exact .inr z
      · exact .inl (g.from_ r z)
    · rw [et, List.mem_append, List.mem_singleton] at hr
      refine (pm.map Prod.snd).mem_iff.mpr ?_
      rcases hr with hr | rfl
      · exact List.mem_cons_of_mem _ (g.has r hr)
      · exact List.mem_cons_self
/-- set.update's loop over keys -/
theorem upd_loop {I : Addr} {fp wr : List Addr} {G : Array GenState → Array GenState → Prop} {n : Nat} {Pv : Nat → Value → Prop} {St : Nat → Shared → Prop} {R : Result → Shared → Prop} (W : WalksS P w A.in1 I fp wr G n Pv St) (out : S ∉ fp) (ks : List (Addr × NK)) (hn : n = ks.length)
    (few : ks.length < 64) (val : ∀ i v, Pv i v → ∃ p, ks[i]? = some p ∧ v = .ref p.1) (h0 : Heap) (tk : Keys h0 ks) (fresh : h0.get? S = none) (fw : ∀ b ∈ wr, h0.get? b = none) (hu : A.in1.units + 8 < cLine) :
    ∀ (m i : Nat) (s : Shared), i + m = n → St i s → (∀ b o, h0.get? b = some o → s.heap.get? b = some o) → (∃ L, Hold w s.heap S L ∧ Part ks i L) →
      (∀ s' L, Moved (S :: wr) G s s' → Hold w s'.heap S L → Part ks n L → (∀ b o, h0.get? b = some o → s'.heap.get? b = some o) → R (.ok (.ret .none)) s') → codeAny (model P w) A (.builtin "set.update.loop" ⟨[.ref S, .ref I], []⟩) R s := by
  have Sw : S ∉ wr := fun h => out (W.sub _ h)
  have old : ∀ {s s' : Shared}, Moved wr G s s' → (∀ b o, h0.get? b = some o → s.heap.get? b = some o) → ∀ b o, h0.get? b = some o → s'.heap.get? b = some o := fun mv kp b o e => mv.heap b o (fun hb => by rw [fw b hb] at e; cases e) (kp b o e)
  intro m
  induction m with
  | zero =>
    rintro i s rfl hst kp ⟨L, x, g⟩ hR
    refine codeAny_builtin F.entry_set_update_loop ?_
    rw [Around.under_plainId F.plain_set_update_loop _]
    refine (show wpAny _ A.in1 (pyNext (.ref I) >>= _) _ _ s from wpAny_bind (W.done s _ _ hst fun s' mv => ?_))
    exact (show wpAny _ A.in1 (ret Value.none) _ _ s' from wpAny_pure (hR s' L (mv.mono fun b hb => List.mem_cons_of_mem _ hb) (x.same fun o e => mv.heap S o Sw e) g (old mv kp)))
  | succ m ih =>
    rintro i s hi hst kp ⟨L, x, g⟩ hR
    refine codeAny_builtin F.entry_set_update_loop ?_
    rw [Around.under_plainId F.plain_set_update_loop _]
    refine (show wpAny _ A.in1 (pyNext (.ref I) >>= _) _ _ s from wpAny_bind (W.item i s _ _ (by omega) hst fun v s' hP hst' mv => ?_))
    obtain ⟨p, hp, rfl⟩ := val i v hP
    have kp' := old mv kp
    have inK : ∀ q ∈ L, q ∈ ks := fun q hq => List.mem_of_mem_take (g.from_ q hq)
    have x' : Hold w s'.heap S L := x.same fun o e => mv.heap S o Sw e
    have key : Key s'.heap p.2 p.1 := (tk p (List.mem_of_getElem? hp)).grow kp'
    refine (show wpAny _ A.in1 (holding [Value.ref p.1] (setAdd S (.ref p.1)) >>= _) _ _ s' from wpAny_bind (wpAny_holding ?_))
    unfold setAdd
    refine wpAny_holding (wpAny_bind (key.hashed hu ?_))
    refine adds (s := { s' with toks := s'.toks + p.2.draws }) x' (fun q hq => (tk q (inK q hq)).grow kp') key hu (by have := g.le; omega) fun b h' L' sb x2 c => ?_
    have kp2 : ∀ b o, h0.get? b = some o → h'.get? b = some o := fun b o e => (sb.2 b (fun z => by rw [z, fresh] at e; cases e)).trans (kp' b o e)
    refine wpAny_pure ⟨plainId_quiet F.plain_set_update_loop _, ih (i + 1) _ (by omega) (W.frame _ s' _ _ hst' (Nat.le_add_right _ _) fun b hb o e => (sb.2 b fun z => out (z ▸ hb)).trans e) kp2 ⟨L', x2, g.step hp c⟩ fun s3 L3 mv3 x3 g3 kp3 => ?_⟩
    exact hR s3 L3 (Moved.trans W.gtrans ((mv.mono fun b hb => List.mem_cons_of_mem _ hb).then_heap (Nat.le_add_right _ _) fun b o hb e => (sb.2 b fun z => hb (by rw [z]; exact List.mem_cons_self)).trans e) mv3) x3 g3 kp3
end
end NwS
end
section
set_option Elab.async false
set_option linter.all false
set_option maxRecDepth 100000
set_option maxHeartbeats 4000000
/-! set(xs), sorted(set), sorted(list): as rules of the layer -/
namespace NwS
open PySem PySem.Spec PyProof.Rows L2
/-- an empty set, new -/
def empty (w : World) : Obj := { cls := .type "set", dict := none, data := .set #[] 0 (.fresh 0 0 (!w.params.followText "set-order")) }
section
variable {P : Program} {w : World} {A : Around} {E : Value → Shared → Prop} {s : Shared}
theorem hold_empty {h : Heap} {S : Addr} (ho : h.get? S = some (empty w)) : Hold w h S [] := by
  refine ⟨_, #[], 0, .fresh 0 0 (!w.params.followText "set-order"), ho, ⟨rfl, rfl, rfl⟩, rfl, ⟨rfl, ⟨List.Pairwise.nil, rfl, rfl, .inl rfl, fun _ z => (by cases z), fun i h j hi => (by cases hi)⟩, List.nodup_nil, rfl, ?_, ?_, ?_⟩⟩
  · show _ ∨ (!w.params.followText "set-order") = true
    cases w.params.followText "set-order"
    · exact .inr rfl
    · exact .inl rfl
  · exact (by decide : 5 * 0 < 3 * 7)
  · exact (by decide : 0 < 64)
/-- set(xs), xs a list: the loop is what is left -/
theorem made {l : Addr} {items : Array Value} (hh : A.handled = none) (hl : s.heap.IsList l items) (G : Heap → Nat → Prop) {Q : Value → Shared → Prop}
    (loop : ∀ R : Result → Shared → Prop, (∀ h' tk, G h' tk → R (.ok (.ret .none)) { s with heap := h', toks := tk }) →
      codeAny (model P w) A.in1.in1 (.builtin "set.update.loop" ⟨[.ref s.heap.objs.size, .ref (s.heap.objs.size + 1)], []⟩) R { s with heap := (s.heap.push (empty w)).push { cls := .type "list_iterator", data := .fields #[.ref l, .int 0 0] } })
    (h : ∀ h' tk, G h' tk → Q (.ref s.heap.objs.size) { s with heap := h', toks := tk }) : wpAny (model P w) A (call (.type "set") [.ref l]) Q E s := by
  obtain ⟨c, tl, hmro⟩ := F.called_set.mro
  have hmade := F.called_set.made
  have hsub := F.called_set.sub
  refine wpAny_call (codeAny_of_tree (show wpAny _ _ (callAny (.type "set") _) _ _ _ from wpAny_pure ⟨Code.quiet_builtin _ (by decide +kernel), codeAny_builtin F.entry_type_call ?_⟩))
  rw [Around.under_plain (weight_type_call_type "set" [.ref l] []) rfl]
  have h1 := F.called_set.notType
  have h2 := F.called_set.canCreate
  have hct := F.typeCall_set_1 (.ref l)
  repeat (any_goals (first | assumption | wp_step))
  refine codeAny_mono (code_set_led1 (.ref l) (E := E) (Q₁ := fun ob s₁ => ob = .ref s.heap.objs.size ∧ s₁ = { s with heap := s.heap.push (empty w) }) ⟨rfl, rfl⟩) fun r s₁ hr => ?_
  match r, hr with
  | .error e, hr => exact hr
  | .ok (.ret ob), ⟨e1, e2⟩ =>
    subst e1 e2
    have at_ : (s.heap.push (empty w)).get? s.heap.objs.size = some (empty w) := Heap.get?_push_size _ rfl
    have ty : Shared.TypeIs { s with heap := s.heap.push (empty w) } (.ref s.heap.objs.size) "set" := ⟨_, at_, rfl⟩
    have hli := F.called_set.init.lookup
    have hbi := F.called_set.init.bind (.ref s.heap.objs.size)
    repeat (any_goals (first | assumption | wp_step))
    refine codeAny_mono (codeAny_call_builtin (R := wants (fun r s₂ => r = .none ∧ ∃ h' tk, s₂ = { s with heap := h', toks := tk } ∧ G h' tk) E) F.called_set.init.plain F.entry_set_init (check_set_init_1 ty ?_)) fun r₂ s₂ hr₂ => ?_
    · obtain ⟨⟨cl, di, da, sl⟩, hol, ecl, nl, eda⟩ := hl
      simp only at ecl eda
      subst ecl eda
      have hol' : (s.heap.push (empty w)).get? l = some { cls := .type "list", dict := di, data := .seq items nl, slots := sl } := Heap.get?_push_of_some _ hol
      have hsls := F.sub_list_set
      have hslf := F.sub_list_frozenset
      have hne : (Value.type "list" == Value.type "dict") = false := by decide
      have hl1 : (s.heap.push (empty w)).IsList l items := ⟨_, hol', rfl, nl, rfl⟩
      unfold Builtin.«set.__init__» noKeywords Builtin.Frozenset.updateFrom
      generalize hPI : pyIter = PI
      wp_walk
      subst hPI
      refine wpAny_pyIter_list hl1 (wpAny_bind (wpAny_runValue ?_))
      have sz : (s.heap.push (empty w)).objs.size = s.heap.objs.size + 1 := Heap.size_push ..
      show codeAny _ _ (.builtin "set.update.loop" ⟨[.ref s.heap.objs.size, .ref (s.heap.push (empty w)).objs.size], []⟩) _ _
      rw [sz]
      refine loop _ fun h' tk g => ?_
      refine wpAny_pure ?_
      show wpAny _ _ (ret Value.none) _ _ _
      exact wpAny_pure ⟨rfl, h', tk, rfl, g⟩
    · match r₂, hr₂ with
      | .error e, hr₂ => exact hr₂
      | .ok (.ret r), ⟨e1, h', tk, e2, g⟩ =>
        subst e1 e2
        repeat (any_goals (first | assumption | wp_step))
        exact h h' tk g
      | .ok .next, hr₂ => exact hr₂.elim
      | .ok .brk, hr₂ => exact hr₂.elim
      | .ok .cont, hr₂ => exact hr₂.elim
  | .ok .next, hr => exact hr.elim
  | .ok .brk, hr => exact hr.elim
  | .ok .cont, hr => exact hr.elim
/-- set(xs) of keys -/
theorem set_keys {l : Addr} {items : Array Value} (ks : List (Addr × NK)) {Q : Value → Shared → Prop} (hh : A.handled = none) (hl : s.heap.IsList l items) (hit : items.toList = ks.map fun p => Value.ref p.1) (tk : Keys s.heap ks) (few : ks.length < 64) (hu : A.units + 12 < cLine)
    (h : ∀ (h' : Heap) (tk : Nat) L, Hold w h' s.heap.objs.size L → Part ks ks.length L → (∀ b o, s.heap.get? b = some o → h'.get? b = some o) → Q (.ref s.heap.objs.size) { s with heap := h', toks := tk }) :
    wpAny (model P w) A (call (.type "set") [.ref l]) Q E s := by
  have sz : items.size = ks.length := by rw [← Array.length_toList, hit, List.length_map]
  have lt : l < s.heap.objs.size := by
    obtain ⟨o, ho, _⟩ := hl
    exact Heap.lt_size ho
  have s1 : (s.heap.push (empty w)).objs.size = s.heap.objs.size + 1 := Heap.size_push ..
  have gone : ∀ b, s.heap.objs.size ≤ b → s.heap.get? b = none := fun b hb => by
    cases q : s.heap.get? b with
    | none => rfl
    | some o => exact absurd (Nat.lt_of_lt_of_le (Heap.lt_size q) hb) (Nat.lt_irrefl _)
  have hh3 : A.in1.in1.in1.handled = none := by simp [hh]
  have neI : l ≠ s.heap.objs.size + 1 := Nat.ne_of_lt (Nat.lt_succ_of_lt lt)
  have Sf : s.heap.objs.size ∉ [s.heap.objs.size + 1, l] := by
    simp only [List.mem_cons, List.mem_singleton, List.not_mem_nil, or_false, not_or]
    exact ⟨Nat.ne_of_lt (Nat.lt_succ_self _), Nat.ne_of_gt lt⟩
  have val : ∀ (i : Nat) (v : Value), items[i]? = some v → ∃ p, ks[i]? = some p ∧ v = .ref p.1 := fun i v hv => by
    rw [← Array.getElem?_toList, hit, List.getElem?_map] at hv
    obtain ⟨p, hp, e⟩ := Option.map_eq_some_iff.mp hv
    exact ⟨p, hp, e.symm⟩
  refine made hh hl (fun h' tk => ∃ L, Hold w h' s.heap.objs.size L ∧ Part ks ks.length L ∧ ∀ b o, s.heap.get? b = some o → h'.get? b = some o) (fun R hR => ?_) fun h' tk ⟨L, x, g, kp⟩ => h h' tk L x g kp
  have itO : ((s.heap.push (empty w)).push { cls := .type "list_iterator", data := .fields #[.ref l, .int 0 0] }).get? (s.heap.objs.size + 1) = some { cls := .type "list_iterator", data := .fields #[.ref l, .int 0 0] } := by
    rw [← s1]
    exact Heap.get?_push_size _ rfl
  refine upd_loop (Walks.list hh3 (s.heap.objs.size + 1) l neI items).toS Sf ks sz few val s.heap tk (gone _ (Nat.le_refl _)) (fun b hb => gone b (by rw [List.mem_singleton.mp hb]; exact Nat.le_succ _)) (by simp only [Around.in1_units]; omega) items.size 0 _ (by omega)
    ⟨⟨_, itO, rfl, rfl⟩, (hl.push _).push _⟩ (fun b o e => Heap.get?_push_of_some _ (Heap.get?_push_of_some _ e)) ⟨[], hold_empty (Heap.get?_push_of_some _ (Heap.get?_push_size _ rfl)), ⟨fun p z => (by cases z), fun p z => (by simp at z), Nat.le_refl _⟩⟩ fun s' L mv x g kp => ?_
  obtain ⟨h', g2, d', tk', os'⟩ := s'
  have eg : g2 = s.gens := mv.gens
  have ed : d' = s.drawn := mv.drawn
  have eo : os' = s.os := mv.os
  subst eg ed eo
  rw [sz] at g
  exact hR h' tk' ⟨L, x, g, kp⟩
end
end NwS
end
section
set_option Elab.async false
set_option linter.all false
set_option maxRecDepth 100000
set_option maxHeartbeats 4000000
/-! set(xs), sorted(set), sorted(list) of nested tuples, lists: the layer's rules -/
namespace NwS
open PySem PySem.Spec PyProof.Rows L2
mutual
/-- what reads as a key's data is the key -/
theorem key_of_reads {h : Heap} : ∀ (k : NK) (v : Value) (as : List Addr), Reads h v k.data as → NestedIs h k v
  | .none, _, _, r => by cases r; exact .none
  | .num i, _, _, r => by cases r; exact .int _ _
  | .text x, _, _, r => by cases r; exact .text _ _
  | .tup ks, _, _, r => by
    cases r with
    | tuple h1 h2 h3 h4 => exact .tup h1 h2 h3 (keys_of_reads ks _ _ h4)
theorem keys_of_reads {h : Heap} : ∀ (ks : List NK) (vs : List Value) (as : List Addr), ReadsAll h vs (NestedKey.datas ks) as → NestedAll h ks vs
  | [], _, _, r => by cases r; exact .nil
  | k :: ks, _, _, r => by
    cases r with
    | cons h1 h2 => exact .cons (key_of_reads k _ _ h1) (keys_of_reads ks _ _ h2)
end
/-- v is the key k, a tuple -/
structure KV (K : PySem.W.Frag) (H : Hp) (a : Addr) (k : NK) : Prop where
  is : Dp K H (.ref a) k.data
  low : k.depth ≤ 8
  cl : calm k = true
theorem refs_eq {α : Type} {f : α → Addr} : ∀ {ks : List α} {us : List Value}, Vals (ks.map fun p => V.ref (f p)) us → us = ks.map fun p => Value.ref (f p)
  | [], _, .nil => rfl
  | _ :: ks, _, .cons r t => by
    cases r
    rw [refs_eq t] <;> rfl
theorem refs_vals {α : Type} (f : α → Addr) : ∀ (ks : List α), Vals (ks.map fun p => V.ref (f p)) (ks.map fun p => Value.ref (f p))
  | [] => .nil
  | p :: ks => .cons rfl (refs_vals f ks)
/-- a set of keys -/
def SetN (w : World) (a : Addr) (L : List (Addr × NK)) : HO := .ext fun h => Hold w h a L
section
variable {X : Cx}
theorem kv_key {pins : List (Addr × Obj)} {σ : L2.St} {H : Hp} {s : Shared} {a : Addr} {k : NK} (I : Inv X pins σ H s) (x : KV X.K H a k) : Key s.heap k a := by
  obtain ⟨as, r⟩ := Dp.reads I _ _ (.ref a) x.is rfl
  exact ⟨key_of_reads k _ _ r, x.low, x.cl⟩
def rSetN (K : PySem.W.Frag) (w : World) : List V → Hp → VK → Prop := fun xs H Q => ∃ (l : Addr) (ks : List (Addr × NK)), xs = [V.ref l] ∧ SqL K H l (ks.map fun p => V.ref p.1) ∧ (∀ p ∈ ks, KV K H p.1 p.2) ∧ ks.length < 64 ∧
  ∀ a L, H a = none → (∀ p ∈ L, p ∈ ks) → (∀ p ∈ ks, p.2 ∈ L.map Prod.snd) → (L.map Prod.snd).Nodup → Q (.ref a) (upd H a (SetN w a L))
theorem cr_setN (hc : X.calm = true) (hu : X.A.units + 64 < cLine) : CallR X (.type "set") (rSetN X.K X.w) := by
  intro pins s σ H xs us Q I r h
  obtain ⟨l, ks, rfl, hl, hk, few, q⟩ := h
  rw [Vals.ref1 r]
  obtain ⟨its, rv, pl, hz⟩ := I.list hl
  have hn : H s.heap.objs.size = none := I.hok.fresh (Nat.le_refl _)
  refine set_keys (P := X.prog) (w := X.w) ks (I.ok.hd hc) pl.isList (by simpa using refs_eq rv) (fun p hp => kv_key I (hk p hp)) few (by omega) fun h' tk L x g k => ?_
  obtain ⟨o, es, ep, t, ho, e1, e2, Y⟩ := id x
  refine ⟨.ref s.heap.objs.size, upd H s.heap.objs.size (SetN X.w s.heap.objs.size L), I.laid (t' := tk) k (Nat.le_refl _) ⟨x, ⟨o, ho⟩, fun h1 h2 p k => Hold.same p k⟩, rfl, q _ L hn (fun p hp => List.mem_of_mem_take (g.from_ p hp)) (fun p hp => g.has p (by rw [List.take_length]; exact hp)) Y.uniq⟩
/-- sorted(set) -/
theorem sorted_keys {P : Program} {w : World} {A : Around} {E : Value → Shared → Prop} {s : Shared} {S : Addr} {L : List (Addr × NK)} {Q : Value → Shared → Prop} (x : Hold w s.heap S L) (tk : Keys s.heap L) (hh : A.handled = none) (hu : A.units + 12 < cLine)
    (rd : ∀ p ∈ L, ∃ as, Reads s.heap (.ref p.1) p.2.data as ∧ ∀ b ∈ as, b < s.heap.objs.size) (al : PySem.W.AllAlike (L.map fun p => p.2.data)) (so : PySem.W.Sortable (L.map fun p => p.2.data)) (dp : ∀ p ∈ L, p.2.data.depth ≤ 8)
    (q : ∀ s' a (M : List (Addr × NK)) out c, (∀ b o, s.heap.get? b = some o → s'.heap.get? b = some o) → s'.gens = s.gens → s'.os = s.os → s.heap.objs.size ≤ a → s'.heap.get? a = some (seqObj "list" out c) → M.Perm L →
      out.toList = (M.mergeSort (PySem.W.dataLe false fun p : Addr × NK => p.2.data)).map (fun p => Value.ref p.1) → Q (.ref a) s') : wpAny (model P w) A (call (.builtin "sorted") [.ref S]) Q E s := by
  obtain ⟨o, es, ep, t, ho, ex, hd, Y⟩ := x
  refine Calls.call_function_entry kind_sorted plain_sorted entry_sorted (args_sorted1 _) ?_
  unfold Builtin.«sorted»
  refine wpAny_bind (m := checkCount "sorted" 1 1 _) (wpAny_pure (wpAny_bind (collect_set (A := A.in1) hh ⟨o, ho, ex.1, hd⟩ Y.fits (by rw [Y.size]; unfold scanBound; have := Y.few; omega) Y.tab.ris Y.led fun s1 vs kp hz g1 o1 pm => ?_)))
  have ees : es.toList.map (·.2) = L.map fun p => Value.ref p.1 := by
    rw [Y.rows, List.map_map] <;> rfl
  rw [ees] at pm
  obtain ⟨M, eM, pM⟩ : ∃ M : List (Addr × NK), vs = M.map (fun p => Value.ref p.1) ∧ M.Perm L := by
    have gen : ∀ (vs us : List Value), vs.Perm us → ∀ L : List (Addr × NK), us = L.map (fun p => Value.ref p.1) → ∃ M : List (Addr × NK), vs = M.map (fun p => Value.ref p.1) ∧ M.Perm L := by
      intro vs us pm
      induction pm with
      | nil => intro L e; cases L with
        | nil => exact ⟨[], rfl, .nil⟩
        | cons p L => cases e
      | cons v _ ih => intro L e; cases L with
        | nil => cases e
        | cons p L =>
          rw [List.map_cons] at e
          injection e with e1 e2
          obtain ⟨M, h1, h2⟩ := ih L e2
          exact ⟨p :: M, by rw [e1, h1, List.map_cons], h2.cons p⟩
      | swap u v l => intro L e; match L, e with
        | p :: r :: L, e =>
          rw [List.map_cons, List.map_cons] at e
          injection e with e1 e2
          injection e2 with e2 e3
          exact ⟨r :: p :: L, by rw [e1, e2, e3, List.map_cons, List.map_cons], .swap _ _ _⟩
      | trans _ _ ih1 ih2 =>
        intro L e
        obtain ⟨M, h1, h2⟩ := ih2 L e
        obtain ⟨M', h3, h4⟩ := ih1 M h1
        exact ⟨M', h3, h4.trans h2⟩
    exact gen vs _ pm L rfl
  subst eM
  have few : M.length < 64 := by rw [pM.length_eq]; exact Y.few
  refine wpAny_bind (wpAny_newList ?_ (by rw [List.length_map, sizeLine_eq]; omega))
  have oL : (s1.heap.push (seqObj "list" (M.map fun p => Value.ref p.1).toArray 0)).get? s1.heap.objs.size = some (seqObj "list" (M.map fun p => Value.ref p.1).toArray 0) := Heap.get?_push_size _ rfl
  have each : ∀ N : List (Addr × NK), (∀ p ∈ N, p ∈ L) → PySem.W.EachIs (fun v (p : Addr × NK) => v = Value.ref p.1) (N.map fun p => Value.ref p.1) N ∧
      PySem.W.EachIs (fun v (p : Addr × NK) => ∃ as, Reads (s1.heap.push (seqObj "list" (M.map fun p => Value.ref p.1).toArray 0)) v p.2.data as ∧ s1.heap.objs.size ∉ as) (N.map fun p => Value.ref p.1) N := by
    intro N
    induction N with
    | nil => exact fun _ => ⟨.nil, .nil⟩
    | cons p N ih =>
      intro hN
      obtain ⟨h1, h2⟩ := ih fun r hr => hN r (List.mem_cons_of_mem _ hr)
      obtain ⟨as, r, bd⟩ := rd p (hN p List.mem_cons_self)
      exact ⟨.cons rfl h1, .cons ⟨as, PyProof.Rows.Reads.keeps (fun b u e => Heap.get?_push_of_some _ (kp b u e)) r, fun z => absurd (Nat.lt_of_lt_of_le (bd _ z) hz) (Nat.lt_irrefl _)⟩ h2⟩
  obtain ⟨e1, e2⟩ := each M fun p hp => pM.mem_iff.mp hp
  have alM : PySem.W.AllAlike (M.map fun p => p.2.data) := fun d hd d' hd' => al d ((pM.map _).mem_iff.mp hd) d' ((pM.map _).mem_iff.mp hd')
  have soM : PySem.W.Sortable (M.map fun p => p.2.data) := so.imp (fun z d hd => z d ((pM.map _).mem_iff.mp hd)) fun z d hd => z d ((pM.map _).mem_iff.mp hd)
  refine wpAny_bind (wpAny_holding (PySem.W.list_sort_data (s := { s1 with heap := s1.heap.push (seqObj "list" (M.map fun p => Value.ref p.1).toArray 0) }) (enc := fun p : Addr × NK => p.2.data) oL e1 e2 alM soM (by rw [sizeLine_eq]; omega) (fun p hp => ?_) fun out lo eo => ?_))
  · have := dp p (pM.mem_iff.mp hp)
    simp only [Around.in1_units]
    omega
  · obtain ⟨c, hc⟩ := sortedHeap_at (vs := M.map fun p => Value.ref p.1) (out := out.toArray) oL
    have back : ∀ {N : List (Addr × NK)} {vs : List Value}, PySem.W.EachIs (fun v (p : Addr × NK) => v = Value.ref p.1) vs N → vs = N.map fun p => Value.ref p.1 := by
      intro N vs e
      induction e with
      | nil => rfl
      | cons h _ ih => rw [h, ih] <;> rfl
    refine wpAny_pure ⟨_, rfl, q _ s1.heap.objs.size M out.toArray c (fun b u e => ?_) g1 o1 hz hc pM (back eo)⟩
    have k1 := kp b u e
    have lt := Heap.lt_size k1
    show (sortedHeap (s1.heap.push _) s1.heap.objs.size _ _).get? b = some u
    rw [sortedHeap_old (Nat.ne_of_lt lt) (by rw [size_push']; exact Nat.lt_succ_of_lt lt)]
    exact Heap.get?_push_of_some _ k1
end
end NwS
end
section
set_option Elab.async false
set_option linter.all false
set_option maxRecDepth 100000
set_option maxHeartbeats 4000000
/-! sorted(set), sorted(list): the layer's rules -/
namespace NwS
open PySem PySem.Spec PyProof.Rows L2
mutual
theorem key_bare {h : Heap} : ∀ (k : NK) (v : Value) (as : List Addr), Reads h v k.data as → as = []
  | .none, _, _, r => by cases r; rfl
  | .num i, _, _, r => by cases r; rfl
  | .text x, _, _, r => by cases r; rfl
  | .tup ks, _, _, r => by
    cases r with
    | tuple h1 h2 h3 h4 => exact keys_bare ks _ _ h4
theorem keys_bare {h : Heap} : ∀ (ks : List NK) (vs : List Value) (as : List Addr), ReadsAll h vs (NestedKey.datas ks) as → as = []
  | [], _, _, r => by cases r; rfl
  | k :: ks, _, _, r => by
    cases r with
    | cons h1 h2 => rw [key_bare k _ _ h1, keys_bare ks _ _ h2] <;> rfl
end
mutual
theorem depth_data : ∀ k : NK, k.data.depth = k.depth
  | .none => by simp [NestedKey.data, PyData.depth, NestedKey.depth]
  | .num i => by simp [NestedKey.data, PyData.depth, NestedKey.depth]
  | .text x => by simp [NestedKey.data, PyData.depth, NestedKey.depth]
  | .tup ks => by rw [NestedKey.data, PyData.depth, NestedKey.depth, depths_data ks]
theorem depths_data : ∀ ks : List NK, PyData.depthAll (NestedKey.datas ks) = NestedKey.depthAll ks
  | [] => by simp [NestedKey.datas, PyData.depthAll, NestedKey.depthAll]
  | k :: ks => by rw [NestedKey.datas, PyData.depthAll, NestedKey.depthAll, depth_data k, depths_data ks]
end
/-- in the order of their data -/
def srt {α : Type} (f : α → PyData) (M : List α) : List α := M.mergeSort (PySem.W.dataLe false f)
theorem srt_perm {α : Type} (f : α → PyData) (M : List α) : (srt f M).Perm M := List.mergeSort_perm _ _
section
variable {X : Cx}
/-- sorted(s), s a set of keys -/
def rSortedN (K : PySem.W.Frag) (w : World) : List V → Hp → VK → Prop := fun vs H Q => ∃ (a : Addr) (L : List (Addr × NK)), vs = [V.ref a] ∧ H a = some (SetN w a L) ∧ (∀ p ∈ L, KV K H p.1 p.2) ∧ PySem.W.AllAlike (L.map fun p => p.2.data) ∧ PySem.W.Sortable (L.map fun p => p.2.data) ∧
  ∀ (M : List (Addr × NK)) (p : Addr), M.Perm L → H p = none → Q (.ref p) (upd H p (.lst ((srt (fun q : Addr × NK => q.2.data) M).map fun q => V.ref q.1)))
theorem cr_sortedN (hc : X.calm = true) (hu : X.A.units + 64 < cLine) : CallR X (.builtin "sorted") (rSortedN X.K X.w) := by
  intro pins s σ H vs us Q I r h
  obtain ⟨a, L, rfl, ha, hk, al, so, q⟩ := h
  have hold : Hold X.w s.heap a L := (I.hok a _ ha).1
  rw [Vals.ref1 r]
  refine sorted_keys hold (fun p hp => kv_key I (hk p hp)) (I.ok.hd hc) (by omega) (fun p hp => ?_) al so (fun p hp => by rw [depth_data]; exact (hk p hp).low) fun s' b M out c kp g o hb hg pm eo => ?_
  · obtain ⟨as, rr⟩ := Dp.reads I _ _ (.ref p.1) (hk p hp).is rfl
    have := key_bare p.2 _ _ rr
    subst this
    exact ⟨[], rr, fun b z => nomatch z⟩
  · have hn : H b = none := I.hok.fresh hb
    have few : M.length < 64 := by
      obtain ⟨o, es, ep, t, _, _, _, Y⟩ := hold
      rw [pm.length_eq]; exact Y.few
    have len : ((srt (fun q : Addr × NK => q.2.data) M).map fun q => V.ref q.1).length ≤ sizeLine := by
      rw [List.length_map, (srt_perm _ M).length_eq, sizeLine_eq]
      omega
    have rv : Vals ((srt (fun q : Addr × NK => q.2.data) M).map fun q => V.ref q.1) out.toList := by
      rw [eo]
      exact refs_vals _ _
    obtain ⟨h', g', d', t', o'⟩ := s'
    have e1 : g' = s.gens := g
    have e2 : o' = s.os := o
    subst e1 e2
    have J : Inv X pins σ (upd H b (.lst ((srt (fun q : Addr × NK => q.2.data) M).map fun q => V.ref q.1))) { s with heap := h', gens := s.gens, drawn := d', toks := t' } :=
      I.call (ch := []) (Un.laid kp hb hn) (I.hok.laid kp hb ⟨len, out.toList, c, rv, hg⟩) I.bare (fun _ z => nomatch z)
    exact ⟨.ref b, _, J, rfl, q M b pm hn⟩
/-- sorted(xs), xs a list of alike data -/
def rSortedD (K : PySem.W.Frag) : List V → Hp → VK → Prop := fun vs H Q => ∃ (a : Addr) (bs : List (V × PyData)), vs = [V.ref a] ∧ SqL K H a (bs.map Prod.fst) ∧ (∀ p ∈ bs, Dp K H p.1 p.2) ∧ PySem.W.AllAlike (bs.map Prod.snd) ∧ PySem.W.Sortable (bs.map Prod.snd) ∧ (∀ p ∈ bs, p.2.depth ≤ 8) ∧
  ∀ (p : Addr), H p = none → Q (.ref p) (upd H p (.lst ((srt (Prod.snd : V × PyData → PyData) bs).map Prod.fst)))
theorem each_vals {pins : List (Addr × Obj)} {σ : L2.St} {H : Hp} {s : Shared} (I : Inv X pins σ H s) : ∀ (bs : List (V × PyData)) (us : List Value), Vals (bs.map Prod.fst) us → (∀ p ∈ bs, Dp X.K H p.1 p.2) →
    PySem.W.EachIs (fun u (p : V × PyData) => RelV p.1 u) us bs ∧ PySem.W.EachIs (fun u (p : V × PyData) => ∃ as, Reads s.heap u p.2 as) us bs
  | [], _, .nil, _ => ⟨.nil, .nil⟩
  | p :: bs, _, .cons r t, h => by
    obtain ⟨h1, h2⟩ := each_vals I bs _ t fun q hq => h q (List.mem_cons_of_mem _ hq)
    exact ⟨.cons r h1, .cons (Dp.reads I _ _ _ (h p List.mem_cons_self) r) h2⟩
theorem vals_each : ∀ {bs : List (V × PyData)} {us : List Value}, PySem.W.EachIs (fun u (p : V × PyData) => RelV p.1 u) us bs → Vals (bs.map Prod.fst) us
  | _, _, .nil => .nil
  | _, _, .cons h t => .cons h (vals_each t)
theorem cr_sortedD (hu : X.A.units + 64 < cLine) : CallR X (.builtin "sorted") (rSortedD X.K) := by
  intro pins s σ H vs us Q I r h
  obtain ⟨a, bs, rfl, hl, hk, al, so, dp, q⟩ := h
  rw [Vals.ref1 r]
  obtain ⟨its, rv, pl, hz⟩ := I.list hl
  rw [List.length_map] at hz
  obtain ⟨e1, e2⟩ := each_vals I bs its rv hk
  refine PySem.W.sorted_data (enc := (Prod.snd : V × PyData → PyData)) (R := fun u p => RelV p.1 u) pl.isList e1 e2 al so hz (fun p hp => by have := dp p hp; omega) fun out lo eo => ?_
  obtain ⟨n, hn⟩ := PyProof.Rows.sortedAll_at s.heap its out.toArray
  have rv2 := vals_each eo
  refine ⟨.ref (s.heap.objs.size + 1), upd H (s.heap.objs.size + 1) (.lst ((srt (Prod.snd : V × PyData → PyData) bs).map Prod.fst)), I.laid (t' := s.toks) (fun _ _ => PyProof.Rows.sortedAll_old) (Nat.le_succ _) ⟨?_, out, n, rv2, hn⟩, rfl, q _ (I.hok.fresh (Nat.le_succ _))⟩
  rw [List.length_map, (srt_perm _ bs).length_eq]
  exact hz
end
end NwS
end
section
set_option Elab.async false
set_option linter.all false
set_option maxRecDepth 100000
/-! what sorted(..) leaves stands in order -/
namespace NwS
open PySem PySem.Spec PyProof.Rows L2 PySem.W
theorem srt_pw {α : Type} (f : α → PyData) (M : List α) : (srt f M).Pairwise fun a b => dataLt (f b) (f a) = false := by
  have h := List.pairwise_mergeSort (le := PySem.W.dataLe false f) (fun a b c h1 h2 => ?_) (fun a b => ?_) M
  · refine h.imp fun {a b} e => ?_
    have e : (!dataLt (f b) (f a)) = true := e
    rw [Bool.not_eq_true'] at e
    exact e
  · have h1 : (!dataLt (f b) (f a)) = true := h1
    have h2 : (!dataLt (f c) (f b)) = true := h2
    show (!dataLt (f c) (f a)) = true
    rw [Bool.not_eq_true'] at h1 h2 ⊢
    cases e : dataLt (f c) (f a) with
    | false => rfl
    | true =>
      rcases lex_negTrans (O := itemOrd) _ (keyToks (f b)) _ e with z | z
      · exact absurd (z.symm.trans h2) (by decide)
      · exact absurd (z.symm.trans h1) (by decide)
  · show ((!dataLt (f b) (f a)) || (!dataLt (f a) (f b))) = true
    cases e1 : dataLt (f b) (f a) with
    | false => rfl
    | true =>
      cases e2 : dataLt (f a) (f b) with
      | false => rfl
      | true => exact absurd ((lex_trans (O := itemOrd) _ _ _ e1 e2).symm.trans (lex_irrefl _)) (by decide)
theorem head_le {x y : Int} {xs ys : List PyData} (h : dataLt (.tuple (.int x :: xs)) (.tuple (.int y :: ys)) = false) : y ≤ x := by
  rw [dataLt_tuple, PySem.W.dataLt_cons (by simp only [PySem.W.alike])] at h
  by_cases e : x = y
  · omega
  · rw [if_neg (by simp only [PyData.eqv, beq_iff_eq]; exact e), dataLt_int] at h
    have := of_decide_eq_false h
    omega
end NwS
end
section
set_option Elab.async false
set_option linter.all false
set_option maxRecDepth 100000
/-! k07: levels, in plain Lean -/
namespace K07
def put {α : Type} (f : Nat → α) (p : Nat) (v : α) : Nat → α := fun i => if i = p then v else f i
theorem put_at {α : Type} {f : Nat → α} {p : Nat} {v : α} : put f p v p = v := if_pos rfl
theorem put_ne {α : Type} {f : Nat → α} {p i : Nat} {v : α} (h : i ≠ p) : put f p v i = f i := if_neg h
theorem put_self {α : Type} {f : Nat → α} {p : Nat} {v : α} (h : f p = v) : put f p v = f := by
  funext i
  by_cases e : i = p
  · rw [e, put_at, h]
  · rw [put_ne e]
structure Lev where
  low : Nat → Int
  tk : Nat → Nat
  seen : Nat → List Nat
  looks : List (Nat × List Nat)
def new (n : Nat) : Lev := ⟨fun _ => n + 1, fun _ => 0, fun _ => [], []⟩
def Lev.keys (s : Lev) : List Nat := s.looks.map Prod.fst
def ats (n : Nat) (s : Lev) (p : Nat) : Nat := s.tk p % (n + 1)
def seen1 (n : Nat) (s : Lev) (p : Nat) : List Nat := if s.low (ats n s p - 1) ≤ s.low p then s.seen p ++ [ats n s p - 1] else s.seen p
def tk1 (s : Lev) (p : Nat) : Nat → Nat := put s.tk p (s.tk p + 1)
def st0 (s : Lev) (p : Nat) : Lev := ⟨put s.low p (s.low p - 1), tk1 s p, put s.seen p [], s.looks⟩
def st1 (n : Nat) (s : Lev) (p : Nat) : Lev := ⟨s.low, tk1 s p, put s.seen p (seen1 n s p), s.looks⟩
def st2 (n : Nat) (s : Lev) (p : Nat) : Lev := ⟨s.low, tk1 s p, put s.seen p (seen1 n s p), s.looks ++ [(p, seen1 n s p)]⟩
def leaves (n : Nat) (s : Lev) (p : Nat) : Prop := ats n s p = n ∧ s.low p ≤ (seen1 n s p).length
instance {n : Nat} {s : Lev} {p : Nat} : Decidable (leaves n s p) := by unfold leaves; infer_instance
def step (n : Nat) (s : Lev) (p : Nat) : Lev × Option (List Nat) := if ats n s p = 0 then (st0 s p, none) else if leaves n s p then (st2 n s p, some (seen1 n s p)) else (st1 n s p, none)
/-! ### counts -/
def cnt : Nat → (Nat → Int) → Int → Nat
  | 0, _, _ => 0
  | n + 1, f, k => cnt n f k + if f n ≤ k then 1 else 0
theorem cnt_congr {n : Nat} {f g : Nat → Int} {k : Int} (h : ∀ j, j < n → f j = g j) : cnt n f k = cnt n g k := by
  induction n with
  | zero => rfl
  | succ n ih =>
    unfold cnt
    rw [ih fun j hj => h j (Nat.lt_succ_of_lt hj), h n (Nat.lt_succ_self n)]
theorem cnt_put {n p : Nat} {f : Nat → Int} {v k : Int} (hp : p < n) : cnt n (put f p v) k + (if f p ≤ k then 1 else 0) = cnt n f k + (if v ≤ k then 1 else 0) := by
  induction n with
  | zero => exact absurd hp (Nat.not_lt_zero _)
  | succ n ih =>
    unfold cnt
    by_cases e : p = n
    · subst e
      rw [cnt_congr (g := f) fun j hj => put_ne (by omega), put_at]
      omega
    · have := ih (by omega)
      rw [put_ne (by omega)]
      omega
theorem cnt_mono {n : Nat} {f g : Nat → Int} {k l : Int} (h : ∀ j, j < n → f j ≤ k → g j ≤ l) : cnt n f k ≤ cnt n g l := by
  induction n with
  | zero => exact Nat.le_refl _
  | succ n ih =>
    unfold cnt
    have h1 := ih fun j hj => h j (Nat.lt_succ_of_lt hj)
    have h2 := h n (Nat.lt_succ_self n)
    by_cases c : f n ≤ k
    · rw [if_pos c, if_pos (h2 c)]; omega
    · rw [if_neg c]; split <;> omega
theorem cnt_le {n : Nat} {f : Nat → Int} {k : Int} : cnt n f k ≤ n := by
  induction n with
  | zero => exact Nat.le_refl _
  | succ n ih =>
    unfold cnt
    split <;> omega
def low? (f : Nat → Int) (k : Int) : Nat → Bool := fun j => decide (f j ≤ k)
theorem cnt_eq {n : Nat} {f : Nat → Int} {k : Int} : cnt n f k = ((List.range n).filter (low? f k)).length := by
  induction n with
  | zero => rfl
  | succ n ih =>
    rw [List.range_succ, List.filter_append, List.length_append, ← ih]
    show cnt n f k + (if f n ≤ k then 1 else 0) = _
    by_cases c : f n ≤ k
    · rw [if_pos c, List.filter_cons_of_pos (by unfold low?; simpa using c)]; rfl
    · rw [if_neg c, List.filter_cons_of_neg (by unfold low?; simpa using c)]; rfl
theorem two_up {n p q : Nat} {f : Nat → Int} {k : Int} (hp : p < n) (hq : q < n) (ne : p ≠ q) (ep : f p = k + 1) (eq : f q = k + 1) : cnt n f k + 2 ≤ cnt n f (k + 1) := by
  have h1 := cnt_put (f := f) (v := k) (k := k) hp
  have h2 := cnt_put (f := put f p k) (v := k) (k := k) hq
  rw [put_ne (Ne.symm ne)] at h2
  rw [if_neg (by omega), if_pos (Int.le_refl _)] at h1 h2
  have h3 : cnt n (put (put f p k) q k) k ≤ cnt n f (k + 1) := cnt_mono fun j hj hl => by
    by_cases e : j = q
    · rw [e]; omega
    · rw [put_ne e] at hl
      by_cases e2 : j = p
      · rw [e2]; omega
      · rw [put_ne e2] at hl; omega
  omega
theorem one_up {n p : Nat} {f : Nat → Int} {k : Int} (hp : p < n) (ep : f p = k + 1) : cnt n f k + 1 ≤ cnt n f (k + 1) := by
  have h1 := cnt_put (f := f) (v := k) (k := k) hp
  rw [if_neg (by omega), if_pos (Int.le_refl _)] at h1
  have h3 : cnt n (put f p k) k ≤ cnt n f (k + 1) := cnt_mono fun j hj hl => by
    by_cases e2 : j = p
    · rw [e2]; omega
    · rw [put_ne e2] at hl; omega
  omega
/-- filters -/
theorem filter_le {l : List Nat} {P Q : Nat → Bool} (h : ∀ j ∈ l, P j = true → Q j = true) : (l.filter P).length ≤ (l.filter Q).length := by
  rw [← List.countP_eq_length_filter, ← List.countP_eq_length_filter]
  exact List.countP_mono_left h
theorem filter_same {l : List Nat} {P Q : Nat → Bool} (h : ∀ j ∈ l, P j = true → Q j = true) (hl : (l.filter Q).length ≤ (l.filter P).length) : l.filter P = l.filter Q := by
  induction l with
  | nil => rfl
  | cons a l ih =>
    have h' : ∀ j ∈ l, P j = true → Q j = true := fun j hj => h j (List.mem_cons_of_mem _ hj)
    have m := filter_le h'
    by_cases c : P a = true
    · rw [List.filter_cons_of_pos c, List.filter_cons_of_pos (h a List.mem_cons_self c)] at hl ⊢
      rw [ih h' (by simp only [List.length_cons] at hl; omega)]
    · by_cases d : Q a = true
      · rw [List.filter_cons_of_neg c, List.filter_cons_of_pos d] at hl
        simp only [List.length_cons] at hl
        omega
      · rw [List.filter_cons_of_neg c, List.filter_cons_of_neg d] at hl ⊢
        exact ih h' hl
/-! ### the invariant -/
structure G (n : Nat) (s : Lev) (b c : Nat → Nat) (sn : Nat → Nat → Bool) : Prop where
  low : ∀ p, p < n → s.low p = (n : Int) + 1 - b p
  tk : ∀ p, p < n → (b p = 0 ∧ s.tk p = 0 ∧ c p = 0) ∨ (1 ≤ b p ∧ c p ≤ n ∧ s.tk p = (b p - 1) * (n + 1) + 1 + c p)
  seen : ∀ p, p < n → s.seen p = (List.range (c p)).filter (sn p)
  le : ∀ p, p < n → ∀ j, j < c p → sn p j = true → s.low j ≤ s.low p
  own : ∀ p, p < n → p < c p → sn p p = true
  few : ∀ k : Nat, cnt n s.low k ≤ k
  blk : ∀ L : Nat, 1 ≤ L → cnt n s.low L = L → ∃ q, q < n ∧ s.low q = L ∧ ∀ j, j < c q → s.low j ≤ L → sn q j = true
  live : ∀ p, p < n → c p = n → 1 ≤ b p → p ∉ s.keys → ((s.seen p).length : Int) < s.low p
  gone : ∀ p S, (p, S) ∈ s.looks → p < n ∧ 1 ≤ b p ∧ c p = n ∧ s.low p = S.length ∧ S = (List.range n).filter (low? s.low S.length)
  nd : s.keys.Nodup
def Good (n : Nat) (s : Lev) : Prop := ∃ b c sn, G n s b c sn
theorem Good.new (n : Nat) : Good n (new n) := by
  refine ⟨fun _ => 0, fun _ => 0, fun _ _ => true, ?_⟩
  have z : ∀ k : Nat, k ≤ n → cnt n (K07.new n).low k = 0 := fun k hk => by
    have h := cnt_mono (n := n) (f := (K07.new n).low) (g := fun _ => 1) (k := k) (l := 0) fun j hj h => by
      have h : ((n : Int) + 1) ≤ k := h
      omega
    have e : ∀ m, cnt m (fun _ => (1 : Int)) 0 = 0 := fun m => by
      induction m with
      | zero => rfl
      | succ m ih => unfold cnt; rw [ih]; rfl
    rw [e n] at h
    omega
  have le := @cnt_le n (K07.new n).low
  refine ⟨fun p hp => by simp [K07.new], fun p hp => .inl ⟨rfl, rfl, rfl⟩, fun p hp => rfl, fun p hp j hj => absurd hj (Nat.not_lt_zero _), fun p hp hj => absurd hj (Nat.not_lt_zero _), fun k => ?_, fun L hL e => ?_, fun p hp _ h => absurd h (by simp), fun p S h => absurd h (by simp [K07.new]), List.nodup_nil⟩
  · by_cases h : k ≤ n
    · rw [z k h]; omega
    · have := le (k := k); omega
  · by_cases h : L ≤ n
    · rw [z L h] at e; omega
    · have := le (k := L); omega
theorem mod_at {n b c : Nat} (hb : 1 ≤ b) (hc : c ≤ n) : ((b - 1) * (n + 1) + 1 + c) % (n + 1) = if c = n then 0 else c + 1 := by
  split
  · next e =>
    subst e
    rw [show (b - 1) * (c + 1) + 1 + c = (c + 1) * ((b - 1) + 1) by rw [Nat.mul_succ (c + 1) (b - 1), Nat.mul_comm (b - 1) (c + 1)]; omega, Nat.mul_mod_right]
  · next e => rw [show (b - 1) * (n + 1) + 1 + c = (c + 1) + (n + 1) * (b - 1) by rw [Nat.mul_comm]; omega, Nat.add_mul_mod_self_left, Nat.mod_eq_of_lt (by omega)]
section
variable {n : Nat} {s : Lev} {b c : Nat → Nat} {sn : Nat → Nat → Bool} {p : Nat}
theorem G.at0 (g : G n s b c sn) (hn : 1 ≤ n) (hp : p < n) : ats n s p = 0 ↔ b p = 0 ∨ c p = n := by
  unfold ats
  rcases g.tk p hp with ⟨h1, h2, h3⟩ | ⟨h1, h2, h3⟩
  · rw [h2]; simp [h1]
  · rw [h3, mod_at h1 h2]
    split
    · next e => simp [e]
    · next e => simp [e]; omega
theorem G.atc (g : G n s b c sn) (hp : p < n) (h : ats n s p ≠ 0) : ats n s p = c p + 1 ∧ c p < n ∧ 1 ≤ b p ∧ s.tk p = (b p - 1) * (n + 1) + 1 + c p := by
  unfold ats at h ⊢
  rcases g.tk p hp with ⟨h1, h2, h3⟩ | ⟨h1, h2, h3⟩
  · rw [h2] at h; simp at h
  · rw [h3, mod_at h1 h2] at h
    rw [h3, mod_at h1 h2]
    split at h
    · exact absurd rfl h
    · next e => rw [if_neg e]; exact ⟨rfl, by omega, h1, rfl⟩
theorem G.cn (g : G n s b c sn) (hp : p < n) : c p ≤ n := by
  rcases g.tk p hp with ⟨_, _, h3⟩ | ⟨_, h2, _⟩ <;> omega
theorem G.seen_len (g : G n s b c sn) (hp : p < n) : (s.seen p).length ≤ n := by
  rw [g.seen p hp]
  have := List.length_filter_le (sn p) (List.range (c p))
  rw [List.length_range] at this
  exact Nat.le_trans this (g.cn hp)
theorem G.seen_lt (g : G n s b c sn) (hp : p < n) : ∀ j ∈ s.seen p, j < n := by
  intro j hj
  rw [g.seen p hp, List.mem_filter, List.mem_range] at hj
  exact Nat.lt_of_lt_of_le hj.1 (g.cn hp)
theorem G.low_pos (g : G n s b c sn) (hp : p < n) : 1 ≤ s.low p := by
  by_cases h : 1 ≤ s.low p
  · exact h
  · exfalso
    have h0 := g.few 0
    have h1 := cnt_put (n := n) (f := s.low) (v := 1) (k := 0) hp
    rw [if_pos (by omega), if_neg (by decide)] at h1
    have : cnt n s.low ((0 : Nat) : Int) = cnt n s.low 0 := rfl
    omega
/-- a live name that is to descend: no room taken below -/
theorem G.room (g : G n s b c sn) (hn : 1 ≤ n) (hp : p < n) (hk : p ∉ s.keys) (h0 : ats n s p = 0) : ∃ k : Nat, s.low p = k + 1 ∧ cnt n s.low k < k := by
  have lp := g.low_pos hp
  refine ⟨(s.low p - 1).toNat, by omega, ?_⟩
  generalize hkk : (s.low p - 1).toNat = k
  have ek : s.low p = (k : Int) + 1 := by omega
  have f1 := g.few k
  by_cases c1 : cnt n s.low k < k
  · exact c1
  exfalso
  have up := one_up hp ek
  have f2 := g.few (k + 1)
  have cast : (((k + 1 : Nat)) : Int) = (k : Int) + 1 := by omega
  rw [cast] at f2
  have e2 : cnt n s.low ((k + 1 : Nat) : Int) = k + 1 := by rw [cast]; omega
  obtain ⟨q, hq, lq, hs⟩ := g.blk (k + 1) (by omega) e2
  have eq : q = p := by
    by_cases e : q = p
    · exact e
    · have := two_up hp hq (Ne.symm e) ek (by rw [lq, cast])
      omega
  subst eq
  rcases (g.at0 hn hq).mp h0 with hb | hc
  · have := g.low q hq
    have h3 := @cnt_le n s.low ((k + 1 : Nat) : Int)
    omega
  · have hb : 1 ≤ b q := by
      rcases g.tk q hq with ⟨_, _, h3⟩ | ⟨h, _, _⟩
      · omega
      · exact h
    have lv := g.live q hq hc hb hk
    rw [g.seen q hq, hc] at lv
    have : ((List.range n).filter (low? s.low ((k + 1 : Nat) : Int))).length ≤ ((List.range n).filter (sn q)).length := filter_le fun j hj h => by
      rw [List.mem_range] at hj
      exact hs j (by omega) (of_decide_eq_true h)
    rw [← cnt_eq] at this
    omega
end
theorem keys_app {s : Lev} {p : Nat} {S : List Nat} : (s.looks ++ [(p, S)]).map Prod.fst = s.keys ++ [p] := by rw [List.map_append]; rfl
/-- looks go on as others come down, while the counts stay small -/
theorem look_stay {n : Nat} {f f' : Nat → Int} {S : List Nat} (h : S = (List.range n).filter (low? f S.length)) (hf : ∀ j, j < n → f' j ≤ f j) (few : cnt n f' S.length ≤ S.length) : S = (List.range n).filter (low? f' S.length) := by
  have := filter_same (l := List.range n) (P := low? f S.length) (Q := low? f' S.length) (fun j hj hl => by
    rw [List.mem_range] at hj
    have hl : f j ≤ S.length := of_decide_eq_true hl
    exact decide_eq_true (Int.le_trans (hf j hj) hl)) (by rw [← h, ← cnt_eq]; exact few)
  rw [← this]
  exact h
theorem Good.st0 {n : Nat} {s : Lev} {p : Nat} (h : Good n s) (hn : 1 ≤ n) (hp : p < n) (hk : p ∉ s.keys) (h0 : ats n s p = 0) : Good n (st0 s p) := by
  obtain ⟨b, c, sn, g⟩ := h
  obtain ⟨k, ek, ck⟩ := g.room hn hp hk h0
  have e0 := (g.at0 hn hp).mp h0
  have lowf : ∀ j, (K07.st0 s p).low j = put s.low p k j := fun j => by
    show put s.low p (s.low p - 1) j = _
    rw [ek, show (k : Int) + 1 - 1 = k by omega]
  have lowE : (K07.st0 s p).low = put s.low p (k : Int) := funext lowf
  have few' : ∀ m : Nat, cnt n (put s.low p (k : Int)) m ≤ m ∧ (m ≠ k → cnt n (put s.low p (k : Int)) m = cnt n s.low m) := fun m => by
    have h1 := cnt_put (n := n) (f := s.low) (v := (k : Int)) (k := m) hp
    have h2 := g.few m
    rw [ek] at h1
    by_cases c1 : m = k
    · subst c1
      rw [if_neg (by omega), if_pos (by omega)] at h1
      exact ⟨by omega, fun z => absurd rfl z⟩
    · by_cases c2 : m < k
      · rw [if_neg (by omega), if_neg (by omega)] at h1
        exact ⟨by omega, fun _ => by omega⟩
      · rw [if_pos (by omega), if_pos (by omega)] at h1
        exact ⟨by omega, fun _ => by omega⟩
  have down : ∀ j, put s.low p (k : Int) j ≤ s.low j := fun j => by
    by_cases e : j = p
    · rw [e, put_at]; omega
    · rw [put_ne e]; exact Int.le_refl _
  refine ⟨put b p (b p + 1), put c p 0, fun q j => sn q j, ?_⟩
  refine ⟨fun q hq => ?_, fun q hq => ?_, fun q hq => ?_, fun q hq j hj hs => ?_, fun q hq hj => ?_, fun m => by rw [lowE]; exact (few' m).1, fun L hL e => ?_, fun q hq hc hb hkq => ?_, fun q S hm => ?_, g.nd⟩
  · rw [lowE]
    by_cases e : q = p
    · subst e
      have := g.low q hq
      rw [put_at, put_at]; omega
    · rw [put_ne e, put_ne e, g.low q hq]
  · by_cases e : q = p
    · subst e
      rw [put_at, put_at]
      refine .inr ⟨by omega, Nat.zero_le _, ?_⟩
      show put s.tk q (s.tk q + 1) q = _
      rw [put_at]
      rcases g.tk q hq with ⟨h1, h2, h3⟩ | ⟨h1, h2, h3⟩
      · rw [h2, h1]; simp
      · rcases e0 with e0 | e0
        · omega
        · rw [h3, e0, show b q + 1 - 1 = (b q - 1) + 1 by omega, Nat.add_mul]; omega
    · rw [put_ne e, put_ne e]
      have : (K07.st0 s p).tk q = s.tk q := put_ne e
      rw [this]
      exact g.tk q hq
  · by_cases e : q = p
    · subst e
      rw [put_at]
      show put s.seen q [] q = _
      rw [put_at]; rfl
    · rw [put_ne e]
      show put s.seen p [] q = _
      rw [put_ne e, g.seen q hq]
  · by_cases e : q = p
    · subst e
      rw [put_at] at hj
      exact absurd hj (Nat.not_lt_zero _)
    · rw [put_ne e] at hj
      rw [lowE, put_ne e]
      exact Int.le_trans (down j) (g.le q hq j hj hs)
  · by_cases e : q = p
    · subst e
      rw [put_at] at hj
      exact absurd hj (Nat.not_lt_zero _)
    · rw [put_ne e] at hj
      exact g.own q hq hj
  · rw [lowE] at e ⊢
    by_cases c1 : L = k
    · subst c1
      exact ⟨p, hp, put_at, fun j hj => by rw [put_at] at hj; exact absurd hj (Nat.not_lt_zero _)⟩
    · rw [(few' L).2 c1] at e
      obtain ⟨q, hq, lq, hs⟩ := g.blk L hL e
      by_cases eq : q = p
      · exfalso
        subst eq
        rcases e0 with hb | hc
        · have := g.low q hq
          have h3 := @cnt_le n s.low L
          omega
        · have hb : 1 ≤ b q := by
            rcases g.tk q hq with ⟨_, _, h3⟩ | ⟨h, _, _⟩
            · omega
            · exact h
          have lv := g.live q hq hc hb hk
          rw [g.seen q hq, hc] at lv
          have : ((List.range n).filter (low? s.low L)).length ≤ ((List.range n).filter (sn q)).length := filter_le fun j hj h => by
            rw [List.mem_range] at hj
            exact hs j (by omega) (of_decide_eq_true h)
          rw [← cnt_eq] at this
          omega
      · refine ⟨q, hq, by rw [put_ne eq]; exact lq, fun j hj hl => ?_⟩
        rw [put_ne eq] at hj
        refine hs j hj ?_
        by_cases ej : j = p
        · subst ej
          rw [put_at] at hl
          omega
        · rw [put_ne ej] at hl
          exact hl
  · by_cases e : q = p
    · subst e
      rw [put_at] at hc
      omega
    · rw [put_ne e] at hc hb
      have h1 : (K07.st0 s p).seen q = s.seen q := put_ne e
      rw [h1, lowE, put_ne e]
      exact g.live q hq hc hb hkq
  · have hm : (q, S) ∈ s.looks := hm
    obtain ⟨h1, h2, h3, h4, h5⟩ := g.gone q S hm
    have e : q ≠ p := fun e => hk (e ▸ List.mem_map_of_mem (f := Prod.fst) hm)
    rw [put_ne e, put_ne e, lowE, put_ne e]
    exact ⟨h1, h2, h3, h4, look_stay h5 (fun j _ => down j) (few' _).1⟩
theorem seen1_len {n : Nat} {s : Lev} {p : Nat} : (seen1 n s p).length ≤ (s.seen p).length + 1 := by
  unfold seen1
  split
  · rw [List.length_append]; exact Nat.le_refl _
  · omega
/-- the readings that the next cell ends -/
theorem G.read {n : Nat} {s : Lev} {b c : Nat → Nat} {sn : Nat → Nat → Bool} {p : Nat} (g : G n s b c sn) (hp : p < n) (h0 : ats n s p ≠ 0) :
    seen1 n s p = (List.range (c p + 1)).filter (put (sn p) (c p) (decide (s.low (c p) ≤ s.low p))) := by
  obtain ⟨h1, h2, h3, h4⟩ := g.atc hp h0
  unfold seen1
  rw [h1, Nat.add_sub_cancel, List.range_succ, List.filter_append, g.seen p hp]
  have e : (List.range (c p)).filter (put (sn p) (c p) (decide (s.low (c p) ≤ s.low p))) = (List.range (c p)).filter (sn p) := List.filter_congr fun j hj => by
    rw [List.mem_range] at hj
    exact put_ne (by omega)
  rw [e]
  by_cases c1 : s.low (c p) ≤ s.low p
  · rw [if_pos c1, List.filter_cons_of_pos (by rw [put_at]; exact decide_eq_true c1)]; rfl
  · rw [if_neg c1, List.filter_cons_of_neg (by rw [put_at, decide_eq_false c1]; decide)]; simp
theorem st12 {n : Nat} {s : Lev} {p : Nat} (h : Good n s) (hn : 1 ≤ n) (hp : p < n) (hk : p ∉ s.keys) (h0 : ats n s p ≠ 0) (s' : Lev) (e1 : s'.low = s.low) (e2 : s'.tk = tk1 s p) (e3 : s'.seen = put s.seen p (seen1 n s p))
    (e4 : (¬ leaves n s p ∧ s'.looks = s.looks) ∨ (leaves n s p ∧ s'.looks = s.looks ++ [(p, seen1 n s p)])) : Good n s' := by
  obtain ⟨b, c, sn, g⟩ := h
  obtain ⟨h1, h2, h3, h4⟩ := g.atc hp h0
  have rd := g.read hp h0
  refine ⟨b, put c p (c p + 1), put sn p (put (sn p) (c p) (decide (s.low (c p) ≤ s.low p))), ?_⟩
  have le' : ∀ j, j < c p + 1 → put (sn p) (c p) (decide (s.low (c p) ≤ s.low p)) j = true → s.low j ≤ s.low p := fun j hj hs => by
    by_cases e : j = c p
    · subst e
      rw [put_at] at hs
      exact of_decide_eq_true hs
    · rw [put_ne e] at hs
      exact g.le p hp j (by omega) hs
  refine ⟨fun q hq => by rw [e1]; exact g.low q hq, fun q hq => ?_, fun q hq => ?_, fun q hq j hj hs => ?_, fun q hq hj => ?_, fun m => by rw [e1]; exact g.few m, fun L hL e => ?_, fun q hq hc hb hkq => ?_, fun q S hm => ?_, ?_⟩
  · rw [e2]
    unfold tk1
    by_cases e : q = p
    · subst e
      rw [put_at, put_at]
      exact .inr ⟨h3, by omega, by omega⟩
    · rw [put_ne e, put_ne e]
      exact g.tk q hq
  · rw [e3]
    by_cases e : q = p
    · subst e
      rw [put_at, put_at, put_at]
      exact rd
    · rw [put_ne e, put_ne e, put_ne e]
      exact g.seen q hq
  · rw [e1]
    by_cases e : q = p
    · subst e
      rw [put_at] at hj hs
      exact le' j hj hs
    · rw [put_ne e] at hj hs
      exact g.le q hq j hj hs
  · by_cases e : q = p
    · subst e
      rw [put_at] at hj ⊢
      by_cases e2 : q = c q
      · rw [← e2, put_at]
        exact decide_eq_true (Int.le_refl _)
      · rw [put_ne e2]
        exact g.own q hq (by omega)
    · rw [put_ne e] at hj ⊢
      exact g.own q hq hj
  · rw [e1] at e ⊢
    obtain ⟨q, hq, lq, hs⟩ := g.blk L hL e
    refine ⟨q, hq, lq, fun j hj hl => ?_⟩
    by_cases e : q = p
    · subst e
      rw [put_at] at hj ⊢
      by_cases e2 : j = c q
      · subst e2
        rw [put_at]
        exact decide_eq_true (by omega)
      · rw [put_ne e2]
        exact hs j (by omega) hl
    · rw [put_ne e] at hj ⊢
      exact hs j hj hl
  · rw [e3, e1]
    by_cases e : q = p
    · subst e
      rw [put_at] at hc ⊢
      rcases e4 with ⟨nl, _⟩ | ⟨_, ek⟩
      · have nl2 : ¬ (s.low q ≤ (seen1 n s q).length) := fun z => nl ⟨by omega, z⟩
        omega
      · exfalso
        refine hkq ?_
        unfold Lev.keys
        rw [ek, keys_app]
        simp
    · rw [put_ne e] at hc ⊢
      refine g.live q hq hc hb fun hm => hkq ?_
      unfold Lev.keys
      rcases e4 with ⟨_, ek⟩ | ⟨_, ek⟩
      · rw [ek]; exact hm
      · rw [ek, keys_app]; exact List.mem_append_left _ hm
  · rw [e1]
    have old : (q, S) ∈ s.looks → q < n ∧ 1 ≤ b q ∧ put c p (c p + 1) q = n ∧ s.low q = S.length ∧ S = (List.range n).filter (low? s.low S.length) := fun hm => by
      have e : q ≠ p := fun e => hk (e ▸ List.mem_map_of_mem (f := Prod.fst) hm)
      rw [put_ne e]
      exact g.gone q S hm
    rcases e4 with ⟨_, ek⟩ | ⟨⟨l1, l2⟩, ek⟩
    · rw [ek] at hm; exact old hm
    · rw [ek, List.mem_append] at hm
      rcases hm with hm | hm
      · exact old hm
      · rw [List.mem_singleton] at hm
        obtain ⟨rfl, rfl⟩ := Prod.mk.inj hm
        have l1 : ats n s q = n := l1
        have l2 : s.low q ≤ (seen1 n s q).length := l2
        have hc : c q + 1 = n := by omega
        rw [put_at]
        have lp := g.low_pos hp
        obtain ⟨L, hL⟩ : ∃ L : Nat, s.low q = L := ⟨(s.low q).toNat, by omega⟩
        have rd2 : seen1 n s q = (List.range n).filter (put (sn q) (c q) (decide (s.low (c q) ≤ s.low q))) := by rw [rd, hc]
        have imp : ∀ j ∈ List.range n, put (sn q) (c q) (decide (s.low (c q) ≤ s.low q)) j = true → low? s.low L j = true := fun j hj hs => by
          rw [List.mem_range] at hj
          have := le' j (by omega) hs
          exact decide_eq_true (by omega)
        have f1 := g.few L
        have f2 := filter_le imp
        have l3 : L ≤ (seen1 n s q).length := by omega
        rw [← cnt_eq, ← rd2] at f2
        have eL : (seen1 n s q).length = L := by omega
        refine ⟨hp, h3, hc, by rw [eL]; exact hL, ?_⟩
        rw [eL]
        have := filter_same imp (by rw [← cnt_eq, ← rd2]; omega)
        rw [← this]
        exact rd2
  · unfold Lev.keys
    rcases e4 with ⟨_, ek⟩ | ⟨_, ek⟩
    · rw [ek]; exact g.nd
    · rw [ek, keys_app, List.nodup_append]
      refine ⟨g.nd, by simp, fun x hx y hy => ?_⟩
      rw [List.mem_singleton] at hy
      subst hy
      exact fun e => hk (e ▸ hx)
theorem Good.step {n : Nat} {s : Lev} {p : Nat} (h : Good n s) (hn : 1 ≤ n) (hp : p < n) (hk : p ∉ s.keys) : Good n (step n s p).1 := by
  unfold K07.step
  by_cases h0 : ats n s p = 0
  · rw [if_pos h0]; exact h.st0 hn hp hk h0
  · rw [if_neg h0]
    by_cases hl : leaves n s p
    · rw [if_pos hl]; exact st12 h hn hp hk h0 _ rfl rfl rfl (.inr ⟨hl, rfl⟩)
    · rw [if_neg hl]; exact st12 h hn hp hk h0 _ rfl rfl rfl (.inl ⟨hl, rfl⟩)
end K07
end
section
set_option Elab.async false
set_option linter.all false
set_option maxRecDepth 100000
/-! k07: runs, looks, blocks -/
namespace K07
/-! ### lists in order -/
theorem sorted_eq : ∀ {l m : List Nat}, l.Pairwise (· < ·) → m.Pairwise (· < ·) → (∀ x, x ∈ l ↔ x ∈ m) → l = m := by
  intro l m hl hm h
  have nl : l.Nodup := hl.imp fun h => Nat.ne_of_lt h
  have nm : m.Nodup := hm.imp fun h => Nat.ne_of_lt h
  refine List.Perm.eq_of_pairwise (le := (· < ·)) (fun a b _ _ h1 h2 => absurd h1 (Nat.lt_asymm h2)) hl hm ((List.perm_ext_iff_of_nodup nl nm).mpr h)
theorem range_lt (n : Nat) : (List.range n).Pairwise (· < ·) := List.pairwise_lt_range
theorem filter_lt (n : Nat) (P : Nat → Bool) : ((List.range n).filter P).Pairwise (· < ·) := (range_lt n).sublist List.filter_sublist
/-- sorted whole numbers -/
theorem ints_sorted {ns : List Int} {l : List Nat} (hl : l.Pairwise (· < ·)) (hp : ns.Perm (l.map fun (x : Nat) => (x : Int))) (hs : ns.Pairwise (· ≤ ·)) : ns = l.map fun (x : Nat) => (x : Int) :=
  List.Perm.eq_of_pairwise (le := (· ≤ ·)) (fun a b _ _ h1 h2 => Int.le_antisymm h1 h2) hs (List.pairwise_map.mpr (hl.imp fun h => by omega)) hp
/-! ### a run -/
def sched (n : Nat) (s : Lev) (p : Nat) : Lev := if p ∈ s.keys then s else (step n s p).1
def runs (n : Nat) (s : Lev) (ps : List Nat) : Lev := ps.foldl (sched n) s
theorem Good.sched {n : Nat} {s : Lev} {p : Nat} (h : Good n s) (hn : 1 ≤ n) (hp : p < n) : Good n (sched n s p) := by
  unfold K07.sched
  split
  · exact h
  · next hk => exact h.step hn hp hk
theorem Good.runs {n : Nat} (hn : 1 ≤ n) : ∀ {ps : List Nat} {s : Lev}, Good n s → (∀ p ∈ ps, p < n) → Good n (runs n s ps)
  | [], _, h, _ => h
  | p :: ps, s, h, hp => Good.runs hn (ps := ps) (s := K07.sched n s p) (h.sched hn (hp p List.mem_cons_self)) fun q hq => hp q (List.mem_cons_of_mem _ hq)
theorem run_take {n : Nat} {s : Lev} {ps : List Nat} {i p : Nat} (h : ps[i]? = some p) : runs n s (ps.take (i + 1)) = sched n (runs n s (ps.take i)) p := by
  unfold runs
  rw [List.take_add_one, h, Option.toList_some, List.foldl_append]
  rfl
def wrote (n : Nat) (s : Lev) : List Nat := (List.range n).filter fun p => decide (0 < s.tk p)
def goneL (n : Nat) (s : Lev) : List Nat := (List.range n).filter fun p => decide (p ∈ s.keys)
theorem step_looks {n : Nat} {s : Lev} {p : Nat} : (step n s p).1.looks = s.looks ++ (match (step n s p).2 with | none => [] | some S => [(p, S)]) := by
  unfold step
  split
  · show s.looks = _ ++ []; rw [List.append_nil]
  · split
    · rfl
    · show s.looks = _ ++ []; rw [List.append_nil]
theorem step_tk {n : Nat} {s : Lev} {p : Nat} : (step n s p).1.tk = tk1 s p := by
  unfold step
  split
  · rfl
  · split <;> rfl
theorem step_keys {n : Nat} {s : Lev} {p q : Nat} (h : q ∈ s.keys) : q ∈ (step n s p).1.keys := by
  unfold Lev.keys
  rw [step_looks, List.map_append]
  exact List.mem_append_left _ h
section
variable {n : Nat} {s : Lev}
theorem Good.keys_lt (h : Good n s) : ∀ p ∈ s.keys, p < n := fun p hp => by
  obtain ⟨b, c, sn, g⟩ := h
  obtain ⟨⟨q, S⟩, hm, rfl⟩ := List.mem_map.mp hp
  exact (g.gone q S hm).1
theorem Good.nd (h : Good n s) : s.keys.Nodup := by
  obtain ⟨b, c, sn, g⟩ := h
  exact g.nd
theorem Good.goneP (h : Good n s) : s.keys.Perm (goneL n s) := by
  refine (List.perm_ext_iff_of_nodup h.nd ((filter_lt n _).imp fun h => Nat.ne_of_lt h)).mpr fun x => ?_
  rw [List.mem_filter, List.mem_range, decide_eq_true_eq]
  exact ⟨fun hx => ⟨h.keys_lt x hx, hx⟩, fun hx => hx.2⟩
theorem Good.looks_len (h : Good n s) : s.looks.length ≤ n := by
  have h1 := h.goneP.length_eq
  have h2 : (goneL n s).length ≤ n := by
    have := List.length_filter_le (fun p => decide (p ∈ s.keys)) (List.range n)
    rwa [List.length_range] at this
  unfold Lev.keys at h1
  rw [List.length_map] at h1
  omega
theorem Good.seen_len (h : Good n s) {p : Nat} (hp : p < n) : (s.seen p).length ≤ n := by
  obtain ⟨b, c, sn, g⟩ := h
  exact g.seen_len hp
theorem Good.few (h : Good n s) (k : Nat) : ((List.range n).filter (low? s.low k)).length ≤ k := by
  obtain ⟨b, c, sn, g⟩ := h
  rw [← cnt_eq]
  exact g.few k
/-- what is told of each look -/
theorem Good.look (h : Good n s) {p : Nat} {S : List Nat} (hm : (p, S) ∈ s.looks) : p < n ∧ s.low p = S.length ∧ S = (List.range n).filter (low? s.low S.length) ∧ s.tk p = (n + 1 - S.length) * (n + 1) ∧ S.length ≤ n := by
  obtain ⟨b, c, sn, g⟩ := h
  obtain ⟨h1, h2, h3, h4, h5⟩ := g.gone p S hm
  refine ⟨h1, h4, h5, ?_, ?_⟩
  · have lo := g.low p h1
    have : n + 1 - S.length = b p := by omega
    rw [this]
    rcases g.tk p h1 with ⟨z, _, _⟩ | ⟨_, _, z⟩
    · omega
    · rw [z, h3]
      obtain ⟨k, hk⟩ : ∃ k, b p = k + 1 := ⟨b p - 1, by omega⟩
      rw [hk, Nat.add_sub_cancel, Nat.add_mul]
      omega
  · have := List.length_filter_le (low? s.low S.length) (List.range n)
    rw [← h5, List.length_range] at this
    exact this
theorem Good.own (h : Good n s) {p : Nat} {S : List Nat} (hm : (p, S) ∈ s.looks) : p ∈ S := by
  obtain ⟨h1, h2, h3, _, _⟩ := h.look hm
  rw [h3, List.mem_filter, List.mem_range]
  exact ⟨h1, decide_eq_true (by omega)⟩
theorem Good.mem (h : Good n s) {p : Nat} {S : List Nat} (hm : (p, S) ∈ s.looks) {x : Nat} : x ∈ S ↔ x < n ∧ s.low x ≤ S.length := by
  obtain ⟨h1, h2, h3, _, _⟩ := h.look hm
  have : x ∈ S ↔ x ∈ (List.range n).filter (low? s.low S.length) := by rw [← h3]
  rw [this, List.mem_filter, List.mem_range]
  unfold low?
  rw [decide_eq_true_eq]
theorem Good.sub (h : Good n s) {p q : Nat} {S T : List Nat} (hm : (p, S) ∈ s.looks) (hk : (q, T) ∈ s.looks) (hl : S.length ≤ T.length) : ∀ x ∈ S, x ∈ T := fun x hx => by
  have := (h.mem hm).mp hx
  exact (h.mem hk).mpr ⟨this.1, by omega⟩
theorem Good.same (h : Good n s) {p q : Nat} {S T : List Nat} (hm : (p, S) ∈ s.looks) (hk : (q, T) ∈ s.looks) (hl : S.length = T.length) : S = T := by
  have h1 := (h.look hm).2.2.1
  have h2 := (h.look hk).2.2.1
  rw [h1, hl, ← h2]
theorem Good.seen_in (h : Good n s) {p q : Nat} {S T : List Nat} (hm : (p, S) ∈ s.looks) (hk : (q, T) ∈ s.looks) (hq : q ∈ S) : ∀ x ∈ T, x ∈ S := by
  refine h.sub hk hm ?_
  have h1 := (h.mem hm).mp hq
  have h2 := (h.look hk).2.1
  omega
/-- live names have steps left -/
theorem Good.end_ (h : Good n s) (hn : 1 ≤ n) (ht : ∀ p, p < n → p ∉ s.keys → n * (n + 1) ≤ s.tk p) : s.looks.length = n := by
  have all : ∀ p, p < n → p ∈ s.keys := fun p hp => by
    refine Classical.byContradiction fun hk => ?_
    have h1 := ht p hp hk
    obtain ⟨b, c, sn, g⟩ := h
    have lp := g.low_pos hp
    have lo := g.low p hp
    have pos : 0 < n * (n + 1) := Nat.mul_pos hn (Nat.succ_pos n)
    rcases g.tk p hp with ⟨_, z, _⟩ | ⟨z1, z2, z3⟩
    · omega
    · have hb : b p ≤ n := by omega
      have hbn : b p = n ∧ c p = n := by
        by_cases e : b p = n
        · refine ⟨e, ?_⟩
          rw [z3, e] at h1
          obtain ⟨k, hk⟩ : ∃ k, n = k + 1 := ⟨n - 1, by omega⟩
          have : n * (n + 1) = (n - 1) * (n + 1) + (n + 1) := by
            conv => lhs; rw [show n = (n - 1) + 1 by omega, Nat.add_mul, Nat.one_mul]
            rw [show n - 1 + 1 = n by omega]
          omega
        · exfalso
          have m : (b p - 1) * (n + 1) ≤ (n - 2) * (n + 1) := Nat.mul_le_mul_right _ (by omega)
          rw [z3] at h1
          have : n * (n + 1) = (n - 2) * (n + 1) + 2 * (n + 1) := by
            rw [← Nat.add_mul, show n - 2 + 2 = n by omega]
          omega
      have lv := g.live p hp hbn.2 z1 hk
      have hs : p ∈ s.seen p := by
        rw [g.seen p hp, List.mem_filter, List.mem_range]
        exact ⟨by omega, g.own p hp (by omega)⟩
      have := List.length_pos_of_mem hs
      omega
  have h1 := h.goneP.length_eq
  have h2 : goneL n s = List.range n := by
    unfold goneL
    rw [List.filter_eq_self]
    exact fun p hp => decide_eq_true (all p (List.mem_range.mp hp))
  rw [h2, List.length_range] at h1
  unfold Lev.keys at h1
  rw [List.length_map] at h1
  exact h1
end
/-! ### blocks -/
/-- the unlike looks, upwards -/
def cuts (n : Nat) (s : Lev) : List (List Nat) := (List.range (n + 1)).filterMap fun k => (s.looks.map Prod.snd).find? fun S => S.length == k
def blk : List Nat → List (List Nat) → List (List Nat)
  | _, [] => []
  | seen, S :: r => S.filter (fun x => !decide (x ∈ seen)) :: blk S r
def lastS : List Nat → List (List Nat) → List Nat
  | seen, [] => seen
  | _, S :: r => lastS S r
def restB (wr : List Nat) (cs : List (List Nat)) : List Nat := wr.filter fun x => !decide (x ∈ lastS [] cs)
def blocksOf (wr : List Nat) (cs : List (List Nat)) : List (List Nat) := blk [] cs ++ (if restB wr cs = [] then [] else [restB wr cs])
theorem blk_len : ∀ {cs : List (List Nat)} {seen : List Nat}, (blk seen cs).length = cs.length
  | [], _ => rfl
  | S :: r, _ => by show (blk S r).length + 1 = r.length + 1; rw [blk_len]
theorem lt_len_eq : ∀ {l m : List (List Nat)}, l.Pairwise (fun a b => a.length < b.length) → m.Pairwise (fun a b => a.length < b.length) → (∀ x, x ∈ l ↔ x ∈ m) → l = m := by
  intro l m hl hm h
  have nl : l.Nodup := hl.imp fun h e => absurd h (by rw [e]; exact Nat.lt_irrefl _)
  have nm : m.Nodup := hm.imp fun h e => absurd h (by rw [e]; exact Nat.lt_irrefl _)
  exact List.Perm.eq_of_pairwise (le := fun a b => a.length < b.length) (fun a b _ _ h1 h2 => absurd h1 (Nat.lt_asymm h2)) hl hm ((List.perm_ext_iff_of_nodup nl nm).mpr h)
section
variable {n : Nat} {s : Lev}
theorem mem_looks {S : List Nat} : S ∈ s.looks.map Prod.snd ↔ ∃ p, (p, S) ∈ s.looks := by
  rw [List.mem_map]
  exact ⟨fun ⟨⟨p, T⟩, h, e⟩ => ⟨p, by cases e; exact h⟩, fun ⟨p, h⟩ => ⟨(p, S), h, rfl⟩⟩
theorem Good.cuts_mem (h : Good n s) {S : List Nat} : S ∈ cuts n s ↔ ∃ p, (p, S) ∈ s.looks := by
  unfold cuts
  rw [List.mem_filterMap, ← mem_looks]
  constructor
  · rintro ⟨k, _, e⟩
    exact List.mem_of_find?_eq_some e
  · intro hm
    obtain ⟨p, hp⟩ := mem_looks.mp hm
    refine ⟨S.length, List.mem_range.mpr (Nat.lt_succ_of_le (h.look hp).2.2.2.2), ?_⟩
    cases e : (s.looks.map Prod.snd).find? fun T => T.length == S.length with
    | none =>
      have := List.find?_eq_none.mp e S hm
      simp at this
    | some T =>
      have h1 := List.find?_some e
      obtain ⟨q, hq⟩ := mem_looks.mp (List.mem_of_find?_eq_some e)
      rw [h.same hq hp (by simpa using h1)]
theorem Good.cuts_lt (h : Good n s) : (cuts n s).Pairwise fun a b => a.length < b.length := by
  unfold cuts
  refine List.Pairwise.filterMap (R := (· < ·)) _ (fun a a' hl b hb b' hb' => ?_) (range_lt (n + 1))
  have h1 := List.find?_some hb
  have h2 := List.find?_some hb'
  simp only [beq_iff_eq] at h1 h2
  omega
/-- any list of the looks in order of length -/
theorem Good.cuts_eq (h : Good n s) {l : List (List Nat)} (hl : l.Pairwise fun a b => a.length ≤ b.length) (nd : l.Nodup) (hm : ∀ S, S ∈ l ↔ ∃ p, (p, S) ∈ s.looks) : l = cuts n s := by
  refine lt_len_eq ?_ h.cuts_lt fun S => (hm S).trans h.cuts_mem.symm
  have := hl.and nd
  refine List.Pairwise.imp_of_mem (fun {a b} ha hb hab => ?_) this
  obtain ⟨p, hp⟩ := (hm a).mp ha
  obtain ⟨q, hq⟩ := (hm b).mp hb
  have ne : a.length ≠ b.length := fun e => hab.2 (h.same hp hq e)
  have := hab.1
  omega
end
/-- the blocks up to the k-th make the k-th look -/
theorem flat_blk : ∀ {cs : List (List Nat)} {seen : List Nat} {k : Nat} {S : List Nat}, cs[k]? = some S → seen.Nodup → (∀ T ∈ cs, T.Nodup ∧ ∀ x ∈ seen, x ∈ T) → cs.Pairwise (fun a b => ∀ x ∈ a, x ∈ b) →
    (((blk seen cs).take (k + 1)).flatten ++ seen).Perm S
  | [], _, _, _, h, _, _, _ => by simp at h
  | T :: r, seen, k, S, h, nd, hc, hp => by
    have hT := hc T List.mem_cons_self
    have one : (T.filter (fun x => !decide (x ∈ seen)) ++ seen).Perm T := by
      refine (List.perm_ext_iff_of_nodup ?_ hT.1).mpr fun x => ?_
      · rw [List.nodup_append]
        refine ⟨hT.1.sublist List.filter_sublist, nd, fun a ha b hb e => ?_⟩
        rw [List.mem_filter] at ha
        have := ha.2
        rw [e, Bool.not_eq_true', decide_eq_false_iff_not] at this
        exact this hb
      · rw [List.mem_append, List.mem_filter, Bool.not_eq_true', decide_eq_false_iff_not]
        constructor
        · rintro (h | h)
          · exact h.1
          · exact hT.2 x h
        · intro h
          by_cases e : x ∈ seen
          · exact .inr e
          · exact .inl ⟨h, e⟩
    rw [List.pairwise_cons] at hp
    cases k with
    | zero =>
      rw [List.getElem?_cons_zero] at h
      cases h
      show ((T.filter (fun x => !decide (x ∈ seen)) :: (blk T r).take 0).flatten ++ seen).Perm T
      rw [List.take_zero, List.flatten_cons, List.flatten_nil, List.append_nil]
      exact one
    | succ k =>
      rw [List.getElem?_cons_succ] at h
      have ih := flat_blk (cs := r) (seen := T) h hT.1 (fun U hU => ⟨(hc U (List.mem_cons_of_mem _ hU)).1, hp.1 U hU⟩) hp.2
      show ((T.filter (fun x => !decide (x ∈ seen)) :: (blk T r).take (k + 1)).flatten ++ seen).Perm S
      rw [List.flatten_cons]
      refine List.Perm.trans ?_ ih
      refine (List.perm_append_comm.append_right seen).trans ?_
      rw [List.append_assoc]
      exact one.append_left _
/-- a member of the k-th block: of the k-th look, and of none before it -/
theorem blk_mem : ∀ {cs : List (List Nat)} {seen : List Nat} {k : Nat} {B : List Nat}, (blk seen cs)[k]? = some B → ∀ x ∈ B, ∃ S, cs[k]? = some S ∧ x ∈ S ∧ (cs.Pairwise (fun a b => ∀ x ∈ a, x ∈ b) → ∀ T ∈ cs, x ∈ T → S.length ≤ T.length ∨ ∀ y ∈ S, y ∈ T)
  | [], _, _, _, h => by simp [blk] at h
  | T :: r, seen, 0, B, h => fun x hx => by
    have e : B = T.filter (fun x => !decide (x ∈ seen)) := by
      have h : some (T.filter (fun x => !decide (x ∈ seen))) = some B := h
      exact (Option.some.inj h).symm
    rw [e, List.mem_filter] at hx
    refine ⟨T, rfl, hx.1, fun hp U hU _ => .inr ?_⟩
    rw [List.pairwise_cons] at hp
    rcases List.mem_cons.mp hU with e | hU
    · rw [e]; exact fun _ h => h
    · exact hp.1 U hU
  | T :: r, seen, k + 1, B, h => fun x hx => by
    have h : (blk T r)[k]? = some B := h
    obtain ⟨S, hS, xS, g⟩ := blk_mem h x hx
    refine ⟨S, by rw [List.getElem?_cons_succ]; exact hS, xS, fun hp U hU xU => ?_⟩
    rw [List.pairwise_cons] at hp
    rcases List.mem_cons.mp hU with e | hU
    · exfalso
      subst e
      -- x is not of T
      have no : ∀ {cs : List (List Nat)} {seen : List Nat} {k : Nat} {B : List Nat}, (blk seen cs)[k]? = some B → x ∈ B → x ∈ seen → (∀ V ∈ cs, ∀ y ∈ seen, y ∈ V) → cs.Pairwise (fun a b => ∀ x ∈ a, x ∈ b) → False := by
        intro cs
        induction cs with
        | nil => intro seen k B h; simp [blk] at h
        | cons V r ih =>
          intro seen k B h hx hs hc hp
          rw [List.pairwise_cons] at hp
          cases k with
          | zero =>
            have h : some (V.filter (fun x => !decide (x ∈ seen))) = some B := h
            rw [← Option.some.inj h, List.mem_filter, Bool.not_eq_true', decide_eq_false_iff_not] at hx
            exact hx.2 hs
          | succ k => exact ih (seen := V) h hx (hc V List.mem_cons_self x hs) hp.1 hp.2
      exact no h hx xU hp.1 hp.2
    · exact g hp.2 U hU xU
theorem lastS_mem : ∀ {cs : List (List Nat)} {seen : List Nat}, cs.Pairwise (fun a b => ∀ x ∈ a, x ∈ b) → ∀ T ∈ cs, ∀ x ∈ T, x ∈ lastS seen cs
  | [], _, _, T, h => nomatch h
  | S :: r, seen, hp, T, h => fun x hx => by
    rw [List.pairwise_cons] at hp
    show x ∈ lastS S r
    rcases List.mem_cons.mp h with e | h
    · subst e
      cases r with
      | nil => exact hx
      | cons U r => exact lastS_mem hp.2 U List.mem_cons_self x (hp.1 U List.mem_cons_self x hx)
    · exact lastS_mem hp.2 T h x hx
section
variable {n : Nat} {s : Lev}
theorem Good.cuts_in (h : Good n s) : (cuts n s).Pairwise (fun a b => ∀ x ∈ a, x ∈ b) := by
  refine List.Pairwise.imp_of_mem (fun {a b} ha hb hab => ?_) h.cuts_lt
  obtain ⟨p, hp⟩ := h.cuts_mem.mp ha
  obtain ⟨q, hq⟩ := h.cuts_mem.mp hb
  exact h.sub hp hq (Nat.le_of_lt hab)
theorem Good.look_lt (h : Good n s) {p : Nat} {S : List Nat} (hm : (p, S) ∈ s.looks) : S.Pairwise (· < ·) := by
  rw [(h.look hm).2.2.1]
  exact filter_lt n _
/-- what the law asks of each block -/
theorem Good.block (h : Good n s) {wr : List Nat} {k : Nat} {B : List Nat} (hB : (blocksOf wr (cuts n s))[k]? = some B) {p : Nat} {S : List Nat} (hp : p ∈ B) (hm : (p, S) ∈ s.looks) :
    ((blocksOf wr (cuts n s)).take (k + 1)).flatten.Perm S := by
  unfold blocksOf at hB ⊢
  by_cases hk : k < (blk [] (cuts n s)).length
  · rw [List.getElem?_append_left hk] at hB
    obtain ⟨T, hT, pT, g⟩ := blk_mem hB p hp
    have mT : T ∈ cuts n s := List.mem_of_getElem? hT
    obtain ⟨q, hq⟩ := h.cuts_mem.mp mT
    have e : T = S := by
      have h1 := ((h.mem hq).mp pT).2
      have h2 := (h.look hm).2.1
      have l1 : S.length ≤ T.length := by omega
      rcases g h.cuts_in S (h.cuts_mem.mpr ⟨p, hm⟩) (h.own hm) with z | z
      · exact h.same hq hm (by omega)
      · have f1 := (h.look hq).2.2.1
        have f2 := (h.look hm).2.2.1
        have : T.length ≤ S.length := by
          have f3 := filter_le (l := List.range n) (P := low? s.low T.length) (Q := low? s.low S.length) fun j hj hl => by
            have : j ∈ T := by rw [f1, List.mem_filter]; exact ⟨hj, hl⟩
            have := z j this
            rw [f2, List.mem_filter] at this
            exact this.2
          rw [← f1, ← f2] at f3
          exact f3
        exact h.same hq hm (by omega)
    subst e
    have f := flat_blk (seen := []) hT List.nodup_nil (fun U hU => by
      obtain ⟨r, hr⟩ := h.cuts_mem.mp hU
      exact ⟨(h.look_lt hr).imp fun h => Nat.ne_of_lt h, fun x hx => nomatch hx⟩) h.cuts_in
    rw [List.append_nil] at f
    rw [List.take_append_of_le_length (by omega)]
    exact f
  · exfalso
    rw [List.getElem?_append_right (by omega)] at hB
    by_cases er : restB wr (cuts n s) = []
    · rw [if_pos er] at hB; simp at hB
    · rw [if_neg er] at hB
      have : B = restB wr (cuts n s) := by
        have := List.mem_of_getElem? hB
        simpa using this
      rw [this] at hp
      unfold restB at hp
      rw [List.mem_filter, Bool.not_eq_true', decide_eq_false_iff_not] at hp
      exact hp.2 (lastS_mem h.cuts_in S (h.cuts_mem.mpr ⟨p, hm⟩) p (h.own hm))
end
end K07
end
section
set_option Elab.async false
set_option linter.all false
set_option maxRecDepth 100000
/-! k07: what each def promises -/
namespace K07
open PySem PySem.Spec PyProof.Rows L2 Nw
abbrev Frag := PySem.W.Frag
abbrev CL (K : Frag) : Addr := He.ga K "Levels"
abbrev nt (l : List Nat) : List V := l.map fun (x : Nat) => V.int (x : Int)
def vI (n : Nat) (f : Nat → Int) : List V := (List.range n).map fun i => V.int (f i)
def vR (n : Nat) (f : Nat → Addr) : List V := (List.range n).map fun i => V.ref (f i)
def fields (n : Nat) (L : Nat → Addr) (pk : Addr) : List (Str × V) := [("_size", .int n), ("_cells", .ref (L 0)), ("_low", .ref (L 1)), ("_taken", .ref (L 2)), ("_seen", .ref (L 3)), ("_looks", .ref pk)]
def kvs (looks : List (Nat × List Nat)) (ta : Nat → Addr) : List (L2.Key × V) := looks.map fun p => (ki p.1, .ref (ta p.1))
def Inj (m : Nat) (L : Nat → Addr) : Prop := ∀ i j, i < m → j < m → L i = L j → i = j
/-- the dict of looks at d -/
structure Dc (H : Hp) (d : Addr) (looks : List (Nat × List Nat)) (ta : Nat → Addr) : Prop where
  at_ : H d = some (.dK (kvs looks ta))
  tup : ∀ p ∈ looks, H (ta p.1) = some (.tup (nt p.2))
def Dct (H : Hp) (d : Addr) (looks : List (Nat × List Nat)) : Prop := ∃ ta, Dc H d looks ta
/-- a Levels object -/
structure Lv (K : Frag) (H : Hp) (a : Addr) (n : Nat) (cel low : Nat → Int) (tk : Nat → Nat) (seen : Nat → List Nat) (looks : List (Nat × List Nat)) (dx : Addr) (L : Nat → Addr) (pk : Addr) (ta : Nat → Addr) : Prop where
  oa : H a = some (.ins (CL K) dx (fields n L pk))
  o0 : H (L 0) = some (.lst (vI n cel))
  o1 : H (L 1) = some (.lst (vI n low))
  o2 : H (L 2) = some (.lst (vI n fun i => (tk i : Int)))
  o3 : H (L 3) = some (.lst (vR n fun i => L (4 + i)))
  o4 : ∀ i, i < n → H (L (4 + i)) = some (.lst (nt (seen i)))
  od : Dc H pk looks ta
  inj : Inj (4 + n) L
def LvO (K : Frag) (H : Hp) (a : Addr) (n : Nat) (s : Lev) (F : Addr → Prop) : Prop := ∃ dx L pk ta, Lv K H a n s.low s.low s.tk s.seen s.looks dx L pk ta ∧ ∀ b, F b ↔ b = pk ∨ ∃ i, i < 4 + n ∧ b = L i
/-- the law's own state -/
structure Ls (H : Hp) (n : Nat) (low : Nat → Int) (tk : Nat → Nat) (seen : Nat → List Nat) (L : Nat → Addr) : Prop where
  o0 : H (L 0) = some (.lst (vR n fun i => L (1 + i)))
  o1 : ∀ i, i < n → H (L (1 + i)) = some (.lst [.int (low i), .int (tk i : Int), .ref (L (1 + n + i))])
  o2 : ∀ i, i < n → H (L (1 + n + i)) = some (.lst (nt (seen i)))
  inj : Inj (1 + n + n) L
def LsO (H : Hp) (st : Addr) (n : Nat) (s : Lev) (F : Addr → Prop) : Prop := ∃ L, L 0 = st ∧ Ls H n s.low s.tk s.seen L ∧ ∀ b, F b ↔ ∃ i, i < 1 + n + n ∧ b = L i
/-- what stands outside F stays -/
def Kp (F : Addr → Prop) (H H' : Hp) : Prop := ∀ b o, ¬ F b → H b = some o → H' b = some o
def ok (n : Nat) : Prop := 1 ≤ n ∧ n ≤ 6
def RsName (K : Frag) (v : V) (H : Hp) (E : XK) : Prop := ∀ H' d, Same H H' → H' d = none → E (.ref (He.ga K "BadName")) (some d) (upd H' d (.xd [(("name" : Str), v)]))
def RsSize (K : Frag) (H : Hp) (E : XK) : Prop := ∀ H' d, Same H H' → H' d = none → E (.ref (He.ga K "BadNumber")) (some d) (upd H' d (.xd [(("word" : Str), .str "size")]))
def badP (n : Nat) (v : V) : Prop := (∃ i : Int, v = .int i ∧ ¬ (0 ≤ i ∧ i < n)) ∨ intB v = some false
def badS (v : V) : Prop := (∃ i : Int, v = .int i ∧ (i < 1 ∨ 6 < i)) ∨ intB v = some false
def badSched (K : Frag) (H : Hp) (n : Nat) (sv v : V) : Prop := (∃ b, intB sv = some b ∧ v = .int (-1)) ∨
  ∃ (a : Addr) (xs : List V) (i : Nat), sv = .ref a ∧ Sq K H a xs ∧ xs[i]? = some v ∧ badP n v ∧ ∀ j, j < i → ∃ p : Nat, p < n ∧ xs[j]? = some (.int p)
def Ret (H : Hp) (r : V) : Option (List Nat) → Prop
  | none => r = .non
  | some l => ∃ t, r = .ref t ∧ H t = some (.tup (nt l))
def Each {α : Type} (R : V → α → Prop) (ys : List V) (xs : List α) : Prop := ys.length = xs.length ∧ ∀ (i : Nat) (x : α), xs[i]? = some x → ∃ y, ys[i]? = some y ∧ R y x
/-- a tuple of tuples -/
def BlkR (H : Hp) (r : V) (bs : List (List Nat)) : Prop := ∃ t ys, r = .ref t ∧ H t = some (.tup ys) ∧ Each (fun y B => ∃ b, y = V.ref b ∧ H b = some (.tup (nt B))) ys bs
def RunR (H : Hp) (r : V) (n : Nat) (s : Lev) : Prop := ∃ t tw tl ys, r = .ref t ∧ H t = some (.tup [.ref tw, .ref tl]) ∧ H tw = some (.tup (nt (wrote n s))) ∧ H tl = some (.tup ys) ∧
  Each (fun y p => ∃ b u S, y = V.ref b ∧ H b = some (.tup [.int (p : Nat), .ref u]) ∧ (p, S) ∈ s.looks ∧ H u = some (.tup (nt S))) ys (goneL n s)
/-! ### the program's -/
def sp_check_levels (K : Frag) : Sp := fun vs H Q E => ∃ v, vs = [v] ∧ ((∃ n : Nat, v = .int n ∧ ok n ∧ Q .non H) ∨ (badS v ∧ RsSize K H E))
def sp_Levels___init__ (K : Frag) : Sp := fun vs H Q E => ∃ (x dx : Addr) (v : V), vs = [.ref x, v] ∧ H x = some (.ins (CL K) dx []) ∧
  ((∃ n : Nat, v = .int n ∧ ok n ∧ ∀ H' F, LvO K H' x n (new n) F → Kp (· = x) H H' → (∀ b, F b → H b = none) → Q .non H') ∨ (badS v ∧ RsSize K H E))
def sp_Levels_wrote (K : Frag) : Sp := fun vs H Q _ => ∃ (a : Addr) (n : Nat) (s : Lev) (F : Addr → Prop), vs = [.ref a] ∧ LvO K H a n s F ∧ ok n ∧ ∀ t H', Same H H' → H' t = some (.tup (nt (wrote n s))) → Q (.ref t) H'
def sp_Levels_gone (K : Frag) : Sp := fun vs H Q _ => ∃ (a : Addr) (n : Nat) (s : Lev) (F : Addr → Prop), vs = [.ref a] ∧ LvO K H a n s F ∧ ok n ∧ ∀ t H', Same H H' → H' t = some (.tup (nt (goneL n s))) → Q (.ref t) H'
def sp_Levels__known (K : Frag) : Sp := fun vs H Q E => ∃ (a : Addr) (v : V) (n : Nat) (s : Lev) (F : Addr → Prop), vs = [.ref a, v] ∧ LvO K H a n s F ∧ ((∃ p : Nat, p < n ∧ v = .int p ∧ Q .non H) ∨ (badP n v ∧ RsName K v H E))
def sp_Levels_level (K : Frag) : Sp := fun vs H Q E => ∃ (a : Addr) (v : V) (n : Nat) (s : Lev) (F : Addr → Prop), vs = [.ref a, v] ∧ LvO K H a n s F ∧ ((∃ p : Nat, p < n ∧ v = .int p ∧ Q (.int (s.low p)) H) ∨ (badP n v ∧ RsName K v H E))
def sp_Levels_taken (K : Frag) : Sp := fun vs H Q E => ∃ (a : Addr) (v : V) (n : Nat) (s : Lev) (F : Addr → Prop), vs = [.ref a, v] ∧ LvO K H a n s F ∧ ((∃ p : Nat, p < n ∧ v = .int p ∧ Q (.int (s.tk p : Int)) H) ∨ (badP n v ∧ RsName K v H E))
def sp_Levels_step (K : Frag) : Sp := fun vs H Q E => ∃ (a : Addr) (v : V) (n : Nat) (s : Lev) (F : Addr → Prop), vs = [.ref a, v] ∧ LvO K H a n s F ∧ ok n ∧ Good n s ∧
  ((∃ p : Nat, p < n ∧ v = .int p ∧ p ∉ s.keys ∧ ∀ r H' F', LvO K H' a n (step n s p).1 F' → Kp F H H' → (∀ b, F' b → F b ∨ H b = none) → Ret H' r (step n s p).2 → Q r H') ∨
   ((badP n v ∨ ∃ p : Nat, p < n ∧ v = .int p ∧ p ∈ s.keys) ∧ RsName K v H E))
def sp_check_schedule (K : Frag) : Sp := fun vs H Q E => ∃ (sv : V) (n : Nat), vs = [sv, .int n] ∧
  ((∃ (a : Addr) (ps : List Nat), sv = .ref a ∧ Sq K H a (nt ps) ∧ (∀ p ∈ ps, p < n) ∧ Back .non H Q) ∨ ∃ v, badSched K H n sv v ∧ RsName K v H E)
def Ran (K : Frag) (P : Hp → V → Nat → Lev → Prop) : Sp := fun vs H Q E => ∃ nv sv : V, vs = [nv, sv] ∧
  ((∃ (n : Nat) (a : Addr) (ps : List Nat), nv = .int n ∧ ok n ∧ sv = .ref a ∧ Sq K H a (nt ps) ∧ (∀ p ∈ ps, p < n) ∧ ∀ r H', Same H H' → P H' r n (runs n (new n) ps) → Q r H') ∨
   (badS nv ∧ RsSize K H E) ∨ (∃ (n : Nat) (v : V), nv = .int n ∧ ok n ∧ badSched K H n sv v ∧ RsName K v H E))
def sp_levels_run (K : Frag) : Sp := Ran K RunR
def sp_levels_blocks (K : Frag) : Sp := Ran K fun H r n s => BlkR H r (blocksOf (wrote n s) (cuts n s))
/-! ### the law's -/
def sp__law_int (K : Frag) : Sp := sp_is_int K
/-- which refusal -/
inductive Refd (K : Frag) (H : Hp) : Str → V → V → Str → V → Prop where
  | new {x y : V} (h : badS x) : Refd K H "new" x y "number" (.str "size")
  | step {a n s F y} (h : LvO K H a n s F) (o : ok n) (g : Good n s) (b : badP n y ∨ ∃ p : Nat, p < n ∧ y = .int p ∧ p ∈ s.keys) : Refd K H "step" (.ref a) y "name" y
  | level {a n s F y} (h : LvO K H a n s F) (b : badP n y) : Refd K H "level" (.ref a) y "name" y
  | taken {a n s F y} (h : LvO K H a n s F) (b : badP n y) : Refd K H "taken" (.ref a) y "name" y
  | size {w : Str} {x y : V} (hw : w = "run" ∨ w = "blocks") (h : badS x) : Refd K H w x y "number" (.str "size")
  | sched {w : Str} {n : Nat} {y v : V} (hw : w = "run" ∨ w = "blocks") (o : ok n) (h : badSched K H n y v) : Refd K H w (.int n) y "name" v
def sp__law_refused (K : Frag) : Sp := fun vs H Q _ => ∃ (w : Str) (x y : V) (k : Str) (v : V), vs = [.str w, x, y] ∧ Refd K H w x y k v ∧ ∀ t H', Same H H' → H' t = some (.tup [.str k, v]) → Q (.ref t) H'
def sp__law_schedule (K : Frag) : Sp := fun vs H Q _ => ∃ (l : Addr) (n : Nat), vs = [.ref l, .int n] ∧ Held l H ∧ ok n ∧
  ∀ (ps : List Nat) a H', (∀ p ∈ ps, p < n) → ps.length ≤ 60 → Bt l H H' → Held l H' → a ≠ l → H' a = some (.lst (nt ps)) → Q (.ref a) H'
def sp__law_new (K : Frag) : Sp := fun vs H Q _ => ∃ n : Nat, vs = [.int n] ∧ ok n ∧ ∀ st H' F, Same H H' → LsO H' st n (new n) F → (∀ b, F b → H b = none) → Q (.ref st) H'
def sp__law_step (K : Frag) : Sp := fun vs H Q _ => ∃ (st cs : Addr) (p n : Nat) (s : Lev) (F : Addr → Prop), vs = [.ref st, .ref cs, .int p] ∧ LsO H st n s F ∧ H cs = some (.lst (vI n s.low)) ∧ ¬ F cs ∧ ok n ∧ Good n s ∧ p < n ∧
  ∀ r H' F', LsO H' st n (step n s p).1 F' → H' cs = some (.lst (vI n (step n s p).1.low)) → ¬ F' cs → Kp (fun b => F b ∨ b = cs) H H' → (∀ b, F' b → F b ∨ H b = none) → Ret H' r (step n s p).2 → Q r H'
def sp__law_few_below (K : Frag) : Sp := fun vs H Q _ => ∃ (a : Addr) (n : Nat) (s : Lev) (F : Addr → Prop), vs = [.ref a, .int n] ∧ LvO K H a n s F ∧ ok n ∧ Good n s ∧ Back (.bl true) H Q
def sp__law_same (K : Frag) : Sp := fun vs H Q _ => ∃ (a st lk : Addr) (n : Nat) (s : Lev) (F F2 : Addr → Prop), vs = [.ref a, .ref st, .ref lk, .int n] ∧ LvO K H a n s F ∧ LsO H st n s F2 ∧ Dct H lk s.looks ∧ ok n ∧ Good n s ∧ Back (.bl true) H Q
def sp__law_within (K : Frag) : Sp := fun vs H Q _ => ∃ (x y : Addr) (xs ys : List Nat), vs = [.ref x, .ref y] ∧ H x = some (.tup (nt xs)) ∧ H y = some (.tup (nt ys)) ∧ xs.length ≤ 6 ∧ Back (.bl (xs.all fun z => decide (z ∈ ys))) H Q
def sp__law_looks_right (K : Frag) : Sp := fun vs H Q _ => ∃ (lk st : Addr) (n : Nat) (s : Lev) (F : Addr → Prop), vs = [.ref lk, .ref st, .int n] ∧ Dct H lk s.looks ∧ LsO H st n s F ∧ ok n ∧ Good n s ∧ Back (.bl true) H Q
def sp__law_blocks_due (K : Frag) : Sp := fun vs H Q _ => ∃ (lk wt : Addr) (n : Nat) (s : Lev) (wr : List Nat), vs = [.ref lk, .ref wt] ∧ Dct H lk s.looks ∧ H wt = some (.tup (nt wr)) ∧ wr.length ≤ 6 ∧ ok n ∧ Good n s ∧ ∀ r H', Same H H' → BlkR H' r (blocksOf wr (cuts n s)) → Q r H'
/-- the program's object and the law's state in step -/
def Wk (K : Frag) (H : Hp) (a st cs lk : Addr) (n : Nat) (s : Lev) (F : Addr → Prop) : Prop := ∃ F1 F2, LvO K H a n s F1 ∧ LsO H st n s F2 ∧ H cs = some (.lst (vI n s.low)) ∧ Dct H lk s.looks ∧ ok n ∧ Good n s ∧
  (∀ b, F1 b → ¬ F2 b ∧ b ≠ cs ∧ b ≠ lk) ∧ (∀ b, F2 b → b ≠ cs ∧ b ≠ lk) ∧ ∀ b, F b ↔ F1 b ∨ F2 b ∨ b = cs ∨ b = lk
def sp__law_finish (K : Frag) : Sp := fun vs H Q _ => ∃ (a st cs lk : Addr) (n : Nat) (s : Lev) (F : Addr → Prop), vs = [.ref a, .ref st, .ref cs, .ref lk, .int n] ∧ Wk K H a st cs lk n s F ∧ ∀ H', Kp F H H' → Q (.bl true) H'
def sp__law_walked (K : Frag) : Sp := fun vs H Q _ => ∃ (n : Nat) (a : Addr) (ps : List Nat), vs = [.int n, .ref a] ∧ H a = some (.lst (nt ps)) ∧ ok n ∧ (∀ p ∈ ps, p < n) ∧ ps.length ≤ 60 ∧ Back (.bl true) H Q
def sp__law_all_refused (K : Frag) : Sp := fun vs H Q _ => ∃ (l : Addr) (n : Nat) (a : Addr) (ps : List Nat), vs = [.ref l, .int n, .ref a] ∧ Held l H ∧ a ≠ l ∧ H a = some (.lst (nt ps)) ∧ ok n ∧ (∀ p ∈ ps, p < n) ∧ ps.length ≤ 60 ∧ ∀ H', Q (.bl true) H'
def sp_law (K : Frag) : Sp := fun vs H Q _ => ∃ (a : Addr) (ns : List Int), vs = [.ref a] ∧ SqL K H a (iv ns) ∧ ns.length ≤ 63 ∧ ∀ H', Q (.bl true) H'
section
variable {K : PySem.W.Frag} {vs : List V} {H : Hp} {Q : VK} {E : XK}
theorem len_check_levels (h : sp_check_levels K vs H Q E) : vs.length = 1 := by obtain ⟨_, rfl, _⟩ := h; rfl
theorem len_Levels___init__ (h : sp_Levels___init__ K vs H Q E) : vs.length = 2 := by obtain ⟨_, _, _, rfl, _⟩ := h; rfl
theorem len_Levels_wrote (h : sp_Levels_wrote K vs H Q E) : vs.length = 1 := by obtain ⟨_, _, _, _, rfl, _⟩ := h; rfl
theorem len_Levels_gone (h : sp_Levels_gone K vs H Q E) : vs.length = 1 := by obtain ⟨_, _, _, _, rfl, _⟩ := h; rfl
theorem len_Levels__known (h : sp_Levels__known K vs H Q E) : vs.length = 2 := by obtain ⟨_, _, _, _, _, rfl, _⟩ := h; rfl
theorem len_Levels_level (h : sp_Levels_level K vs H Q E) : vs.length = 2 := by obtain ⟨_, _, _, _, _, rfl, _⟩ := h; rfl
theorem len_Levels_taken (h : sp_Levels_taken K vs H Q E) : vs.length = 2 := by obtain ⟨_, _, _, _, _, rfl, _⟩ := h; rfl
theorem len_Levels_step (h : sp_Levels_step K vs H Q E) : vs.length = 2 := by obtain ⟨_, _, _, _, _, rfl, _⟩ := h; rfl
theorem len_check_schedule (h : sp_check_schedule K vs H Q E) : vs.length = 2 := by obtain ⟨_, _, rfl, _⟩ := h; rfl
theorem len_levels_run (h : sp_levels_run K vs H Q E) : vs.length = 2 := by obtain ⟨_, _, rfl, _⟩ := h; rfl
theorem len_levels_blocks (h : sp_levels_blocks K vs H Q E) : vs.length = 2 := by obtain ⟨_, _, rfl, _⟩ := h; rfl
theorem len__law_int (h : sp__law_int K vs H Q E) : vs.length = 1 := len_is_int h
theorem len__law_refused (h : sp__law_refused K vs H Q E) : vs.length = 3 := by obtain ⟨_, _, _, _, _, rfl, _⟩ := h; rfl
theorem len__law_schedule (h : sp__law_schedule K vs H Q E) : vs.length = 2 := by obtain ⟨_, _, rfl, _⟩ := h; rfl
theorem len__law_new (h : sp__law_new K vs H Q E) : vs.length = 1 := by obtain ⟨_, rfl, _⟩ := h; rfl
theorem len__law_step (h : sp__law_step K vs H Q E) : vs.length = 3 := by obtain ⟨_, _, _, _, _, _, rfl, _⟩ := h; rfl
theorem len__law_few_below (h : sp__law_few_below K vs H Q E) : vs.length = 2 := by obtain ⟨_, _, _, _, rfl, _⟩ := h; rfl
theorem len__law_same (h : sp__law_same K vs H Q E) : vs.length = 4 := by obtain ⟨_, _, _, _, _, _, _, rfl, _⟩ := h; rfl
theorem len__law_within (h : sp__law_within K vs H Q E) : vs.length = 2 := by obtain ⟨_, _, _, _, rfl, _⟩ := h; rfl
theorem len__law_looks_right (h : sp__law_looks_right K vs H Q E) : vs.length = 3 := by obtain ⟨_, _, _, _, _, rfl, _⟩ := h; rfl
theorem len__law_blocks_due (h : sp__law_blocks_due K vs H Q E) : vs.length = 2 := by obtain ⟨_, _, _, _, _, rfl, _⟩ := h; rfl
theorem len__law_finish (h : sp__law_finish K vs H Q E) : vs.length = 5 := by obtain ⟨_, _, _, _, _, _, _, rfl, _⟩ := h; rfl
theorem len__law_walked (h : sp__law_walked K vs H Q E) : vs.length = 2 := by obtain ⟨_, _, _, rfl, _⟩ := h; rfl
theorem len__law_all_refused (h : sp__law_all_refused K vs H Q E) : vs.length = 3 := by obtain ⟨_, _, _, _, rfl, _⟩ := h; rfl
theorem len_law (h : sp_law K vs H Q E) : vs.length = 1 := by obtain ⟨_, _, rfl, _⟩ := h; rfl
end
theorem law_end {K : Frag} (H : Hp) (a : Addr) (ns : List Int) (hl : ns.length ≤ 63) (hS : SqL K H a (ns.map V.int)) : sp_law K [.ref a] H (fun v _ => v = .bl true) fun _ _ _ => False := ⟨a, ns, rfl, hS, hl, fun _ => rfl⟩
end K07
end
section
set_option Elab.async false
set_option linter.all false
set_option maxRecDepth 100000
/-! readings, printed by gen.py -/
namespace K07
open PySem PySem.Spec PyProof.Rows L2 Nw
def t_check_levels (K : PySem.W.Frag) (E : XK) : TS := (tSeq (tDrop (tCa (sp_check_number K) E (tCons (tVar 0) (tCons (tC (.int 1)) (tCons (tC (.str "size")) tNil)))))
    (tIfS (tT (tOp nGt (tVar 0) (tC (.int 6))))
    (tRaiseE (He.ga K "BadNumber") ps_BadNumber ok_BadNumber (fun cls d _ H => E cls d H) (tCons (tC (.str "size")) tNil))
    tNext))
def t_Levels___init__ (K : PySem.W.Frag) (E : XK) : TS := (tSeq (tDrop (tCa (sp_check_levels K) E (tCons (tVar 1) tNil)))
    (tSeq (sSf (He.ga K "Levels") "_size" (tVar 0) (tVar 1))
    (tSeq (sSf (He.ga K "Levels") "_cells" (tVar 0) (tLc (iRng1 (tCons (tVar 1) tNil)) (gName 2) tYes (tOp nAdd (tVar 1) (tC (.int 1))) [2]))
    (tSeq (sSf (He.ga K "Levels") "_low" (tVar 0) (tLc (iRng1 (tCons (tVar 1) tNil)) (gName 2) tYes (tOp nAdd (tVar 1) (tC (.int 1))) [2]))
    (tSeq (sSf (He.ga K "Levels") "_taken" (tVar 0) (tLc (iRng1 (tCons (tVar 1) tNil)) (gName 2) tYes (tC (.int 0)) [2]))
    (tSeq (sSf (He.ga K "Levels") "_seen" (tVar 0) (tLc (iRng1 (tCons (tVar 1) tNil)) (gName 2) tYes (tLst tNil) [2]))
    (sSf (He.ga K "Levels") "_looks" (tVar 0) tDNewK)))))))
def t_Levels_wrote (K : PySem.W.Frag) : TS := (tRet (tCB (rcTuple K) (tCons (tLc (iRng1 (tCons (tGf (He.ga K "Levels") "_size" (tVar 0)) tNil)) (gName 1) (tT (tOp nGt (tOp (rIx K) (tGf (He.ga K "Levels") "_taken" (tVar 0)) (tVar 1)) (tC (.int 0)))) (tVar 1) [1]) tNil)))
def t_Levels_gone (K : PySem.W.Frag) : TS := (tRet (tCB (rcTuple K) (tCons (tLc (iRng1 (tCons (tGf (He.ga K "Levels") "_size" (tVar 0)) tNil)) (gName 1) (tT (tDIn (tVar 1) (tGf (He.ga K "Levels") "_looks" (tVar 0)))) (tVar 1) [1]) tNil)))
def t_Levels__known (K : PySem.W.Frag) (E : XK) : TS := (tIfS (tOr (tNot (tT (tCa (sp_is_int K) E0 (tCons (tVar 1) tNil)))) (tNot (tT (tChain nLe nLt (tC (.int 0)) (tVar 1) (tGf (He.ga K "Levels") "_size" (tVar 0))))))
    (tRaiseE (He.ga K "BadName") ps_BadName ok_BadName (fun cls d _ H => E cls d H) (tCons (tVar 1) tNil))
    tNext)
def t_Levels_level (K : PySem.W.Frag) (E : XK) : TS := (tSeq (tDrop (tMa (He.ga K "Levels") "_known" (sp_Levels__known K) E (tVar 0) (tCons (tVar 1) tNil)))
    (tRet (tOp (rIx K) (tGf (He.ga K "Levels") "_low" (tVar 0)) (tVar 1))))
def t_Levels_taken (K : PySem.W.Frag) (E : XK) : TS := (tSeq (tDrop (tMa (He.ga K "Levels") "_known" (sp_Levels__known K) E (tVar 0) (tCons (tVar 1) tNil)))
    (tRet (tOp (rIx K) (tGf (He.ga K "Levels") "_taken" (tVar 0)) (tVar 1))))
def t_Levels_step (K : PySem.W.Frag) (E : XK) : TS := (tSeq (tDrop (tMa (He.ga K "Levels") "_known" (sp_Levels__known K) E (tVar 0) (tCons (tVar 1) tNil)))
    (tSeq (tIfS (tT (tDIn (tVar 1) (tGf (He.ga K "Levels") "_looks" (tVar 0))))
    (tRaiseE (He.ga K "BadName") ps_BadName ok_BadName (fun cls d _ H => E cls d H) (tCons (tVar 1) tNil))
    tNext)
    (tSeq (tAsg (tOp nMod (tOp (rIx K) (tGf (He.ga K "Levels") "_taken" (tVar 0)) (tVar 1)) (tOp nAdd (tGf (He.ga K "Levels") "_size" (tVar 0)) (tC (.int 1)))) (gName 2))
    (tSeq (tAugS (tGf (He.ga K "Levels") "_taken" (tVar 0)) (tVar 1) (tC (.int 1)) (rGetN K) (ipI fun i j => i + j) rSetL)
    (tSeq (tIfS (tT (tOp rEq (tVar 2) (tC (.int 0))))
    (tSeq (tAugS (tGf (He.ga K "Levels") "_low" (tVar 0)) (tVar 1) (tC (.int 1)) (rGetN K) (ipI fun i j => i - j) rSetL)
    (tSeq (tAsg (tOp (rIx K) (tGf (He.ga K "Levels") "_low" (tVar 0)) (tVar 1)) (gSub (tGf (He.ga K "Levels") "_cells" (tVar 0)) (tVar 1) rSetL))
    (tSeq (tAsg (tLst tNil) (gSub (tGf (He.ga K "Levels") "_seen" (tVar 0)) (tVar 1) rSetL))
    (tRet (tC .non)))))
    tNext)
    (tSeq (tIfS (tT (tOp nLe (tOp (rIx K) (tGf (He.ga K "Levels") "_cells" (tVar 0)) (tOp nSub (tVar 2) (tC (.int 1)))) (tOp (rIx K) (tGf (He.ga K "Levels") "_low" (tVar 0)) (tVar 1))))
    (tDrop (tBM K "list" rAppend (tOp (rIx K) (tGf (He.ga K "Levels") "_seen" (tVar 0)) (tVar 1)) (tCons (tOp nSub (tVar 2) (tC (.int 1))) tNil)))
    tNext)
    (tSeq (tIfS (tOr (tT (tOp nLt (tVar 2) (tGf (He.ga K "Levels") "_size" (tVar 0)))) (tT (tOp nLt (tCB (rcLen K) (tCons (tOp (rIx K) (tGf (He.ga K "Levels") "_seen" (tVar 0)) (tVar 1)) tNil)) (tOp (rIx K) (tGf (He.ga K "Levels") "_low" (tVar 0)) (tVar 1)))))
    (tRet (tC .non))
    tNext)
    (tSeq (sDPut (tGf (He.ga K "Levels") "_looks" (tVar 0)) (tVar 1) (tCB (rcTuple K) (tCons (tOp (rIx K) (tGf (He.ga K "Levels") "_seen" (tVar 0)) (tVar 1)) tNil)))
    (tRet (tDGet (tGf (He.ga K "Levels") "_looks" (tVar 0)) (tVar 1)))))))))))
def t_check_schedule (K : PySem.W.Frag) (E : XK) : TS := (tSeq (tIfS (tNot (tT (tCa (sp_is_row K) E0 (tCons (tVar 0) tNil))))
    (tRaiseE (He.ga K "BadName") ps_BadName ok_BadName (fun cls d _ H => E cls d H) (tCons (tUn nNeg (tC (.int 1))) tNil))
    tNext)
    (tFor (iSq K (tVar 0)) (gName 2)
    (tIfS (tOr (tNot (tT (tCa (sp_is_int K) E0 (tCons (tVar 2) tNil)))) (tNot (tT (tChain nLe nLt (tC (.int 0)) (tVar 2) (tVar 1)))))
    (tRaiseE (He.ga K "BadName") ps_BadName ok_BadName (fun cls d _ H => E cls d H) (tCons (tVar 2) tNil))
    tNext)))
def t_levels_run (K : PySem.W.Frag) (E : XK) : TS := (tSeq (tAsg (tKa (He.ga K "Levels") (sp_Levels___init__ K) E (tCons (tVar 0) tNil)) (gName 2))
    (tSeq (tDrop (tCa (sp_check_schedule K) E (tCons (tVar 1) (tCons (tVar 0) tNil))))
    (tSeq (tAsg tDNewK (gName 3))
    (tSeq (tFor (iSq K (tVar 1)) (gName 4)
    (tIfS (tT (tDNotIn (tVar 4) (tVar 3)))
    (tSeq (tAsg (tMa (He.ga K "Levels") "step" (sp_Levels_step K) E (tVar 2) (tCons (tVar 4) tNil)) (gName 5))
    (tIfS (tT (tOp nNotN (tVar 5) (tC .non)))
    (sDPut (tVar 3) (tVar 4) (tVar 5))
    tNext))
    tNext))
    (tRet (tTup (tCons (tPa (He.ga K "Levels") (sp_Levels_wrote K) E0 (tVar 2)) (tCons (tCB (rcTuple K) (tCons (tLc (iTup K (tPa (He.ga K "Levels") (sp_Levels_gone K) E0 (tVar 2))) (gName 4) tYes (tTup (tCons (tVar 4) (tCons (tDGet (tVar 3) (tVar 4)) tNil))) [4]) tNil)) tNil))))))))
def t_levels_blocks (K : PySem.W.Frag) (w : World) (E : XK) : TS := (tSeq (tAsg (tCa (sp_levels_run K) E (tCons (tVar 0) (tCons (tVar 1) tNil))) (gTup K 2 (gCons (gName 2) (gCons (gName 3) gNil))))
    (tSeq (tAsg (tTup tNil) (gName 4))
    (tSeq (tAsg (tLst tNil) (gName 5))
    (tSeq (tFor (iList K (tCB (NwS.rSortedN K w) (tCons (tCB (NwS.rSetN K w) (tCons (tLc (iTup K (tVar 3)) (gTup K 2 (gCons (gName 6) (gCons (gName 7) gNil))) tYes (tTup (tCons (tCB (rcLen K) (tCons (tVar 7) tNil)) (tCons (tVar 7) tNil))) [6, 7]) tNil)) tNil))) (gTup K 2 (gCons (gName 6) (gCons (gName 7) gNil)))
    (tSeq (tDrop (tBM K "list" rAppend (tVar 5) (tCons (tCB (rcTuple K) (tCons (tLc (iTup K (tVar 7)) (gName 9) (tT (tOp (rIn K true) (tVar 9) (tVar 4))) (tVar 9) [9]) tNil)) tNil)))
    (tAsg (tVar 7) (gName 4))))
    (tSeq (tAsg (tCB (rcTuple K) (tCons (tLc (iTup K (tVar 2)) (gName 9) (tT (tOp (rIn K true) (tVar 9) (tVar 4))) (tVar 9) [9]) tNil)) (gName 8))
    (tRet (tIf (tTru K (tVar 8)) (tCB (rcTuple K) (tCons (tOp rCat (tVar 5) (tLst (tCons (tVar 8) tNil))) tNil)) (tCB (rcTuple K) (tCons (tVar 5) tNil)))))))))
def t__law_int (K : PySem.W.Frag) : TS := (tRet (tAndV (tCB (rIsi K) (tCons (tVar 0) (tCons (tC (.ty "int")) tNil))) (tNotV (tCB (rIsi K) (tCons (tVar 0) (tCons (tC (.ty "bool")) tNil))))))
def t__law_refused (K : PySem.W.Frag) : TS := (tSeq (tAsg (tTup (tCons (tC (.str "none")) tNil)) (gName 3))
    (tSeq (fun D σ H => (fun W => (tSeq (tIfS (tT (tOp rEq (tVar 0) (tC (.str "new"))))
    (tDrop (tKw (He.ga K "Levels") (sp_Levels___init__ K) W (tCons (tVar 1) tNil)))
    tNext)
    (tSeq (tIfS (tT (tOp rEq (tVar 0) (tC (.str "step"))))
    (tDrop (tMw (He.ga K "Levels") "step" (sp_Levels_step K) W (tVar 1) (tCons (tVar 2) tNil)))
    tNext)
    (tSeq (tIfS (tT (tOp rEq (tVar 0) (tC (.str "level"))))
    (tDrop (tMw (He.ga K "Levels") "level" (sp_Levels_level K) W (tVar 1) (tCons (tVar 2) tNil)))
    tNext)
    (tSeq (tIfS (tT (tOp rEq (tVar 0) (tC (.str "taken"))))
    (tDrop (tMw (He.ga K "Levels") "taken" (sp_Levels_taken K) W (tVar 1) (tCons (tVar 2) tNil)))
    tNext)
    (tSeq (tIfS (tT (tOp rEq (tVar 0) (tC (.str "run"))))
    (tDrop (tCw (sp_levels_run K) W (tCons (tVar 1) (tCons (tVar 2) tNil))))
    tNext)
    (tIfS (tT (tOp rEq (tVar 0) (tC (.str "blocks"))))
    (tDrop (tCw (sp_levels_blocks K) W (tCons (tVar 1) (tCons (tVar 2) tNil))))
    tNext))))))) (wCls K (fun _ _ _ _ => False) D [(.ref (He.ga K "BadName"), some 4, fun a cls d => (tAsg (tTup (tCons (tC (.str "name")) (tCons (tByE (He.ga K "BadName") "name" a cls d (tVar 4)) tNil))) (gName 3))), (.ref (He.ga K "BadNumber"), some 4, fun a cls d => (tAsg (tTup (tCons (tC (.str "number")) (tCons (tByE (He.ga K "BadNumber") "word" a cls d (tVar 4)) tNil))) (gName 3))), (.ref (He.ga K "TaskError"), none, fun a cls d => (tAsg (tTup (tCons (tC (.str "other")) tNil)) (gName 3)))]) D σ H)
    (tRet (tVar 3))))
def t__law_schedule (K : PySem.W.Frag) : TS := (tSeq (tAsg (tOp nAdd (tCa (sp__law_take K) E0 (tCons (tVar 0) (tCons (tC (.int 30)) tNil))) (tCa (sp__law_take K) E0 (tCons (tVar 0) (tCons (tC (.int 22)) tNil)))) (gName 2))
    (tSeq (tAsg (tCa (sp__law_take K) E0 (tCons (tVar 0) (tCons (tC (.int 3)) tNil))) (gName 3))
    (tSeq (tAsg (tCa (sp__law_take K) E0 (tCons (tVar 0) (tCons (tVar 1) tNil))) (gName 4))
    (tSeq (tAsg (tLst tNil) (gName 5))
    (tSeq (tFor (iRng1 (tCons (tVar 2) tNil)) (gName 6)
    (tSeq (tAsg (tCa (sp__law_take K) E0 (tCons (tVar 0) (tCons (tVar 1) tNil))) (gName 7))
    (tSeq (tIfS (tAnd (tT (tOp rEq (tVar 3) (tC (.int 1)))) (tT (tOp nGt (tCa (sp__law_take K) E0 (tCons (tVar 0) (tCons (tC (.int 3)) tNil))) (tC (.int 0)))))
    (tAsg (tVar 4) (gName 7))
    tNext)
    (tSeq (tIfS (tAnd (tT (tOp rEq (tVar 3) (tC (.int 2)))) (tT (tOp nGt (tCa (sp__law_take K) E0 (tCons (tVar 0) (tCons (tC (.int 4)) tNil))) (tC (.int 0)))))
    (tAsg (tOp nMod (tCB rcInt (tCons (tOp nAdd (tVar 4) (tOp nMod (tVar 6) (tC (.int 2)))) tNil)) (tVar 1)) (gName 7))
    tNext)
    (tDrop (tBM K "list" rAppend (tVar 5) (tCons (tVar 7) tNil)))))))
    (tRet (tVar 5)))))))
def t__law_new (K : PySem.W.Frag) : TS := (tRet (tLc (iRng1 (tCons (tVar 0) tNil)) (gName 1) tYes (tLst (tCons (tOp nAdd (tVar 0) (tC (.int 1))) (tCons (tC (.int 0)) (tCons (tLst tNil) tNil)))) [1]))
def t__law_step (K : PySem.W.Frag) : TS := (tSeq (tAsg (tCB (rcLen K) (tCons (tVar 1) tNil)) (gName 3))
    (tSeq (tAsg (tOp (rIx K) (tVar 0) (tVar 2)) (gName 4))
    (tSeq (tAsg (tOp nMod (tOp (rIx K) (tVar 4) (tC (.int 1))) (tOp nAdd (tVar 3) (tC (.int 1)))) (gName 5))
    (tSeq (tAsg (tOp nAdd (tOp (rIx K) (tVar 4) (tC (.int 1))) (tC (.int 1))) (gSub (tVar 4) (tC (.int 1)) rSetL))
    (tSeq (tIfS (tT (tOp rEq (tVar 5) (tC (.int 0))))
    (tSeq (tAsg (tOp nSub (tOp (rIx K) (tVar 4) (tC (.int 0))) (tC (.int 1))) (gSub (tVar 4) (tC (.int 0)) rSetL))
    (tSeq (tAsg (tOp (rIx K) (tVar 4) (tC (.int 0))) (gSub (tVar 1) (tVar 2) rSetL))
    (tSeq (tAsg (tLst tNil) (gSub (tVar 4) (tC (.int 2)) rSetL))
    (tRet (tC .non)))))
    tNext)
    (tSeq (tIfS (tT (tOp nLe (tOp (rIx K) (tVar 1) (tOp nSub (tVar 5) (tC (.int 1)))) (tOp (rIx K) (tVar 4) (tC (.int 0)))))
    (tDrop (tBM K "list" rAppend (tOp (rIx K) (tVar 4) (tC (.int 2))) (tCons (tOp nSub (tVar 5) (tC (.int 1))) tNil)))
    tNext)
    (tSeq (tIfS (tAnd (tT (tOp rEq (tVar 5) (tVar 3))) (tT (tOp nGe (tCB (rcLen K) (tCons (tOp (rIx K) (tVar 4) (tC (.int 2))) tNil)) (tOp (rIx K) (tVar 4) (tC (.int 0))))))
    (tRet (tCB (rcTuple K) (tCons (tOp (rIx K) (tVar 4) (tC (.int 2))) tNil)))
    tNext)
    (tRet (tC .non)))))))))
def t__law_few_below (K : PySem.W.Frag) : TS := (tSeq (tAsg (tLc (iRng1 (tCons (tVar 1) tNil)) (gName 4) tYes (tMa (He.ga K "Levels") "level" (sp_Levels_level K) E0 (tVar 0) (tCons (tVar 4) tNil)) [4]) (gName 2))
    (tSeq (tFor (iRng2 (tCons (tC (.int 1)) (tCons (tOp nAdd (tVar 1) (tC (.int 1))) tNil))) (gName 3)
    (tIfS (tT (tOp nGt (tCB (rcLen K) (tCons (tLc (iList K (tVar 2)) (gName 5) (tT (tOp nLe (tVar 5) (tVar 3))) (tVar 5) [5]) tNil)) (tVar 3)))
    (tRet (tC (.bl false)))
    tNext))
    (tRet (tC (.bl true)))))
def t__law_same (K : PySem.W.Frag) : TS := (tSeq (tAsg (tCB (rcTuple K) (tCons (tLc (iRng1 (tCons (tVar 3) tNil)) (gName 4) (tT (tOp nGt (tOp (rIx K) (tOp (rIx K) (tVar 1) (tVar 4)) (tC (.int 1))) (tC (.int 0)))) (tVar 4) [4]) tNil)) (gName 5))
    (tSeq (tIfS (tOr (tT (tOp (rNeD K) (tPa (He.ga K "Levels") (sp_Levels_wrote K) E0 (tVar 0)) (tVar 5))) (tT (tOp (rNeD K) (tPa (He.ga K "Levels") (sp_Levels_gone K) E0 (tVar 0)) (tCB (rcTuple K) (tCons (tCB (rSortedI K) (tCons (tCB rListD (tCons (tVar 2) tNil)) tNil)) tNil)))))
    (tRet (tC (.bl false)))
    tNext)
    (tSeq (tFor (iRng1 (tCons (tVar 3) tNil)) (gName 4)
    (tSeq (tAsg (tMa (He.ga K "Levels") "level" (sp_Levels_level K) E0 (tVar 0) (tCons (tVar 4) tNil)) (gName 6))
    (tIfS (tOr (tT (tOp (rNeD K) (tVar 6) (tOp (rIx K) (tOp (rIx K) (tVar 1) (tVar 4)) (tC (.int 0))))) (tOr (tNot (tT (tCa (sp__law_int K) E0 (tCons (tVar 6) tNil)))) (tT (tOp (rNeD K) (tMa (He.ga K "Levels") "taken" (sp_Levels_taken K) E0 (tVar 0) (tCons (tVar 4) tNil)) (tOp (rIx K) (tOp (rIx K) (tVar 1) (tVar 4)) (tC (.int 1)))))))
    (tRet (tC (.bl false)))
    tNext)))
    (tRet (tCa (sp__law_few_below K) E0 (tCons (tVar 0) (tCons (tVar 3) tNil)))))))
def t__law_within (K : PySem.W.Frag) : TS := (tRet (tCB (rAll K) (tCons (tLc (iTup K (tVar 0)) (gName 2) tYes (tOp (rIn K false) (tVar 2) (tVar 1)) [2]) tNil)))
def t__law_looks_right (K : PySem.W.Frag) : TS := (tSeq (tLock (tFor (iKeys (tVar 0)) (gName 3)
    (tSeq (tAsg (tDGet (tVar 0) (tVar 3)) (gName 4))
    (tSeq (tIfS (tOr (tT (tOp (rIn K true) (tVar 3) (tVar 4))) (tT (tOp (rNeD K) (tOp (rIx K) (tOp (rIx K) (tVar 1) (tVar 3)) (tC (.int 0))) (tCB (rcLen K) (tCons (tVar 4) tNil)))))
    (tRet (tC (.bl false)))
    tNext)
    (tSeq (tIfS (tT (tOp (rNeD K) (tOp (rIx K) (tOp (rIx K) (tVar 1) (tVar 3)) (tC (.int 1))) (tOp nMul (tOp nSub (tOp nAdd (tVar 2) (tC (.int 1))) (tCB (rcLen K) (tCons (tVar 4) tNil))) (tOp nAdd (tVar 2) (tC (.int 1))))))
    (tRet (tC (.bl false)))
    tNext)
    (tSeq (tIfS (tT (tOp (rNeD K) (tVar 4) (tCB (rcTuple K) (tCons (tLc (iRng1 (tCons (tVar 2) tNil)) (gName 5) (tT (tOp nLe (tOp (rIx K) (tOp (rIx K) (tVar 1) (tVar 5)) (tC (.int 0))) (tCB (rcLen K) (tCons (tVar 4) tNil)))) (tVar 5) [5]) tNil))))
    (tRet (tC (.bl false)))
    tNext)
    (tFor (iKeys (tVar 0)) (gName 5)
    (tSeq (tIfS (tAnd (tNot (tT (tCa (sp__law_within K) E0 (tCons (tVar 4) (tCons (tDGet (tVar 0) (tVar 5)) tNil))))) (tNot (tT (tCa (sp__law_within K) E0 (tCons (tDGet (tVar 0) (tVar 5)) (tCons (tVar 4) tNil))))))
    (tRet (tC (.bl false)))
    tNext)
    (tIfS (tAnd (tT (tOp (rIn K false) (tVar 5) (tVar 4))) (tNot (tT (tCa (sp__law_within K) E0 (tCons (tDGet (tVar 0) (tVar 5)) (tCons (tVar 4) tNil))))))
    (tRet (tC (.bl false)))
    tNext)))))))))
    (tRet (tC (.bl true))))
def t__law_blocks_due (K : PySem.W.Frag) : TS := (tSeq (tAsg (tLst tNil) (gName 2))
    (tSeq (tLock (tFor (iKeys (tVar 0)) (gName 3)
    (tIfS (tT (tOp (rNotInD K) (tTup (tCons (tCB (rcLen K) (tCons (tDGet (tVar 0) (tVar 3)) tNil)) (tCons (tDGet (tVar 0) (tVar 3)) tNil))) (tVar 2)))
    (tDrop (tBM K "list" rAppend (tVar 2) (tCons (tTup (tCons (tCB (rcLen K) (tCons (tDGet (tVar 0) (tVar 3)) tNil)) (tCons (tDGet (tVar 0) (tVar 3)) tNil))) tNil)))
    tNext)))
    (tSeq (tAsg (tLst tNil) (gName 4))
    (tSeq (tAsg (tLst tNil) (gName 5))
    (tSeq (tFor (iList K (tCB (NwS.rSortedD K) (tCons (tVar 2) tNil))) (gName 6)
    (tSeq (tDrop (tBM K "list" rAppend (tVar 5) (tCons (tCB (rcTuple K) (tCons (tLc (iTup K (tOp (rIx K) (tVar 6) (tC (.int 1)))) (gName 3) (tT (tOp (rNotInD K) (tVar 3) (tVar 4))) (tVar 3) [3]) tNil)) tNil)))
    (tAsg (tCB (rcList K) (tCons (tOp (rIx K) (tVar 6) (tC (.int 1))) tNil)) (gName 4))))
    (tSeq (tAsg (tCB (rcTuple K) (tCons (tLc (iTup K (tVar 1)) (gName 3) (tT (tOp (rNotInD K) (tVar 3) (tVar 4))) (tVar 3) [3]) tNil)) (gName 7))
    (tSeq (tIfS (tT (tOp nGt (tCB (rcLen K) (tCons (tVar 7) tNil)) (tC (.int 0))))
    (tDrop (tBM K "list" rAppend (tVar 5) (tCons (tVar 7) tNil)))
    tNext)
    (tRet (tCB (rcTuple K) (tCons (tVar 5) tNil))))))))))
def t__law_finish (K : PySem.W.Frag) : TS := (tSeq (tFor (iRng1 (tCons (tOp nMul (tVar 4) (tOp nAdd (tVar 4) (tC (.int 1)))) tNil)) (gName 5)
    (tFor (iRng1 (tCons (tVar 4) tNil)) (gName 6)
    (tIfS (tT (tDNotIn (tVar 6) (tVar 3)))
    (tSeq (tAsg (tCa (sp__law_step K) E0 (tCons (tVar 1) (tCons (tVar 2) (tCons (tVar 6) tNil)))) (gName 7))
    (tSeq (tIfS (tT (tOp (rNeD K) (tMa (He.ga K "Levels") "step" (sp_Levels_step K) E0 (tVar 0) (tCons (tVar 6) tNil)) (tVar 7)))
    (tRet (tC (.bl false)))
    tNext)
    (tIfS (tT (tOp nNotN (tVar 7) (tC .non)))
    (sDPut (tVar 3) (tVar 6) (tVar 7))
    tNext)))
    tNext)))
    (tRet (tAndV (tOp rEq (tCB rLenD (tCons (tVar 3) tNil)) (tVar 4)) (tAndV (tCa (sp__law_looks_right K) E0 (tCons (tVar 3) (tCons (tVar 1) (tCons (tVar 4) tNil)))) (tCa (sp__law_same K) E0 (tCons (tVar 0) (tCons (tVar 1) (tCons (tVar 3) (tCons (tVar 4) tNil)))))))))
def t__law_walked (K : PySem.W.Frag) : TS := (tSeq (tAsg (tKa (He.ga K "Levels") (sp_Levels___init__ K) E0 (tCons (tVar 0) tNil)) (gName 2))
    (tSeq (tAsg (tKa (He.ga K "Levels") (sp_Levels___init__ K) E0 (tCons (tVar 0) tNil)) (gName 3))
    (tSeq (tAsg (tCa (sp__law_new K) E0 (tCons (tVar 0) tNil)) (gName 4))
    (tSeq (tAsg (tLc (iRng1 (tCons (tVar 0) tNil)) (gName 5) tYes (tOp nAdd (tVar 0) (tC (.int 1))) [5]) (gName 6))
    (tSeq (tAsg tDNewK (gName 7))
    (tSeq (tFor (iList K (tVar 1)) (gName 5)
    (tSeq (tIfS (tT (tDIn (tVar 5) (tVar 7)))
    (tIfS (tT (tOp (rNeD K) (tCa (sp__law_refused K) E0 (tCons (tC (.str "step")) (tCons (tVar 2) (tCons (tVar 5) tNil)))) (tTup (tCons (tC (.str "name")) (tCons (tVar 5) tNil)))))
    (tRet (tC (.bl false)))
    tNext)
    (tSeq (tAsg (tCa (sp__law_step K) E0 (tCons (tVar 4) (tCons (tVar 6) (tCons (tVar 5) tNil)))) (gName 8))
    (tSeq (tIfS (tT (tOp (rNeD K) (tMa (He.ga K "Levels") "step" (sp_Levels_step K) E0 (tVar 2) (tCons (tVar 5) tNil)) (tVar 8)))
    (tRet (tC (.bl false)))
    tNext)
    (tIfS (tT (tOp nNotN (tVar 8) (tC .non)))
    (sDPut (tVar 7) (tVar 5) (tVar 8))
    tNext))))
    (tIfS (tNot (tT (tCa (sp__law_same K) E0 (tCons (tVar 2) (tCons (tVar 4) (tCons (tVar 7) (tCons (tVar 0) tNil)))))))
    (tRet (tC (.bl false)))
    tNext)))
    (tSeq (tIfS (tOr (tNot (tT (tCa (sp__law_same K) E0 (tCons (tVar 3) (tCons (tCa (sp__law_new K) E0 (tCons (tVar 0) tNil)) (tCons tDNewK (tCons (tVar 0) tNil))))))) (tNot (tT (tCa (sp__law_looks_right K) E0 (tCons (tVar 7) (tCons (tVar 4) (tCons (tVar 0) tNil)))))))
    (tRet (tC (.bl false)))
    tNext)
    (tSeq (tAsg (tCB (rcTuple K) (tCons (tLc (iRng1 (tCons (tVar 0) tNil)) (gName 5) (tT (tOp nGt (tOp (rIx K) (tOp (rIx K) (tVar 4) (tVar 5)) (tC (.int 1))) (tC (.int 0)))) (tVar 5) [5]) tNil)) (gName 9))
    (tSeq (tAsg (tCB (rcList K) (tCons (tVar 1) tNil)) (gName 10))
    (tSeq (tAsg (tCa (sp_levels_run K) E0 (tCons (tVar 0) (tCons (tVar 1) tNil))) (gName 11))
    (tSeq (tIfS (tOr (tT (tOp (rNeD K) (tVar 11) (tTup (tCons (tVar 9) (tCons (tCB (rcTuple K) (tCons (tLc (iList K (tCB (rSortedI K) (tCons (tCB rListD (tCons (tVar 7) tNil)) tNil))) (gName 5) tYes (tTup (tCons (tVar 5) (tCons (tDGet (tVar 7) (tVar 5)) tNil))) [5]) tNil)) tNil))))) (tT (tOp (rNeD K) (tVar 1) (tVar 10))))
    (tRet (tC (.bl false)))
    tNext)
    (tSeq (tAsg (tCa (sp_levels_blocks K) E0 (tCons (tVar 0) (tCons (tCB (rcTuple K) (tCons (tVar 1) tNil)) tNil))) (gName 12))
    (tSeq (tIfS (tT (tOp (rNeD K) (tVar 12) (tCa (sp__law_blocks_due K) E0 (tCons (tVar 7) (tCons (tVar 9) tNil)))))
    (tRet (tC (.bl false)))
    tNext)
    (tSeq (tFor (iRng1 (tCons (tCB (rcLen K) (tCons (tVar 12) tNil)) tNil)) (gName 13)
    (tSeq (tAsg (tLst tNil) (gName 14))
    (tSeq (tFor (iTup K (tSl (rSlA K) (tVar 12) tNoPart (tPart (tOp nAdd (tVar 13) (tC (.int 1)))))) (gName 15)
    (tAsg (tOp rCat (tVar 14) (tCB (rcList K) (tCons (tVar 15) tNil))) (gName 14)))
    (tFor (iTup K (tOp (rIx K) (tVar 12) (tVar 13))) (gName 5)
    (tIfS (tAnd (tT (tDIn (tVar 5) (tVar 7))) (tT (tOp (rNeD K) (tDGet (tVar 7) (tVar 5)) (tCB (rcTuple K) (tCons (tCB (rSortedI K) (tCons (tVar 14) tNil)) tNil)))))
    (tRet (tC (.bl false)))
    tNext)))))
    (tRet (tCa (sp__law_finish K) E0 (tCons (tVar 2) (tCons (tVar 4) (tCons (tVar 6) (tCons (tVar 7) (tCons (tVar 0) tNil)))))))))))))))))))))
def t__law_all_refused (K : PySem.W.Frag) : TS := (tSeq (tAsg (tOp (rIx K) (tLst (tCons (tC (.int 0)) (tCons (tUn nNeg (tC (.int 1))) (tCons (tC (.int 7)) (tCons (tC .non) (tCons (tC (.bl true)) (tCons (tC (.str "a")) tNil))))))) (tCa (sp__law_take K) E0 (tCons (tVar 0) (tCons (tC (.int 6)) tNil)))) (gName 3))
    (tSeq (tAsg (tOp (rIx K) (tLst (tCons (tUn nNeg (tC (.int 1))) (tCons (tC .non) (tCons (tC (.bl true)) (tCons (tVar 1) (tCons (tC (.str "a")) (tCons (tOp nAdd (tVar 1) (tC (.int 9))) tNil))))))) (tCa (sp__law_take K) E0 (tCons (tVar 0) (tCons (tC (.int 6)) tNil)))) (gName 4))
    (tSeq (tAsg (tKa (He.ga K "Levels") (sp_Levels___init__ K) E0 (tCons (tVar 1) tNil)) (gName 5))
    (tSeq (tIfS (tT (tOp (rNeD K) (tCa (sp__law_refused K) E0 (tCons (tC (.str "new")) (tCons (tVar 3) (tCons (tC (.int 0)) tNil)))) (tTup (tCons (tC (.str "number")) (tCons (tC (.str "size")) tNil)))))
    (tRet (tC (.bl false)))
    tNext)
    (tSeq (tFor (iList K (tLst (tCons (tC (.str "step")) (tCons (tC (.str "level")) (tCons (tC (.str "taken")) tNil))))) (gName 6)
    (tIfS (tT (tOp (rNeD K) (tCa (sp__law_refused K) E0 (tCons (tVar 6) (tCons (tVar 5) (tCons (tVar 4) tNil)))) (tTup (tCons (tC (.str "name")) (tCons (tVar 4) tNil)))))
    (tRet (tC (.bl false)))
    tNext))
    (tSeq (tIfS (tOr (tT (tOp (rNeD K) (tPa (He.ga K "Levels") (sp_Levels_wrote K) E0 (tVar 5)) (tTup tNil))) (tT (tOp (rNeD K) (tPa (He.ga K "Levels") (sp_Levels_gone K) E0 (tVar 5)) (tTup tNil))))
    (tRet (tC (.bl false)))
    tNext)
    (tSeq (tAsg (tOp rCat (tOp rCat (tCB (rcList K) (tCons (tVar 2) tNil)) (tLst (tCons (tVar 4) (tCons (tUn nNeg (tC (.int 7))) tNil)))) (tCB (rcList K) (tCons (tVar 2) tNil))) (gName 7))
    (tSeq (tFor (iList K (tLst (tCons (tC (.str "run")) (tCons (tC (.str "blocks")) tNil)))) (gName 6)
    (tSeq (tIfS (tOr (tT (tOp (rNeD K) (tCa (sp__law_refused K) E0 (tCons (tVar 6) (tCons (tVar 1) (tCons (tVar 7) tNil)))) (tTup (tCons (tC (.str "name")) (tCons (tVar 4) tNil))))) (tT (tOp (rNeD K) (tCa (sp__law_refused K) E0 (tCons (tVar 6) (tCons (tVar 3) (tCons (tVar 7) tNil)))) (tTup (tCons (tC (.str "number")) (tCons (tC (.str "size")) tNil))))))
    (tRet (tC (.bl false)))
    tNext)
    (tSeq (tIfS (tT (tOp (rNeD K) (tCa (sp__law_refused K) E0 (tCons (tVar 6) (tCons (tVar 1) (tCons (tOp (rIx K) (tLst (tCons (tC .non) (tCons (tC (.int 5)) (tCons (tC (.str "a")) tNil)))) (tCa (sp__law_take K) E0 (tCons (tVar 0) (tCons (tC (.int 3)) tNil)))) tNil)))) (tTup (tCons (tC (.str "name")) (tCons (tUn nNeg (tC (.int 1))) tNil)))))
    (tRet (tC (.bl false)))
    tNext)
    (tIfS (tT (tOp (rNeD K) (tCa (sp__law_refused K) E0 (tCons (tVar 6) (tCons (tVar 3) (tCons (tC .non) tNil)))) (tTup (tCons (tC (.str "number")) (tCons (tC (.str "size")) tNil)))))
    (tRet (tC (.bl false)))
    tNext))))
    (tRet (tAndV (tOp (rEqD K) (tCa (sp_levels_run K) E0 (tCons (tVar 1) (tCons (tLst tNil) tNil))) (tTup (tCons (tTup tNil) (tCons (tTup tNil) tNil)))) (tOp (rEqD K) (tCa (sp_levels_blocks K) E0 (tCons (tVar 1) (tCons (tTup tNil) tNil))) (tTup tNil))))))))))))
def t_law (K : PySem.W.Frag) : TS := (tSeq (tAsg (tCa (sp__law_drawn K) E0 (tCons (tVar 0) tNil)) (gName 1))
    (tSeq (tAsg (tOp nAdd (tC (.int 1)) (tCa (sp__law_take K) E0 (tCons (tVar 1) (tCons (tC (.int 4)) tNil)))) (gName 2))
    (tSeq (tIfS (tAnd (tT (tOp rEq (tVar 2) (tC (.int 4)))) (tT (tOp rEq (tCa (sp__law_take K) E0 (tCons (tVar 1) (tCons (tC (.int 6)) tNil))) (tC (.int 5)))))
    (tAsg (tOp nAdd (tC (.int 5)) (tCa (sp__law_take K) E0 (tCons (tVar 1) (tCons (tC (.int 2)) tNil)))) (gName 2))
    tNext)
    (tSeq (tAsg (tCa (sp__law_schedule K) E0 (tCons (tVar 1) (tCons (tVar 2) tNil))) (gName 3))
    (tRet (tAndV (tCa (sp__law_walked K) E0 (tCons (tVar 2) (tCons (tVar 3) tNil))) (tCa (sp__law_all_refused K) E0 (tCons (tVar 1) (tCons (tVar 2) (tCons (tVar 3) tNil))))))))))
end K07
end
section
set_option Elab.async false
set_option linter.all false
set_option maxRecDepth 100000
set_option maxHeartbeats 2000000
/-! k07: what stands in the heap -/
namespace K07
open PySem PySem.Spec PyProof.Rows L2 Nw
section
variable {n p i : Nat} {f : Nat → Int} {g : Nat → Addr} {v : Int} {a : Addr}
theorem vI_get (h : p < n) : (vI n f)[p]? = some (.int (f p)) := by
  unfold vI
  rw [List.getElem?_map, List.getElem?_range h] <;> rfl
theorem vR_get (h : p < n) : (vR n g)[p]? = some (.ref (g p)) := by
  unfold vR
  rw [List.getElem?_map, List.getElem?_range h] <;> rfl
theorem vI_at (h : p < n) : atI (vI n f) (p : Int) = some (.int (f p)) := by rw [atI_nat (vI_get h)]
theorem vR_at (h : p < n) : atI (vR n g) (p : Int) = some (.ref (g p)) := by rw [atI_nat (vR_get h)]
theorem vI_len : (vI n f).length = n := by unfold vI; rw [List.length_map, List.length_range]
theorem vR_len : (vR n g).length = n := by unfold vR; rw [List.length_map, List.length_range]
theorem map_set {α : Type} {m : Nat → α} {x : α} : ((List.range n).map m).set p x = (List.range n).map (put m p x) := by
  apply List.ext_getElem?
  intro j
  rw [List.getElem?_set, List.getElem?_map, List.getElem?_map, List.length_map, List.length_range]
  by_cases e : p = j
  · subst e
    rw [if_pos rfl]
    by_cases h : p < n
    · rw [if_pos h, List.getElem?_range h]
      show some x = some (put m p x p)
      rw [put_at]
    · rw [if_neg h, List.getElem?_eq_none (by rw [List.length_range]; omega)] <;> rfl
  · rw [if_neg e]
    by_cases h : j < n
    · rw [List.getElem?_range h]
      show some (m j) = some (put m p x j)
      rw [put_ne (Ne.symm e)]
    · rw [List.getElem?_eq_none (by rw [List.length_range]; omega)] <;> rfl
theorem vI_set : (vI n f).set p (.int v) = vI n (put f p v) := by
  unfold vI
  rw [map_set]
  congr 1
  funext j
  unfold put
  split <;> rfl
theorem vR_set : (vR n g).set p (.ref a) = vR n (put g p a) := by
  unfold vR
  rw [map_set]
  congr 1
  funext j
  unfold put
  split <;> rfl
theorem vT_set {tk : Nat → Nat} {t : Nat} : (vI n fun i => (tk i : Int)).set p (.int (t : Int)) = vI n fun i => ((put tk p t i : Nat) : Int) := by
  rw [vI_set]
  congr 1
  funext j
  unfold put
  split <;> rfl
end
theorem kp_same {H H' : Hp} (h : Same H H') {F : Addr → Prop} : Kp F H H' := fun b o _ e => h b o e
theorem Kp.trans {F : Addr → Prop} {H H1 H2 : Hp} (a : Kp F H H1) (b : Kp F H1 H2) : Kp F H H2 := fun c o n h => b c o n (a c o n h)
theorem Kp.mono {F G : Addr → Prop} {H H' : Hp} (h : ∀ b, F b → G b) (k : Kp F H H') : Kp G H H' := fun b o n e => k b o (fun z => n (h b z)) e
theorem kp_upd {F : Addr → Prop} {H : Hp} {b : Addr} {o : HO} (h : F b) : Kp F H (upd H b o) := fun c u n e => by
  rw [upd_ne (fun z => n (by rw [z]; exact h))]
  exact e
theorem Kp.new {F : Addr → Prop} {H H' : Hp} {b : Addr} {o : HO} (k : Kp F H H') (h : H' b = none) : Kp F H (upd H' b o) := k.trans (kp_same (same_new h))
theorem Kp.put {F : Addr → Prop} {H H' : Hp} {b : Addr} {o : HO} (k : Kp F H H') (h : F b) : Kp F H (upd H' b o) := k.trans (kp_upd h)
theorem Kp.gone {F : Addr → Prop} {H H' : Hp} {b : Addr} (k : Kp F H H') (nf : ¬ F b) (h : H' b = none) : H b = none := by
  cases e : H b with
  | none => rfl
  | some o => rw [k b o nf e] at h; cases h
/-- from what was fresh: all stays -/
theorem Kp.same {F : Addr → Prop} {H H' : Hp} (k : Kp F H H') (h : ∀ b, F b → H b = none) : Same H H' := fun b o e => k b o (fun z => by rw [h b z] at e; cases e) e
/-- lists and dicts -/
def mu : HO → Prop
  | .lst _ => True
  | .dK _ => True
  | _ => False
def Mu (F : Addr → Prop) (H : Hp) : Prop := ∀ b, F b → ∃ o, H b = some o ∧ mu o
theorem Kp.fix {F : Addr → Prop} {H H' : Hp} {b : Addr} {o : HO} (k : Kp F H H') (m : Mu F H) (e : H b = some o) (nm : ¬ mu o) : H' b = some o := k b o (fun z => by
  obtain ⟨u, e2, hm⟩ := m b z
  rw [e] at e2
  cases e2
  exact nm hm) e
theorem ne_kind {H : Hp} {a b : Addr} {o u : HO} (h1 : H a = some o) (h2 : H b = some u) (h : o ≠ u) : a ≠ b := fun e => by
  subst e
  rw [h1] at h2
  exact h (Option.some.inj h2)
/-! ### the dict of looks -/
section
variable {H H' : Hp} {d : Addr} {looks : List (Nat × List Nat)} {ta : Nat → Addr}
theorem Dc.kp {F : Addr → Prop} (h : Dc H d looks ta) (k : Kp F H H') (nf : ¬ F d) (m : Mu F H) : Dc H' d looks ta := ⟨k _ _ nf h.at_, fun p hp => k.fix m (h.tup p hp) fun z => z⟩
theorem Dc.same (h : Dc H d looks ta) (s : Same H H') : Dc H' d looks ta := ⟨s _ _ h.at_, fun p hp => s _ _ (h.tup p hp)⟩
theorem Dct.same (h : Dct H d looks) (s : Same H H') : Dct H' d looks := by
  obtain ⟨ta, h⟩ := h
  exact ⟨ta, h.same s⟩
theorem Dct.kp {F : Addr → Prop} (h : Dct H d looks) (k : Kp F H H') (nf : ¬ F d) (m : Mu F H) : Dct H' d looks := by
  obtain ⟨ta, h⟩ := h
  exact ⟨ta, h.kp k nf m⟩
/-- a name's look -/
theorem valV_kvs {q : Nat} : ∀ {looks : List (Nat × List Nat)}, valV (kvs looks ta) (ki (q : Int)) = if q ∈ looks.map Prod.fst then some (.ref (ta q)) else none
  | [] => rfl
  | p :: r => by
    have ih := valV_kvs (q := q) (looks := r)
    by_cases c : p.1 = q
    · subst c
      rw [show kvs (p :: r) ta = (ki (p.1 : Int), V.ref (ta p.1)) :: kvs r ta from rfl, valV_pos rfl, List.map_cons, if_pos List.mem_cons_self]
    · rw [show kvs (p :: r) ta = (ki (p.1 : Int), V.ref (ta p.1)) :: kvs r ta from rfl, valV_neg (fun z => c (by
        have := Sum.inl.inj z
        omega)), ih, List.map_cons]
      simp only [List.mem_cons, Ne.symm c, false_or]
theorem putK_kvs {q t : Nat} {S : List Nat} (h : q ∉ looks.map Prod.fst) : putK (kvs looks ta) (ki (q : Int)) (.ref t) = kvs (looks ++ [(q, S)]) (put ta q t) := by
  have e : ((kvs looks ta).any fun kv => decide (kv.1 = ki (q : Int))) = false := by
    rw [List.any_eq_false]
    intro x hx
    obtain ⟨p, hp, rfl⟩ := List.mem_map.mp hx
    rw [decide_eq_true_eq]
    intro z
    have z : (p.1 : Int) = (q : Int) := Sum.inl.inj z
    have : p.1 = q := by omega
    exact h (this ▸ List.mem_map_of_mem (f := Prod.fst) hp)
  unfold putK
  rw [if_neg (by rw [e]; decide)]
  unfold kvs
  rw [List.map_append]
  congr 1
  · refine List.map_congr_left fun p hp => ?_
    rw [put_ne (fun z : p.1 = q => h (by rw [← z]; exact List.mem_map_of_mem (f := Prod.fst) hp))]
  · show [(ki (q : Int), V.ref t)] = [(ki (q : Int), V.ref (put ta q t q))]
    rw [put_at]
theorem Dc.add {q t : Nat} {S : List Nat} (h : Dc H d looks ta) (hq : q ∉ looks.map Prod.fst) (ht : H t = some (.tup (nt S))) (hd : t ≠ d) : Dc (upd H d (.dK (kvs (looks ++ [(q, S)]) (put ta q t)))) d (looks ++ [(q, S)]) (put ta q t) := ⟨upd_same, fun p hp => by
  rw [List.mem_append, List.mem_singleton] at hp
  rcases hp with hp | rfl
  · rw [put_ne (fun z : p.1 = q => hq (by rw [← z]; exact List.mem_map_of_mem (f := Prod.fst) hp)), upd_ne (ne_kind (h.tup p hp) h.at_ (by intro z; cases z))]
    exact h.tup p hp
  · rw [put_at, upd_ne hd]
    exact ht⟩
end
/-! ### a Levels object -/
section
variable {K : Frag} {H H' : Hp} {a dx pk q : Addr} {n p k : Nat} {cel low cel' low' : Nat → Int} {tk tk' : Nat → Nat} {seen : Nat → List Nat} {looks : List (Nat × List Nat)} {L : Nat → Addr} {ta : Nat → Addr}
theorem Lv.lst (v : Lv K H a n cel low tk seen looks dx L pk ta) (hk : k < 4 + n) : ∃ xs, H (L k) = some (.lst xs) := by
  match k, hk with
  | 0, _ => exact ⟨_, v.o0⟩
  | 1, _ => exact ⟨_, v.o1⟩
  | 2, _ => exact ⟨_, v.o2⟩
  | 3, _ => exact ⟨_, v.o3⟩
  | k + 4, hk =>
    refine ⟨nt (seen k), ?_⟩
    rw [Nat.add_comm]
    exact v.o4 k (by omega)
theorem Lv.nea (v : Lv K H a n cel low tk seen looks dx L pk ta) (hk : k < 4 + n) : a ≠ L k := by
  obtain ⟨xs, e⟩ := v.lst hk
  exact ne_kind v.oa e (by intro z; cases z)
theorem Lv.nek (v : Lv K H a n cel low tk seen looks dx L pk ta) (hk : k < 4 + n) : pk ≠ L k := by
  obtain ⟨xs, e⟩ := v.lst hk
  exact ne_kind v.od.at_ e (by intro z; cases z)
theorem Lv.ne (v : Lv K H a n cel low tk seen looks dx L pk ta) {i j : Nat} (hi : i < 4 + n) (hj : j < 4 + n) (h : i ≠ j) : L i ≠ L j := fun e => h (v.inj i j hi hj e)
theorem Lv.dcU (v : Lv K H a n cel low tk seen looks dx L pk ta) (hk : k < 4 + n) {o : HO} : Dc (upd H (L k) o) pk looks ta := ⟨by rw [upd_ne (v.nek hk)]; exact v.od.at_, fun p hp => by
  obtain ⟨xs, e⟩ := v.lst hk
  rw [upd_ne (ne_kind (v.od.tup p hp) e (by intro z; cases z))]
  exact v.od.tup p hp⟩
theorem Lv.setCel (v : Lv K H a n cel low tk seen looks dx L pk ta) : Lv K (upd H (L 0) (.lst (vI n cel'))) a n cel' low tk seen looks dx L pk ta :=
  ⟨by rw [upd_ne (v.nea (by omega))]; exact v.oa, upd_same, by rw [upd_ne (v.ne (by omega) (by omega) (by omega))]; exact v.o1, by rw [upd_ne (v.ne (by omega) (by omega) (by omega))]; exact v.o2, by rw [upd_ne (v.ne (by omega) (by omega) (by omega))]; exact v.o3,
    fun i hi => by rw [upd_ne (v.ne (by omega) (by omega) (by omega))]; exact v.o4 i hi, v.dcU (by omega), v.inj⟩
theorem Lv.setLow (v : Lv K H a n cel low tk seen looks dx L pk ta) : Lv K (upd H (L 1) (.lst (vI n low'))) a n cel low' tk seen looks dx L pk ta :=
  ⟨by rw [upd_ne (v.nea (by omega))]; exact v.oa, by rw [upd_ne (v.ne (by omega) (by omega) (by omega))]; exact v.o0, upd_same, by rw [upd_ne (v.ne (by omega) (by omega) (by omega))]; exact v.o2, by rw [upd_ne (v.ne (by omega) (by omega) (by omega))]; exact v.o3,
    fun i hi => by rw [upd_ne (v.ne (by omega) (by omega) (by omega))]; exact v.o4 i hi, v.dcU (by omega), v.inj⟩
theorem Lv.setTk (v : Lv K H a n cel low tk seen looks dx L pk ta) : Lv K (upd H (L 2) (.lst (vI n fun i => (tk' i : Int)))) a n cel low tk' seen looks dx L pk ta :=
  ⟨by rw [upd_ne (v.nea (by omega))]; exact v.oa, by rw [upd_ne (v.ne (by omega) (by omega) (by omega))]; exact v.o0, by rw [upd_ne (v.ne (by omega) (by omega) (by omega))]; exact v.o1, upd_same, by rw [upd_ne (v.ne (by omega) (by omega) (by omega))]; exact v.o3,
    fun i hi => by rw [upd_ne (v.ne (by omega) (by omega) (by omega))]; exact v.o4 i hi, v.dcU (by omega), v.inj⟩
theorem Lv.app (v : Lv K H a n cel low tk seen looks dx L pk ta) (hp : p < n) {S : List Nat} : Lv K (upd H (L (4 + p)) (.lst (nt S))) a n cel low tk (put seen p S) looks dx L pk ta :=
  ⟨by rw [upd_ne (v.nea (by omega))]; exact v.oa, by rw [upd_ne (v.ne (by omega) (by omega) (by omega))]; exact v.o0, by rw [upd_ne (v.ne (by omega) (by omega) (by omega))]; exact v.o1, by rw [upd_ne (v.ne (by omega) (by omega) (by omega))]; exact v.o2, by rw [upd_ne (v.ne (by omega) (by omega) (by omega))]; exact v.o3,
    fun i hi => by
      by_cases e : i = p
      · subst e; rw [upd_same, put_at]
      · rw [upd_ne (v.ne (by omega) (by omega) (by omega)), put_ne e]; exact v.o4 i hi, v.dcU (by omega), v.inj⟩
theorem Lv.same (v : Lv K H a n cel low tk seen looks dx L pk ta) (s : Same H H') : Lv K H' a n cel low tk seen looks dx L pk ta :=
  ⟨s _ _ v.oa, s _ _ v.o0, s _ _ v.o1, s _ _ v.o2, s _ _ v.o3, fun i hi => s _ _ (v.o4 i hi), v.od.same s, v.inj⟩
theorem Inj.put {m : Nat} (h : Inj m L) {j : Nat} (hq : ∀ i, i < m → L i ≠ q) : Inj m (K07.put L j q) := fun x y hx hy e => by
  by_cases ex : x = j
  · by_cases ey : y = j
    · rw [ex, ey]
    · rw [ex, put_at, put_ne ey] at e
      exact absurd e.symm (hq y hy)
  · by_cases ey : y = j
    · rw [ey, put_at, put_ne ex] at e
      exact absurd e (hq x hx)
    · rw [put_ne ex, put_ne ey] at e
      exact h x y hx hy e
theorem Lv.setSeen (v : Lv K H a n cel low tk seen looks dx L pk ta) (hp : p < n) (hq : H q = none) :
    Lv K (upd (upd H q (.lst [])) (L 3) (.lst (vR n (put (fun i => L (4 + i)) p q)))) a n cel low tk (put seen p []) looks dx (put L (4 + p) q) pk ta := by
  have w := v.same (same_new (o := .lst []) hq)
  have hn : ∀ i, i < 4 + n → L i ≠ q := fun i hi e => by
    obtain ⟨xs, z⟩ := v.lst hi
    rw [e, hq] at z
    cases z
  have l : ∀ i, i < 4 → put L (4 + p) q i = L i := fun i hi => put_ne (by omega)
  have ef : fields n (put L (4 + p) q) pk = fields n L pk := by
    unfold fields
    rw [l 0 (by omega), l 1 (by omega), l 2 (by omega), l 3 (by omega)]
  have e3 : (fun i => put L (4 + p) q (4 + i)) = put (fun i => L (4 + i)) p q := by
    funext i
    by_cases e : i = p
    · subst e; rw [put_at, put_at]
    · rw [put_ne (by omega), put_ne e]
  refine ⟨by rw [ef, upd_ne (w.nea (by omega))]; exact w.oa, by rw [l 0 (by omega), upd_ne (w.ne (by omega) (by omega) (by omega))]; exact w.o0, by rw [l 1 (by omega), upd_ne (w.ne (by omega) (by omega) (by omega))]; exact w.o1, by rw [l 2 (by omega), upd_ne (w.ne (by omega) (by omega) (by omega))]; exact w.o2,
    by rw [l 3 (by omega), e3, upd_same], fun i hi => ?_, w.dcU (by omega), v.inj.put hn⟩
  by_cases e : i = p
  · subst e
    rw [put_at, put_at, upd_ne (Ne.symm (hn 3 (by omega))), upd_same]
    rfl
  · rw [put_ne (by omega), put_ne e, upd_ne (w.ne (by omega) (by omega) (by omega))]
    exact w.o4 i hi
theorem Lv.setLook (v : Lv K H a n cel low tk seen looks dx L pk ta) {t : Addr} {S : List Nat} (ht : H t = some (.tup (nt S))) (hp : p ∉ looks.map Prod.fst) :
    Lv K (upd H pk (.dK (putK (kvs looks ta) (ki (p : Int)) (.ref t)))) a n cel low tk seen (looks ++ [(p, S)]) dx L pk (put ta p t) := by
  rw [putK_kvs (S := S) hp]
  have n1 : ∀ k, k < 4 + n → L k ≠ pk := fun k hk => Ne.symm (v.nek hk)
  exact ⟨by rw [upd_ne (ne_kind v.oa v.od.at_ (by intro z; cases z))]; exact v.oa, by rw [upd_ne (n1 _ (by omega))]; exact v.o0, by rw [upd_ne (n1 _ (by omega))]; exact v.o1, by rw [upd_ne (n1 _ (by omega))]; exact v.o2, by rw [upd_ne (n1 _ (by omega))]; exact v.o3,
    fun i hi => by rw [upd_ne (n1 _ (by omega))]; exact v.o4 i hi, v.od.add hp ht (ne_kind ht v.od.at_ (by intro z; cases z)), v.inj⟩
end
section
variable {K : Frag} {H H' : Hp} {a st cs lk : Addr} {n p k : Nat} {s : Lev} {F G : Addr → Prop}
theorem LvO.mu (h : LvO K H a n s F) : Mu F H := fun b hb => by
  obtain ⟨dx, L, pk, ta, v, hF⟩ := h
  rcases (hF b).mp hb with rfl | ⟨i, hi, rfl⟩
  · exact ⟨_, v.od.at_, trivial⟩
  · obtain ⟨xs, e⟩ := v.lst hi
    exact ⟨_, e, trivial⟩
theorem LvO.same (h : LvO K H a n s F) (e : Same H H') : LvO K H' a n s F := by
  obtain ⟨dx, L, pk, ta, v, hF⟩ := h
  exact ⟨dx, L, pk, ta, v.same e, hF⟩
theorem LvO.kp (h : LvO K H a n s F) (e : Kp G H H') (nf : ∀ b, F b → ¬ G b) (m : Mu G H) : LvO K H' a n s F := by
  obtain ⟨dx, L, pk, ta, v, hF⟩ := h
  have g : ∀ k, k < 4 + n → ¬ G (L k) := fun k hk => nf _ ((hF _).mpr (.inr ⟨k, hk, rfl⟩))
  exact ⟨dx, L, pk, ta, ⟨e.fix m v.oa fun z => z, e _ _ (g _ (by omega)) v.o0, e _ _ (g _ (by omega)) v.o1, e _ _ (g _ (by omega)) v.o2, e _ _ (g _ (by omega)) v.o3, fun i hi => e _ _ (g _ (by omega)) (v.o4 i hi), v.od.kp e (nf _ ((hF _).mpr (.inl rfl))) m, v.inj⟩, hF⟩
/-! ### the law's state -/
theorem Ls.lst {low : Nat → Int} {tk : Nat → Nat} {seen : Nat → List Nat} {L : Nat → Addr} (v : Ls H n low tk seen L) (hk : k < 1 + n + n) : ∃ xs, H (L k) = some (.lst xs) := by
  by_cases h0 : k = 0
  · subst h0; exact ⟨_, v.o0⟩
  · by_cases h1 : k < 1 + n
    · have := v.o1 (k - 1) (by omega)
      rw [show 1 + (k - 1) = k by omega] at this
      exact ⟨_, this⟩
    · have := v.o2 (k - 1 - n) (by omega)
      rw [show 1 + n + (k - 1 - n) = k by omega] at this
      exact ⟨_, this⟩
theorem LsO.mu (h : LsO H st n s F) : Mu F H := fun b hb => by
  obtain ⟨L, _, v, hF⟩ := h
  obtain ⟨i, hi, rfl⟩ := (hF b).mp hb
  obtain ⟨xs, e⟩ := v.lst hi
  exact ⟨_, e, trivial⟩
theorem LsO.kp (h : LsO H st n s F) (e : Kp G H H') (nf : ∀ b, F b → ¬ G b) : LsO H' st n s F := by
  obtain ⟨L, h0, v, hF⟩ := h
  have g : ∀ k, k < 1 + n + n → ¬ G (L k) := fun k hk => nf _ ((hF _).mpr ⟨k, hk, rfl⟩)
  exact ⟨L, h0, ⟨e _ _ (g _ (by omega)) v.o0, fun i hi => e _ _ (g _ (by omega)) (v.o1 i hi), fun i hi => e _ _ (g _ (by omega)) (v.o2 i hi), v.inj⟩, hF⟩
theorem LsO.same (h : LsO H st n s F) (e : Same H H') : LsO H' st n s F := h.kp (G := fun _ => False) (kp_same e) fun _ _ z => z
theorem Mu.some (h : Mu F H) {b : Addr} (hb : F b) (e : H b = none) : False := by
  obtain ⟨o, z, _⟩ := h b hb
  rw [e] at z
  cases z
end
section
variable {H : Hp} {n p : Nat} {low : Nat → Int} {tk : Nat → Nat} {seen : Nat → List Nat} {L : Nat → Addr} {q : Addr}
theorem Ls.ne (v : Ls H n low tk seen L) {i j : Nat} (hi : i < 1 + n + n) (hj : j < 1 + n + n) (h : i ≠ j) : L i ≠ L j := fun e => h (v.inj i j hi hj e)
theorem Ls.setHeld (v : Ls H n low tk seen L) (hp : p < n) {x : Int} {t : Nat} : Ls (upd H (L (1 + p)) (.lst [.int x, .int (t : Int), .ref (L (1 + n + p))])) n (put low p x) (put tk p t) seen L :=
  ⟨by rw [upd_ne (v.ne (by omega) (by omega) (by omega))]; exact v.o0, fun i hi => by
    by_cases e : i = p
    · subst e; rw [upd_same, put_at, put_at]
    · rw [upd_ne (v.ne (by omega) (by omega) (by omega)), put_ne e, put_ne e]; exact v.o1 i hi,
   fun i hi => by rw [upd_ne (v.ne (by omega) (by omega) (by omega))]; exact v.o2 i hi, v.inj⟩
theorem Ls.app (v : Ls H n low tk seen L) (hp : p < n) {S : List Nat} : Ls (upd H (L (1 + n + p)) (.lst (nt S))) n low tk (put seen p S) L :=
  ⟨by rw [upd_ne (v.ne (by omega) (by omega) (by omega))]; exact v.o0, fun i hi => by rw [upd_ne (v.ne (by omega) (by omega) (by omega))]; exact v.o1 i hi, fun i hi => by
    by_cases e : i = p
    · subst e; rw [upd_same, put_at]
    · rw [upd_ne (v.ne (by omega) (by omega) (by omega)), put_ne e]; exact v.o2 i hi, v.inj⟩
theorem Ls.same {H' : Hp} (v : Ls H n low tk seen L) (e : Same H H') : Ls H' n low tk seen L := ⟨e _ _ v.o0, fun i hi => e _ _ (v.o1 i hi), fun i hi => e _ _ (v.o2 i hi), v.inj⟩
theorem Ls.setSeen (v : Ls H n low tk seen L) (hp : p < n) (hq : H q = none) :
    Ls (upd (upd H q (.lst [])) (L (1 + p)) (.lst [.int (low p), .int (tk p : Int), .ref q])) n low tk (put seen p []) (put L (1 + n + p) q) := by
  have w := v.same (same_new (o := .lst []) hq)
  have hn : ∀ i, i < 1 + n + n → L i ≠ q := fun i hi e => by
    obtain ⟨xs, z⟩ := v.lst hi
    rw [e, hq] at z
    cases z
  have l : ∀ i, i < 1 + n → put L (1 + n + p) q i = L i := fun i hi => put_ne (by omega)
  refine ⟨?_, fun i hi => ?_, fun i hi => ?_, v.inj.put hn⟩
  · rw [l 0 (by omega), upd_ne (w.ne (by omega) (by omega) (by omega)), w.o0]
    congr 2
    unfold vR
    refine List.map_congr_left fun i hi => ?_
    rw [List.mem_range] at hi
    show V.ref (L (1 + i)) = V.ref (put L (1 + n + p) q (1 + i))
    rw [l _ (by omega)]
  · rw [l (1 + i) (by omega)]
    by_cases e : i = p
    · subst e
      rw [upd_same, put_at]
    · rw [upd_ne (w.ne (by omega) (by omega) (by omega)), put_ne (by omega)]
      exact w.o1 i hi
  · by_cases e : i = p
    · subst e
      rw [put_at, put_at, upd_ne (Ne.symm (hn _ (by omega))), upd_same]
      rfl
    · rw [put_ne (by omega), put_ne e, upd_ne (w.ne (by omega) (by omega) (by omega))]
      exact w.o2 i hi
end
end K07
end
section
set_option Elab.async false
set_option linter.all false
set_option maxRecDepth 100000
set_option maxHeartbeats 2000000
/-! k07: pairs (len(look), look) -/
namespace K07
open PySem PySem.Spec PyProof.Rows L2 Nw NwS
abbrev pairD (S : List Nat) : PyData := .tuple [.int (S.length : Int), natsD S]
def keyN (S : List Nat) : NK := .tup [.num (S.length : Int), .tup (S.map fun (z : Nat) => NestedKey.num (z : Int))]
theorem datas_nums {S : List Nat} : NestedKey.datas (S.map fun (z : Nat) => NestedKey.num (z : Int)) = S.map fun (z : Nat) => PyData.int (z : Int) := by
  induction S with
  | nil => simp [NestedKey.datas]
  | cons a S ih => simp [NestedKey.datas, NestedKey.data, ih]
theorem keyN_data {S : List Nat} : (keyN S).data = pairD S := by
  unfold keyN
  simp only [NestedKey.data, NestedKey.datas, datas_nums]
theorem depth_nums {S : List Nat} : NestedKey.depthAll (S.map fun (z : Nat) => NestedKey.num (z : Int)) = 0 := by
  induction S with
  | nil => simp [NestedKey.depthAll]
  | cons a S ih => simp [NestedKey.depthAll, NestedKey.depth, ih]
theorem keyN_depth {S : List Nat} : (keyN S).depth ≤ 8 := by
  unfold keyN
  simp only [NestedKey.depth, NestedKey.depthAll, depth_nums]
  decide
theorem calm_nums {S : List Nat} : calms (S.map fun (z : Nat) => NestedKey.num (z : Int)) = true := by
  induction S with
  | nil => simp [calms]
  | cons a S ih => simp [calms, calm, ih]
theorem keyN_calm {S : List Nat} : calm (keyN S) = true := by
  unfold keyN
  simp [calm, calms, calm_nums]
theorem keyN_inj {S T : List Nat} (h : keyN S = keyN T) : S = T := by
  have h1 := congrArg NestedKey.data h
  rw [keyN_data, keyN_data] at h1
  injection h1 with h1
  injection h1 with _ h1
  injection h1 with h1 _
  injection h1 with h1
  have inj : ∀ {S T : List Nat}, (S.map fun (z : Nat) => PyData.int (z : Int)) = (T.map fun (z : Nat) => PyData.int (z : Int)) → S = T := by
    intro S
    induction S with
    | nil => intro T h; cases T with
      | nil => rfl
      | cons _ _ => cases h
    | cons a S ih =>
      intro T h
      cases T with
      | nil => cases h
      | cons b T =>
        injection h with h1 h2
        injection h1 with h1
        rw [ih h2, show a = b by omega]
  exact inj h1
theorem dp_pair {K : Frag} {H : Hp} {b u : Addr} {S : List Nat} (hb : H b = some (.tup [.int (S.length : Int), .ref u])) (hu : H u = some (.tup (nt S))) : Dp K H (.ref b) (pairD S) := .tup (.inl (.inl hb)) (.cons (.int _) (.cons (dp_nats hu) .nil))
theorem kv_pair {K : Frag} {H : Hp} {b u : Addr} {S : List Nat} (hb : H b = some (.tup [.int (S.length : Int), .ref u])) (hu : H u = some (.tup (nt S))) : KV K H b (keyN S) := ⟨by rw [keyN_data]; exact dp_pair hb hu, keyN_depth, keyN_calm⟩
theorem lay_pair {S : List Nat} : lay 2 (pairD S) := lay_tup fun d hd => by
  rcases List.mem_cons.mp hd with rfl | hd
  · exact lay_int.le (by decide)
  · rcases List.mem_cons.mp hd with rfl | hd
    · exact lay_nats
    · cases hd
theorem eqv_ints {S T : List Nat} : PyData.eqvAll (S.map fun (z : Nat) => PyData.int (z : Int)) (T.map fun (z : Nat) => PyData.int (z : Int)) = decide (S = T) := by
  induction S generalizing T with
  | nil => cases T with
    | nil => simp [PyData.eqvAll]
    | cons b T => simp [PyData.eqvAll]
  | cons a S ih =>
    cases T with
    | nil => simp [PyData.eqvAll]
    | cons b T =>
      simp only [List.map_cons, PyData.eqvAll, PyData.eqv, ih]
      by_cases e : a = b
      · subst e; simp
      · have : ((a : Int) == (b : Int)) = false := by simpa using fun q : (a : Int) = (b : Int) => e (by omega)
        simp [this, e]
theorem eqv_pair {S T : List Nat} : PyData.eqv (pairD S) (pairD T) = decide (S = T) := by
  simp only [PyData.eqv, PyData.eqvAll, eqv_ints, Bool.and_true]
  by_cases e : S = T
  · subst e; simp
  · simp [e]
theorem alike_ints {S T : List Nat} : PySem.W.alikeAll (S.map fun (z : Nat) => PyData.int (z : Int)) (T.map fun (z : Nat) => PyData.int (z : Int)) = true := by
  induction S generalizing T with
  | nil => simp [PySem.W.alikeAll]
  | cons a S ih =>
    cases T with
    | nil => simp [PySem.W.alikeAll]
    | cons b T => simp [PySem.W.alikeAll, PySem.W.alike, ih]
theorem alike_pair {S T : List Nat} : PySem.W.alike (pairD S) (pairD T) = true := by
  simp [PySem.W.alike, PySem.W.alikeAll, alike_ints]
theorem pairs_alike {ds : List PyData} (h : ∀ d ∈ ds, ∃ S, d = pairD S) : PySem.W.AllAlike ds := fun d hd e he => by
  obtain ⟨S, rfl⟩ := h d hd
  obtain ⟨T, rfl⟩ := h e he
  exact alike_pair
theorem pairs_sortable {ds : List PyData} (h : ∀ d ∈ ds, ∃ S, d = pairD S) : PySem.W.Sortable ds := .inl fun d hd => by
  obtain ⟨S, rfl⟩ := h d hd
  exact ⟨_, _, rfl⟩
/-- sorted pairs of unlike looks: the cuts -/
theorem srt_cuts {n : Nat} {s : Lev} {α : Type} (g : Good n s) (M : List α) (f : α → PyData) (S : α → List Nat) (hf : ∀ x ∈ M, f x = pairD (S x)) (nd : (M.map S).Nodup) (hm : ∀ T, T ∈ M.map S ↔ ∃ p, (p, T) ∈ s.looks) : (srt f M).map S = cuts n s := by
  have pm := srt_perm f M
  refine g.cuts_eq ?_ ((pm.map S).nodup_iff.mpr nd) fun T => ((pm.map S).mem_iff).trans (hm T)
  rw [List.pairwise_map]
  refine List.Pairwise.imp_of_mem (fun {a b} ha hb h => ?_) (srt_pw f M)
  rw [hf a (pm.mem_iff.mp ha), hf b (pm.mem_iff.mp hb)] at h
  have := head_le h
  omega
theorem blk_app : ∀ {l : List (List Nat)} {seen S : List Nat}, blk seen (l ++ [S]) = blk seen l ++ [S.filter fun x => !decide (x ∈ lastS seen l)]
  | [], _, _ => rfl
  | T :: r, seen, S => by
    show T.filter _ :: blk T (r ++ [S]) = _
    rw [blk_app]
    rfl
theorem lastS_app : ∀ {l : List (List Nat)} {seen S : List Nat}, lastS seen (l ++ [S]) = S
  | [], _, _ => rfl
  | T :: r, seen, S => by
    show lastS T (r ++ [S]) = S
    exact lastS_app
theorem take_app {α : Type} {l : List α} {i : Nat} {x : α} (h : l[i]? = some x) : l.take (i + 1) = l.take i ++ [x] := by rw [List.take_add_one, h]; rfl
/-- one for each place -/
theorem pick {α : Type} {P : Nat → α → Prop} : ∀ {n : Nat}, (∀ i, i < n → ∃ z, P i z) → ∃ zs : List α, zs.length = n ∧ ∀ (i : Nat) z, zs[i]? = some z → P i z
  | 0, _ => ⟨[], rfl, fun i z h => by simp at h⟩
  | n + 1, h => by
    obtain ⟨zs, hl, hz⟩ := pick (n := n) fun i hi => h i (by omega)
    obtain ⟨z, hz'⟩ := h n (by omega)
    refine ⟨zs ++ [z], by rw [List.length_append, hl]; rfl, fun i y hy => ?_⟩
    by_cases c : i < n
    · rw [List.getElem?_append_left (by omega)] at hy
      exact hz i y hy
    · have e : i = n := by
        have := (List.getElem?_eq_some_iff.mp hy).1
        rw [List.length_append, hl] at this
        simp at this
        omega
      subst e
      rw [List.getElem?_append_right (by omega), hl, Nat.sub_self] at hy
      cases hy
      exact hz'
end K07
end
section
set_option Elab.async false
set_option linter.all false
set_option maxRecDepth 100000
set_option maxHeartbeats 4000000
/-! k07: the readings of the class -/
namespace K07
open PySem PySem.Spec PyProof.Rows L2 Nw
local macro_rules | `(tactic| walk_at "rd") => `(tactic| repeat' (first
  | with_reducible refine r_seq ?_ | with_reducible refine r_asg ?_ | with_reducible refine r_ret ?_ | with_reducible refine r_retN ?_ | with_reducible refine r_drop ?_ | with_reducible refine r_next ?_ | with_reducible refine r_brk ?_ | with_reducible refine r_cont ?_
  | ((with_reducible refine' r_var ?ev ?_); (case ev => rfl)) | with_reducible refine r_c ?_ | with_reducible refine r_op ?_ | with_reducible refine r_un ?_ | with_reducible refine r_ifS ?_ | with_reducible refine r_if ?_
  | with_reducible refine r_T ?_ | with_reducible refine r_isB ?_ | with_reducible refine r_and ?_ | with_reducible refine r_or ?_ | with_reducible refine r_not ?_ | with_reducible refine r_andV ?_ | with_reducible refine r_orV ?_ | with_reducible refine r_notV ?_
  | with_reducible refine r_nil ?_ | with_reducible refine r_cons ?_ | with_reducible refine r_lst ?_ | with_reducible refine r_tup ?_ | with_reducible refine r_ca ?_ | with_reducible refine r_cw ?_ | with_reducible refine r_cb ?_
  | with_reducible refine r_add ?_ | with_reducible refine r_sub ?_ | with_reducible refine r_neg ?_ | with_reducible refine r_lt ?_ | with_reducible refine r_le ?_ | with_reducible refine r_gt ?_ | with_reducible refine r_ge ?_ | with_reducible refine r_eqI ?_ | with_reducible refine r_neI ?_ | with_reducible refine r_eqB ?_ | with_reducible refine r_neB ?_
  | with_reducible refine r_isN ?_ | with_reducible refine r_notN ?_ | with_reducible refine r_min ?_ | with_reducible refine r_max ?_ | with_reducible refine r_int ?_ | with_reducible refine r_gcd ?_ | with_reducible refine r_for ?_ | with_reducible refine r_rg1 ?_ | with_reducible refine r_rg2 ?_ | with_reducible refine r_wlI ?_ | with_reducible refine r_wtI ?_ | with_reducible refine r_gN ?_ | with_reducible refine r_asgS ?_ | with_reducible refine r_bm0 ?_ | with_reducible refine r_bm ?_ | with_reducible refine r_lc ?_ | with_reducible refine r_gf ?_ | with_reducible refine r_sf ?_ | with_reducible refine r_ma ?_ | with_reducible refine r_mw ?_ | with_reducible refine r_pa ?_ | with_reducible refine r_ka ?_ | with_reducible refine r_kw ?_ | with_reducible refine r_chain ?_ | with_reducible refine r_ch ?_ | with_reducible refine r_dget ?_ | with_reducible refine r_din ?_ | with_reducible refine r_dnotin ?_ | with_reducible refine r_dput ?_ | with_reducible refine r_augS ?_ | with_reducible refine r_wsqI ?_ | with_reducible refine r_keysI ?_
  | with_reducible refine br_t ?_ | with_reducible refine br_f ?_ | with_reducible refine br_nt ?_ | with_reducible refine br_nf ?_))
local macro_rules | `(tactic| walk_at "rdt") => `(tactic| repeat' (first
  | with_reducible refine r_seq ?_ | with_reducible refine r_retN ?_ | with_reducible refine r_drop ?_ | with_reducible refine r_next ?_ | with_reducible refine r_brk ?_ | with_reducible refine r_cont ?_
  | ((with_reducible refine' r_var ?ev ?_); (case ev => rfl)) | with_reducible refine r_c ?_ | with_reducible refine r_op ?_ | with_reducible refine r_un ?_ | with_reducible refine r_ifS ?_ | with_reducible refine r_if ?_
  | with_reducible refine r_T ?_ | with_reducible refine r_isB ?_ | with_reducible refine r_and ?_ | with_reducible refine r_or ?_ | with_reducible refine r_not ?_ | with_reducible refine r_andV ?_ | with_reducible refine r_orV ?_ | with_reducible refine r_notV ?_
  | with_reducible refine r_nil ?_ | with_reducible refine r_cons ?_ | with_reducible refine r_lst ?_ | with_reducible refine r_tup ?_ | with_reducible refine r_ca ?_ | with_reducible refine r_cw ?_ | with_reducible refine r_cb ?_
  | with_reducible refine r_add ?_ | with_reducible refine r_sub ?_ | with_reducible refine r_neg ?_ | with_reducible refine r_lt ?_ | with_reducible refine r_le ?_ | with_reducible refine r_gt ?_ | with_reducible refine r_ge ?_ | with_reducible refine r_eqI ?_ | with_reducible refine r_neI ?_ | with_reducible refine r_eqB ?_ | with_reducible refine r_neB ?_
  | with_reducible refine r_isN ?_ | with_reducible refine r_notN ?_ | with_reducible refine r_min ?_ | with_reducible refine r_max ?_ | with_reducible refine r_int ?_ | with_reducible refine r_gcd ?_ | with_reducible refine r_for ?_ | with_reducible refine r_rg1 ?_ | with_reducible refine r_rg2 ?_ | with_reducible refine r_wlI ?_ | with_reducible refine r_wtI ?_ | with_reducible refine r_gN ?_ | with_reducible refine r_asgS ?_ | with_reducible refine r_bm0 ?_ | with_reducible refine r_bm ?_ | with_reducible refine r_lc ?_ | with_reducible refine r_gf ?_ | with_reducible refine r_sf ?_ | with_reducible refine r_ma ?_ | with_reducible refine r_mw ?_ | with_reducible refine r_pa ?_ | with_reducible refine r_ka ?_ | with_reducible refine r_kw ?_ | with_reducible refine r_chain ?_ | with_reducible refine r_ch ?_ | with_reducible refine r_dget ?_ | with_reducible refine r_din ?_ | with_reducible refine r_dnotin ?_ | with_reducible refine r_dput ?_ | with_reducible refine r_augS ?_ | with_reducible refine r_wsqI ?_ | with_reducible refine r_keysI ?_
  | with_reducible refine br_t ?_ | with_reducible refine br_f ?_ | with_reducible refine br_nt ?_ | with_reducible refine br_nf ?_))
local macro_rules | `(tactic| walk_at "rdq") => `(tactic| repeat' (first | ((with_reducible refine' r_var ?ev ?_); (case ev => rfl)) | with_reducible refine r_c ?_ | with_reducible refine r_T ?_ | with_reducible refine r_isB ?_ | with_reducible refine r_op ?_ | with_reducible refine r_eqI ?_ | with_reducible refine r_not ?_ | with_reducible refine br_t ?_ | with_reducible refine br_f ?_ | with_reducible refine br_nt ?_ | with_reducible refine br_nf ?_ | with_reducible refine r_next ?_))
local macro_rules | `(tactic| walk_at "rdv") => `(tactic| repeat' (first | ((with_reducible refine' r_var ?ev ?_); (case ev => rfl)) | with_reducible refine r_T ?_ | with_reducible refine r_isB ?_))
theorem rd_check_levels {K : PySem.W.Frag} (vs : List V) (H : Hp) (Q : VK) (E : XK) (h : sp_check_levels K vs H Q E) : t_check_levels K E { nx := fun _ H' => Q .non H', rt := Q } (start ["size"] vs) H := by
  obtain ⟨v, rfl, h⟩ := h
  unfold t_check_levels
  walk_at "rd"
  have big : ∀ i : Int, 6 < i → 1 ≤ i → RsSize K H E → sp_check_number K [V.int i, V.int 1, V.str "size"] H (fun _ H1 => (tIfS (tT (tOp nGt (tVar 0) (tC (.int 6)))) (tRaiseE (He.ga K "BadNumber") ps_BadNumber ok_BadNumber (fun cls d _ H => E cls d H) (tCons (tC (.str "size")) tNil)) tNext) { nx := fun _ H' => Q .non H', rt := Q } (start ["size"] [V.int i]) H1) E := fun i h6 h1 hE => by
    refine ⟨_, _, _, rfl, .inl ⟨i, rfl, h1, ?_⟩⟩
    walk_at "rd"
    refine br_d (fun _ => ?_) fun c => absurd h6 c
    refine r_raise ?_
    walk_at "rd"
    exact ⟨⟨_, rfl, by decide⟩, fun d hd => hE H d (Same.refl H) hd⟩
  rcases h with ⟨n, rfl, ⟨h1, h2⟩, q⟩ | ⟨b, hE⟩
  · refine ⟨_, _, _, rfl, .inl ⟨n, rfl, by omega, ?_⟩⟩
    walk_at "rd"
    refine br_d (fun c => absurd c (by omega)) fun _ => ?_
    exact q
  · rcases b with ⟨i, rfl, hi⟩ | hb
    · by_cases c : i < 1
      · exact ⟨_, _, _, rfl, .inr ⟨.inl ⟨i, rfl, c⟩, by decide, fun d hd => hE H d (Same.refl H) hd⟩⟩
      · exact big i (by omega) (by omega) hE
    · exact ⟨_, _, _, rfl, .inr ⟨.inr hb, by decide, fun d hd => hE H d (Same.refl H) hd⟩⟩
theorem known_test {K : Frag} {n : Nat} {v : V} {H : Hp} {σ : L2.St} {j : Nat} {te : TE} {QB : Bool → Hp → Prop} (hv : σ[j]? = some (some v)) (ht : ∀ Q, Q (.int (n : Int)) H → te σ H Q) (h : (∃ p : Nat, p < n ∧ v = .int p ∧ QB false H) ∨ (badP n v ∧ QB true H)) :
    tOr (tNot (tT (tCa (sp_is_int K) E0 (tCons (tVar j) tNil)))) (tNot (tT (tChain nLe nLt (tC (.int 0)) (tVar j) te))) σ H QB := by
  refine r_or (r_not (r_T (r_ca (r_cons (r_var hv (r_nil ?_))))))
  rcases h with ⟨p, hp, rfl, q⟩ | ⟨⟨i, rfl, hi⟩ | hb, q⟩
  · refine int_of (b := true) rfl (r_isB (br_nt (r_not (r_T (r_chain (r_c (r_var hv (r_le (r_ch ?_)))))))))
    refine br_d (fun _ => ?_) fun c => absurd c (by omega)
    refine ht _ (r_lt (r_isB ?_))
    rw [decide_eq_true (show (p : Int) < n by omega)]
    exact q
  · refine int_of (b := true) rfl (r_isB (br_nt (r_not (r_T (r_chain (r_c (r_var hv (r_le (r_ch ?_)))))))))
    refine br_d (fun c => ?_) fun _ => r_isB q
    refine ht _ (r_lt (r_isB ?_))
    rw [decide_eq_false (show ¬ i < (n : Int) by omega)]
    exact q
  · exact int_of (b := false) hb (r_isB (br_nf q))
theorem bad_ok {n : Nat} {v : V} (h : badP n v) : ok_BadName [v] := by
  rcases h with ⟨i, rfl, _⟩ | h
  · exact ⟨_, true, rfl, rfl⟩
  · exact ⟨_, _, rfl, h⟩
theorem rd_Levels__known {K : PySem.W.Frag} (vs : List V) (H : Hp) (Q : VK) (E : XK) (h : sp_Levels__known K vs H Q E) : t_Levels__known K E { nx := fun _ H' => Q .non H', rt := Q } (start ["self", "name"] vs) H := by
  obtain ⟨a, v, n, s, F, rfl, ⟨dx, L, pk, ta, v0, hF⟩, h⟩ := h
  unfold t_Levels__known
  refine r_ifS (known_test (n := n) rfl (fun Q' q => r_gf ?_) ?_)
  · walk_at "rd"
    exact r_gfI v0.oa rfl q
  · rcases h with ⟨p, hp, rfl, q⟩ | ⟨hb, hE⟩
    · exact .inl ⟨p, hp, rfl, br_f q⟩
    · refine .inr ⟨hb, br_t (r_raise ?_)⟩
      walk_at "rd"
      exact ⟨bad_ok hb, fun d hd => hE H d (Same.refl H) hd⟩
theorem known_ {K : Frag} {H : Hp} {Q : VK} {E : XK} {a : Addr} {v : V} {n : Nat} {s : Lev} {F : Addr → Prop} (h : LvO K H a n s F) (q : (∃ p : Nat, p < n ∧ v = .int p ∧ Q .non H) ∨ (badP n v ∧ RsName K v H E)) : sp_Levels__known K [.ref a, v] H Q E := ⟨a, v, n, s, F, rfl, h, q⟩
theorem rd_Levels_level {K : PySem.W.Frag} (vs : List V) (H : Hp) (Q : VK) (E : XK) (h : sp_Levels_level K vs H Q E) : t_Levels_level K E { nx := fun _ H' => Q .non H', rt := Q } (start ["self", "name"] vs) H := by
  obtain ⟨a, v, n, s, F, rfl, o, h⟩ := h
  obtain ⟨dx, L, pk, ta, v0, hF⟩ := id o
  unfold t_Levels_level
  walk_at "rd"
  refine r_mtI v0.oa rfl ?_
  walk_at "rd"
  refine known_ o ?_
  rcases h with ⟨p, hp, rfl, q⟩ | ⟨hb, hE⟩
  · refine .inl ⟨p, hp, rfl, ?_⟩
    walk_at "rd"
    refine r_gfI v0.oa rfl ?_
    walk_at "rd"
    exact r_ixL (SqL.of v0.o1) (vI_at hp) q
  · exact .inr ⟨hb, hE⟩
theorem rd_Levels_taken {K : PySem.W.Frag} (vs : List V) (H : Hp) (Q : VK) (E : XK) (h : sp_Levels_taken K vs H Q E) : t_Levels_taken K E { nx := fun _ H' => Q .non H', rt := Q } (start ["self", "name"] vs) H := by
  obtain ⟨a, v, n, s, F, rfl, o, h⟩ := h
  obtain ⟨dx, L, pk, ta, v0, hF⟩ := id o
  unfold t_Levels_taken
  walk_at "rd"
  refine r_mtI v0.oa rfl ?_
  walk_at "rd"
  refine known_ o ?_
  rcases h with ⟨p, hp, rfl, q⟩ | ⟨hb, hE⟩
  · refine .inl ⟨p, hp, rfl, ?_⟩
    walk_at "rd"
    refine r_gfI v0.oa rfl ?_
    walk_at "rd"
    exact r_ixL (SqL.of v0.o2) (vI_at hp) q
  · exact .inr ⟨hb, hE⟩
theorem r_tuple {K : Frag} {H : Hp} {Q : VK} {p : Addr} {xs : List V} (h : H p = some (.lst xs)) (q : ∀ t, H t = none → Q (.ref t) (upd H t (.tup xs))) : rcTuple K [.ref p] H Q := ⟨p, xs, rfl, .inl ⟨SqL.of h, q⟩⟩
theorem nt_filter {n : Nat} {P : Nat → Bool} : ((List.range n).filter P).map (fun (i : Nat) => V.int (0 + (i : Int))) = nt ((List.range n).filter P) := List.map_congr_left fun i _ => by rw [Int.zero_add]
theorem rd_Levels_wrote {K : PySem.W.Frag} (vs : List V) (H : Hp) (Q : VK) (E : XK) (h : sp_Levels_wrote K vs H Q E) : t_Levels_wrote K { nx := fun _ H' => Q .non H', rt := Q } (start ["self", "name"] vs) H := by
  obtain ⟨a, n, s, F, rfl, ⟨dx, L, pk, ta, v0, hF⟩, o, q⟩ := h
  unfold t_Levels_wrote
  have h6 := o.2
  walk_at "rd"
  refine r_gfI v0.oa rfl ?_
  walk_at "rd"
  refine r_rgN (by omega) ?_
  refine lc_rngF (fun p => decide (0 < s.tk p)) (fun i => .int (0 + (i : Int))) (by omega) (fun _ => rfl) (fun i H' QB hi s1 q1 => ?_) (fun i H' Q' hi _ s1 q1 => ?_) fun D H' hD s1 e1 => ?_
  · walk_at "rd"
    refine r_gfI (v0.same s1).oa rfl ?_
    walk_at "rd"
    refine r_ixL (SqL.of (v0.same s1).o2) (by rw [Int.zero_add]; exact vI_at hi) ?_
    walk_at "rd"
    have := q1 H' (Same.refl _)
    rwa [show decide ((0 : Int) < (s.tk i : Int)) = decide (0 < s.tk i) by simp]
  · walk_at "rd"
    exact q1 H' (Same.refl _)
  · refine r_tuple e1 fun t ht => ?_
    refine q t _ (Same.new s1 ht) ?_
    rw [upd_same, nt_filter]
    rfl
theorem rd_Levels_gone {K : PySem.W.Frag} (vs : List V) (H : Hp) (Q : VK) (E : XK) (h : sp_Levels_gone K vs H Q E) : t_Levels_gone K { nx := fun _ H' => Q .non H', rt := Q } (start ["self", "name"] vs) H := by
  obtain ⟨a, n, s, F, rfl, ⟨dx, L, pk, ta, v0, hF⟩, o, q⟩ := h
  unfold t_Levels_gone
  have h6 := o.2
  walk_at "rd"
  refine r_gfI v0.oa rfl ?_
  walk_at "rd"
  refine r_rgN (by omega) ?_
  refine lc_rngF (fun p => decide (p ∈ s.keys)) (fun i => .int (0 + (i : Int))) (by omega) (fun _ => rfl) (fun i H' QB hi s1 q1 => ?_) (fun i H' Q' hi _ s1 q1 => ?_) fun D H' hD s1 e1 => ?_
  · walk_at "rd"
    refine r_gfI (v0.same s1).oa rfl ?_
    walk_at "rd"
    rw [Int.zero_add]
    refine r_diI (kvs := kvs s.looks ta) (.inl (v0.same s1).od.at_) ?_
    walk_at "rd"
    have := q1 H' (Same.refl _)
    have e : (if true = true then (valV (kvs s.looks ta) (ki (i : Int))).isSome else !(valV (kvs s.looks ta) (ki (i : Int))).isSome) = decide (i ∈ s.keys) := by
      rw [if_pos rfl, valV_kvs]
      by_cases c : i ∈ s.looks.map Prod.fst
      · rw [if_pos c, decide_eq_true (show i ∈ s.keys from c)]; rfl
      · rw [if_neg c, decide_eq_false (show i ∉ s.keys from c)]; rfl
    rw [e]
    exact this
  · walk_at "rd"
    exact q1 H' (Same.refl _)
  · refine r_tuple e1 fun t ht => ?_
    refine q t _ (Same.new s1 ht) ?_
    rw [upd_same, nt_filter]
    rfl
end K07
end
section
set_option Elab.async false
set_option linter.all false
set_option maxRecDepth 100000
set_option maxHeartbeats 4000000
/-! k07: the steps -/
namespace K07
open PySem PySem.Spec PyProof.Rows L2 Nw
local macro_rules | `(tactic| walk_at "rd") => `(tactic| repeat' (first
  | with_reducible refine r_seq ?_ | with_reducible refine r_asg ?_ | with_reducible refine r_ret ?_ | with_reducible refine r_retN ?_ | with_reducible refine r_drop ?_ | with_reducible refine r_next ?_ | with_reducible refine r_brk ?_ | with_reducible refine r_cont ?_
  | ((with_reducible refine' r_var ?ev ?_); (case ev => rfl)) | with_reducible refine r_c ?_ | with_reducible refine r_op ?_ | with_reducible refine r_un ?_ | with_reducible refine r_ifS ?_ | with_reducible refine r_if ?_
  | with_reducible refine r_T ?_ | with_reducible refine r_isB ?_ | with_reducible refine r_and ?_ | with_reducible refine r_or ?_ | with_reducible refine r_not ?_ | with_reducible refine r_andV ?_ | with_reducible refine r_orV ?_ | with_reducible refine r_notV ?_
  | with_reducible refine r_nil ?_ | with_reducible refine r_cons ?_ | with_reducible refine r_lst ?_ | with_reducible refine r_tup ?_ | with_reducible refine r_ca ?_ | with_reducible refine r_cw ?_ | with_reducible refine r_cb ?_
  | with_reducible refine r_add ?_ | with_reducible refine r_sub ?_ | with_reducible refine r_neg ?_ | with_reducible refine r_lt ?_ | with_reducible refine r_le ?_ | with_reducible refine r_gt ?_ | with_reducible refine r_ge ?_ | with_reducible refine r_eqI ?_ | with_reducible refine r_neI ?_ | with_reducible refine r_eqB ?_ | with_reducible refine r_neB ?_
  | with_reducible refine r_isN ?_ | with_reducible refine r_notN ?_ | with_reducible refine r_min ?_ | with_reducible refine r_max ?_ | with_reducible refine r_int ?_ | with_reducible refine r_gcd ?_ | with_reducible refine r_for ?_ | with_reducible refine r_rg1 ?_ | with_reducible refine r_rg2 ?_ | with_reducible refine r_wlI ?_ | with_reducible refine r_wtI ?_ | with_reducible refine r_gN ?_ | with_reducible refine r_asgS ?_ | with_reducible refine r_bm0 ?_ | with_reducible refine r_bm ?_ | with_reducible refine r_lc ?_ | with_reducible refine r_gf ?_ | with_reducible refine r_sf ?_ | with_reducible refine r_ma ?_ | with_reducible refine r_mw ?_ | with_reducible refine r_pa ?_ | with_reducible refine r_ka ?_ | with_reducible refine r_kw ?_ | with_reducible refine r_chain ?_ | with_reducible refine r_ch ?_ | with_reducible refine r_dget ?_ | with_reducible refine r_din ?_ | with_reducible refine r_dnotin ?_ | with_reducible refine r_dput ?_ | with_reducible refine r_augS ?_ | with_reducible refine r_wsqI ?_ | with_reducible refine r_keysI ?_
  | with_reducible refine br_t ?_ | with_reducible refine br_f ?_ | with_reducible refine br_nt ?_ | with_reducible refine br_nf ?_))
local macro_rules | `(tactic| walk_at "rdt") => `(tactic| repeat' (first
  | with_reducible refine r_seq ?_ | with_reducible refine r_retN ?_ | with_reducible refine r_drop ?_ | with_reducible refine r_next ?_ | with_reducible refine r_brk ?_ | with_reducible refine r_cont ?_
  | ((with_reducible refine' r_var ?ev ?_); (case ev => rfl)) | with_reducible refine r_c ?_ | with_reducible refine r_op ?_ | with_reducible refine r_un ?_ | with_reducible refine r_ifS ?_ | with_reducible refine r_if ?_
  | with_reducible refine r_T ?_ | with_reducible refine r_isB ?_ | with_reducible refine r_and ?_ | with_reducible refine r_or ?_ | with_reducible refine r_not ?_ | with_reducible refine r_andV ?_ | with_reducible refine r_orV ?_ | with_reducible refine r_notV ?_
  | with_reducible refine r_nil ?_ | with_reducible refine r_cons ?_ | with_reducible refine r_lst ?_ | with_reducible refine r_tup ?_ | with_reducible refine r_ca ?_ | with_reducible refine r_cw ?_ | with_reducible refine r_cb ?_
  | with_reducible refine r_add ?_ | with_reducible refine r_sub ?_ | with_reducible refine r_neg ?_ | with_reducible refine r_lt ?_ | with_reducible refine r_le ?_ | with_reducible refine r_gt ?_ | with_reducible refine r_ge ?_ | with_reducible refine r_eqI ?_ | with_reducible refine r_neI ?_ | with_reducible refine r_eqB ?_ | with_reducible refine r_neB ?_
  | with_reducible refine r_isN ?_ | with_reducible refine r_notN ?_ | with_reducible refine r_min ?_ | with_reducible refine r_max ?_ | with_reducible refine r_int ?_ | with_reducible refine r_gcd ?_ | with_reducible refine r_for ?_ | with_reducible refine r_rg1 ?_ | with_reducible refine r_rg2 ?_ | with_reducible refine r_wlI ?_ | with_reducible refine r_wtI ?_ | with_reducible refine r_gN ?_ | with_reducible refine r_asgS ?_ | with_reducible refine r_bm0 ?_ | with_reducible refine r_bm ?_ | with_reducible refine r_lc ?_ | with_reducible refine r_gf ?_ | with_reducible refine r_sf ?_ | with_reducible refine r_ma ?_ | with_reducible refine r_mw ?_ | with_reducible refine r_pa ?_ | with_reducible refine r_ka ?_ | with_reducible refine r_kw ?_ | with_reducible refine r_chain ?_ | with_reducible refine r_ch ?_ | with_reducible refine r_dget ?_ | with_reducible refine r_din ?_ | with_reducible refine r_dnotin ?_ | with_reducible refine r_dput ?_ | with_reducible refine r_augS ?_ | with_reducible refine r_wsqI ?_ | with_reducible refine r_keysI ?_
  | with_reducible refine br_t ?_ | with_reducible refine br_f ?_ | with_reducible refine br_nt ?_ | with_reducible refine br_nf ?_))
local macro_rules | `(tactic| walk_at "rdq") => `(tactic| repeat' (first | ((with_reducible refine' r_var ?ev ?_); (case ev => rfl)) | with_reducible refine r_c ?_ | with_reducible refine r_T ?_ | with_reducible refine r_isB ?_ | with_reducible refine r_op ?_ | with_reducible refine r_eqI ?_ | with_reducible refine r_not ?_ | with_reducible refine br_t ?_ | with_reducible refine br_f ?_ | with_reducible refine br_nt ?_ | with_reducible refine br_nf ?_ | with_reducible refine r_next ?_))
local macro_rules | `(tactic| walk_at "rdv") => `(tactic| repeat' (first | ((with_reducible refine' r_var ?ev ?_); (case ev => rfl)) | with_reducible refine r_T ?_ | with_reducible refine r_isB ?_))
theorem upd_none {H : Hp} {a q : Addr} {o : HO} (h : upd H a o q = none) : H q = none := by
  by_cases e : q = a
  · rw [e, upd_same] at h; cases h
  · rw [upd_ne e] at h; exact h
theorem ats_int {n p : Nat} {s : Lev} : ((s.tk p : Int) % ((n : Int) + 1)) = ((ats n s p : Nat) : Int) := by
  unfold ats
  rw [Int.natCast_emod]
  rfl
theorem ats_le {n p : Nat} {s : Lev} : ats n s p ≤ n := by
  unfold ats
  have := Nat.mod_lt (s.tk p) (show 0 < n + 1 by omega)
  omega
theorem nt_app {l : List Nat} {x : Nat} : nt l ++ [V.int (x : Int)] = nt (l ++ [x]) := by
  simp [nt]
theorem nt_len {l : List Nat} : (nt l).length = l.length := List.length_map _
theorem ix_ok {n p : Nat} (h : p < n) : ixN n (p : Int) = some p := by
  unfold ixN
  rw [if_pos (by omega), if_pos (by omega), Int.toNat_natCast]
theorem key_some {looks : List (Nat × List Nat)} {ta : Nat → Addr} {p : Nat} (h : p ∈ looks.map Prod.fst) : valV (kvs looks ta) (ki (p : Int)) = some (.ref (ta p)) := by rw [valV_kvs, if_pos h]
theorem key_none {looks : List (Nat × List Nat)} {ta : Nat → Addr} {p : Nat} (h : p ∉ looks.map Prod.fst) : valV (kvs looks ta) (ki (p : Int)) = none := by rw [valV_kvs, if_neg h]
theorem kvs_len {looks : List (Nat × List Nat)} {ta : Nat → Addr} : (kvs looks ta).length = looks.length := List.length_map _
theorem step_at0 {n p : Nat} {s : Lev} (h : ats n s p = 0) : step n s p = (st0 s p, none) := if_pos h
theorem step_out {n p : Nat} {s : Lev} (h : ats n s p ≠ 0) (l : leaves n s p) : step n s p = (st2 n s p, some (seen1 n s p)) := by
  unfold step
  rw [if_neg h, if_pos l]
theorem step_on {n p : Nat} {s : Lev} (h : ats n s p ≠ 0) (l : ¬ leaves n s p) : step n s p = (st1 n s p, none) := by
  unfold step
  rw [if_neg h, if_neg l]
theorem r_cut {t u : TS} {D : Ends} {σ : L2.St} {H : Hp} (P : L2.St → Hp → Prop) (h1 : ∀ N : L2.St → Hp → Prop, (∀ σ' H', P σ' H' → N σ' H') → t { D with nx := N } σ H) (h2 : ∀ σ' H', P σ' H' → u D σ' H') : tSeq t u D σ H := h1 _ h2
theorem name_raise {K : Frag} {v : V} {H : Hp} {E : XK} {b : Bool} {j : Nat} {σ : L2.St} {D : Ends} (hv : σ[j]? = some (some v)) (hb : intB v = some b) (hE : RsName K v H E) : tRaiseE (He.ga K "BadName") ps_BadName ok_BadName (fun cls d _ H => E cls d H) (tCons (tVar j) tNil) D σ H :=
  r_raise (r_cons (r_var hv (r_nil ⟨⟨v, b, rfl, hb⟩, fun d hd => hE H d (Same.refl H) hd⟩)))
theorem rd_Levels_step {K : PySem.W.Frag} (vs : List V) (H : Hp) (Q : VK) (E : XK) (h : sp_Levels_step K vs H Q E) : t_Levels_step K E { nx := fun _ H' => Q .non H', rt := Q } (start ["self", "name", "at"] vs) H := by
  obtain ⟨a, v, n, s, F, rfl, o, hok, g, h⟩ := h
  obtain ⟨dx, L, pk, ta, v0, hF⟩ := id o
  have h6 := hok.2
  unfold t_Levels_step
  walk_at "rd"
  refine r_mtI v0.oa rfl ?_
  walk_at "rd"
  refine known_ o ?_
  rcases h with ⟨p, hp, rfl, hk, q⟩ | ⟨hb | ⟨p, hp, rfl, hk⟩, hE⟩
  rotate_left
  · exact .inr ⟨hb, hE⟩
  · refine .inl ⟨p, hp, rfl, ?_⟩
    walk_at "rd"
    refine r_gfI v0.oa rfl ?_
    refine r_diI (.inl v0.od.at_) ?_
    rw [key_some hk]
    walk_at "rd"
    exact br_t (name_raise rfl rfl hE)
  refine .inl ⟨p, hp, rfl, ?_⟩
  walk_at "rd"
  refine r_gfI v0.oa rfl ?_
  refine r_diI (.inl v0.od.at_) ?_
  rw [key_none hk]
  walk_at "rd"
  refine br_f ?_
  walk_at "rd"
  refine r_gfI v0.oa rfl ?_
  walk_at "rd"
  refine r_ixL (SqL.of v0.o2) (vI_at hp) ?_
  walk_at "rd"
  refine r_gfI v0.oa rfl ?_
  walk_at "rd"
  refine r_mod (by omega) ?_
  rw [ats_int]
  walk_at "rd"
  refine r_gfI v0.oa rfl ?_
  walk_at "rd"
  refine r_augI v0.o2 (vI_get hp) ?_
  have e1 : (vI n fun i => (s.tk i : Int)).set p (.int ((s.tk p : Int) + 1)) = vI n fun i => ((tk1 s p i : Nat) : Int) := vT_set (t := s.tk p + 1)
  rw [e1]
  have v1 := v0.setTk (tk' := tk1 s p)
  have k1 : Kp F H (upd H (L 2) (.lst (vI n fun i => ((tk1 s p i : Nat) : Int)))) := kp_upd ((hF _).mpr (.inr ⟨2, by omega, rfl⟩))
  have f1 : ∀ b, upd H (L 2) (.lst (vI n fun i => ((tk1 s p i : Nat) : Int))) b = none → H b = none := fun b e => upd_none e
  generalize upd H (L 2) (.lst (vI n fun i => ((tk1 s p i : Nat) : Int))) = H1 at v1 k1 f1 ⊢
  walk_at "rd"
  refine br_d (fun c0 => ?_) fun c0 => ?_
  · have c0 : ats n s p = 0 := by omega
    walk_at "rd"
    refine r_gfI v1.oa rfl ?_
    walk_at "rd"
    refine r_augI v1.o1 (vI_get hp) ?_
    rw [vI_set]
    have v2 := v1.setLow (low' := put s.low p (s.low p - 1))
    walk_at "rd"
    refine r_gfI v2.oa rfl ?_
    walk_at "rd"
    refine r_ixL (SqL.of v2.o1) (vI_at hp) ?_
    rw [put_at]
    walk_at "rd"
    refine r_gfI v2.oa rfl ?_
    walk_at "rd"
    refine r_setL v2.o0 (by rw [vI_len]; exact ix_ok hp) ?_
    rw [vI_set]
    have v3 := v2.setCel (cel' := put s.low p (s.low p - 1))
    have k3 := (k1.put (o := .lst (vI n (put s.low p (s.low p - 1)))) ((hF (L 1)).mpr (.inr ⟨1, by omega, rfl⟩))).put (o := .lst (vI n (put s.low p (s.low p - 1)))) ((hF (L 0)).mpr (.inr ⟨0, by omega, rfl⟩))
    walk_at "rd"
    refine r_nL (Nat.zero_le _) fun r hr => ?_
    have hrH : H r = none := f1 _ (upd_none (upd_none hr))
    walk_at "rd"
    refine r_gfI (v3.same (same_new hr)).oa rfl ?_
    walk_at "rd"
    refine r_setL (v3.same (same_new hr)).o3 (by rw [vR_len]; exact ix_ok hp) ?_
    rw [vR_set]
    have v4 := v3.setSeen hp hr
    have k4 := (k3.new (o := .lst []) hr).put (o := .lst (vR n (put (fun i => L (4 + i)) p r))) ((hF (L 3)).mpr (.inr ⟨3, by omega, rfl⟩))
    walk_at "rd"
    refine q .non _ (fun b => b = pk ∨ ∃ i, i < 4 + n ∧ b = put L (4 + p) r i) ?_ k4 ?_ ?_
    · rw [step_at0 c0]
      exact ⟨dx, _, pk, ta, v4, fun b => Iff.rfl⟩
    · rintro b (rfl | ⟨i, hi, rfl⟩)
      · exact .inl ((hF _).mpr (.inl rfl))
      · by_cases e : i = 4 + p
        · rw [e, put_at]; exact .inr hrH
        · rw [put_ne e]; exact .inl ((hF _).mpr (.inr ⟨i, hi, rfl⟩))
    · rw [step_at0 c0]; rfl
  · have c0 : ats n s p ≠ 0 := by omega
    have al := @ats_le n p s
    have ia : (ats n s p : Int) - 1 = ((ats n s p - 1 : Nat) : Int) := by omega
    have hq : ats n s p - 1 < n := by omega
    refine r_next ?_
    with_reducible refine r_cut (fun σ' H2 => σ' = [some (.ref a), some (.int (p : Int)), some (.int ((ats n s p : Nat) : Int))] ∧ Lv K H2 a n s.low s.low (tk1 s p) (put s.seen p (seen1 n s p)) s.looks dx L pk ta ∧ Kp F H H2 ∧ ∀ b, H2 b = none → H b = none) (fun N hN => ?_) fun σ' H2 hP => ?_
    · walk_at "rd"
      refine r_gfI v1.oa rfl ?_
      walk_at "rd"
      rw [ia]
      refine r_ixL (SqL.of v1.o0) (vI_at hq) ?_
      walk_at "rd"
      refine r_gfI v1.oa rfl ?_
      walk_at "rd"
      refine r_ixL (SqL.of v1.o1) (vI_at hp) ?_
      walk_at "rd"
      refine br_d (fun c => ?_) fun c => ?_
      · walk_at "rd"
        refine r_gfI v1.oa rfl ?_
        walk_at "rd"
        refine r_ixL (SqL.of v1.o3) (vR_at hp) ?_
        walk_at "rd"
        refine r_bmL (v1.o4 p hp) ?_
        walk_at "rd"
        rw [ia]
        have sl := g.seen_len hp
        refine r_app (v1.o4 p hp) (small_line (by rw [nt_len]; omega)) ?_
        rw [nt_app]
        have es : seen1 n s p = s.seen p ++ [ats n s p - 1] := if_pos c
        refine hN _ _ ⟨rfl, by rw [es]; exact v1.app hp, k1.put ((hF _).mpr (.inr ⟨4 + p, by omega, rfl⟩)), fun b e => f1 _ (upd_none e)⟩
      · have es : seen1 n s p = s.seen p := if_neg c
        refine hN _ _ ⟨rfl, by rw [es, put_self rfl]; exact v1, k1, f1⟩
    · obtain ⟨rfl, v2, k2, f2⟩ := hP
      have fin : ∀ {s' : Lev} {o : Option (List Nat)} {r : V} {H' : Hp}, step n s p = (s', o) → LvO K H' a n s' F → Kp F H H' → Ret H' r o → Q r H' := fun {s' o r H'} e l k ret => by
        refine q r H' F ?_ k (fun b hb => .inl hb) ?_
        · rw [e]; exact l
        · rw [e]; exact ret
      have on : ¬ leaves n s p → Q .non H2 := fun nl => fin (step_on c0 nl) ⟨dx, L, pk, ta, v2, hF⟩ k2 rfl
      walk_at "rd"
      refine r_gfI v2.oa rfl ?_
      walk_at "rdv"
      refine r_lt ?_
      refine r_isB ?_
      refine br_d (fun c1 => ?_) fun c1 => ?_
      · refine br_t ?_
        walk_at "rd"
        exact on fun z => absurd z.1 (by omega)
      · walk_at "rd"
        refine r_gfI v2.oa rfl ?_
        walk_at "rd"
        refine r_ixL (SqL.of v2.o3) (vR_at hp) ?_
        walk_at "rd"
        have s4 := v2.o4 p hp
        rw [put_at] at s4
        refine r_len (.inl (SqL.of s4)) ?_
        rw [nt_len]
        walk_at "rd"
        refine r_gfI v2.oa rfl ?_
        walk_at "rd"
        refine r_ixL (SqL.of v2.o1) (vI_at hp) ?_
        walk_at "rd"
        refine br_d (fun c2 => ?_) fun c2 => ?_
        · walk_at "rd"
          exact on fun z => absurd z.2 (by omega)
        · have lv : leaves n s p := ⟨by omega, by omega⟩
          walk_at "rd"
          refine r_gfI v2.oa rfl ?_
          walk_at "rd"
          refine r_ixL (SqL.of v2.o3) (vR_at hp) ?_
          walk_at "rd"
          refine r_tuple s4 fun t ht => ?_
          have v3 := v2.same (same_new (o := .tup (nt (seen1 n s p))) ht)
          walk_at "rd"
          refine r_gfI v3.oa rfl ?_
          walk_at "rd"
          have ll := g.looks_len
          refine r_dpI v3.od.at_ (small_line (by rw [kvs_len]; omega)) ?_
          have v4 := v3.setLook (t := t) (S := seen1 n s p) upd_same hk
          walk_at "rd"
          refine r_gfI v4.oa rfl ?_
          walk_at "rd"
          have mk : p ∈ (s.looks ++ [(p, seen1 n s p)]).map Prod.fst := by simp
          refine r_dgI (.inl v4.od.at_) (key_some mk) ?_
          rw [put_at]
          refine fin (step_out c0 lv) ⟨dx, L, pk, _, v4, hF⟩ ((k2.new ht).put ((hF _).mpr (.inl rfl))) ⟨t, rfl, ?_⟩
          have := v4.od.tup (p, seen1 n s p) (by simp)
          rw [put_at] at this
          exact this
end K07
end
section
set_option Elab.async false
set_option linter.all false
set_option maxRecDepth 100000
set_option maxHeartbeats 4000000
/-! k07: what is made; the law's step -/
namespace K07
open PySem PySem.Spec PyProof.Rows L2 Nw
local macro_rules | `(tactic| walk_at "rd") => `(tactic| repeat' (first
  | with_reducible refine r_seq ?_ | with_reducible refine r_asg ?_ | with_reducible refine r_ret ?_ | with_reducible refine r_retN ?_ | with_reducible refine r_drop ?_ | with_reducible refine r_next ?_ | with_reducible refine r_brk ?_ | with_reducible refine r_cont ?_
  | ((with_reducible refine' r_var ?ev ?_); (case ev => rfl)) | with_reducible refine r_c ?_ | with_reducible refine r_op ?_ | with_reducible refine r_un ?_ | with_reducible refine r_ifS ?_ | with_reducible refine r_if ?_
  | with_reducible refine r_T ?_ | with_reducible refine r_isB ?_ | with_reducible refine r_and ?_ | with_reducible refine r_or ?_ | with_reducible refine r_not ?_ | with_reducible refine r_andV ?_ | with_reducible refine r_orV ?_ | with_reducible refine r_notV ?_
  | with_reducible refine r_nil ?_ | with_reducible refine r_cons ?_ | with_reducible refine r_lst ?_ | with_reducible refine r_tup ?_ | with_reducible refine r_ca ?_ | with_reducible refine r_cw ?_ | with_reducible refine r_cb ?_
  | with_reducible refine r_add ?_ | with_reducible refine r_sub ?_ | with_reducible refine r_neg ?_ | with_reducible refine r_lt ?_ | with_reducible refine r_le ?_ | with_reducible refine r_gt ?_ | with_reducible refine r_ge ?_ | with_reducible refine r_eqI ?_ | with_reducible refine r_neI ?_ | with_reducible refine r_eqB ?_ | with_reducible refine r_neB ?_
  | with_reducible refine r_isN ?_ | with_reducible refine r_notN ?_ | with_reducible refine r_min ?_ | with_reducible refine r_max ?_ | with_reducible refine r_int ?_ | with_reducible refine r_gcd ?_ | with_reducible refine r_for ?_ | with_reducible refine r_rg1 ?_ | with_reducible refine r_rg2 ?_ | with_reducible refine r_wlI ?_ | with_reducible refine r_wtI ?_ | with_reducible refine r_gN ?_ | with_reducible refine r_asgS ?_ | with_reducible refine r_bm0 ?_ | with_reducible refine r_bm ?_ | with_reducible refine r_lc ?_ | with_reducible refine r_gf ?_ | with_reducible refine r_sf ?_ | with_reducible refine r_ma ?_ | with_reducible refine r_mw ?_ | with_reducible refine r_pa ?_ | with_reducible refine r_ka ?_ | with_reducible refine r_kw ?_ | with_reducible refine r_chain ?_ | with_reducible refine r_ch ?_ | with_reducible refine r_dget ?_ | with_reducible refine r_din ?_ | with_reducible refine r_dnotin ?_ | with_reducible refine r_dput ?_ | with_reducible refine r_augS ?_ | with_reducible refine r_wsqI ?_ | with_reducible refine r_keysI ?_
  | with_reducible refine br_t ?_ | with_reducible refine br_f ?_ | with_reducible refine br_nt ?_ | with_reducible refine br_nf ?_))
local macro_rules | `(tactic| walk_at "rdt") => `(tactic| repeat' (first
  | with_reducible refine r_seq ?_ | with_reducible refine r_retN ?_ | with_reducible refine r_drop ?_ | with_reducible refine r_next ?_ | with_reducible refine r_brk ?_ | with_reducible refine r_cont ?_
  | ((with_reducible refine' r_var ?ev ?_); (case ev => rfl)) | with_reducible refine r_c ?_ | with_reducible refine r_op ?_ | with_reducible refine r_un ?_ | with_reducible refine r_ifS ?_ | with_reducible refine r_if ?_
  | with_reducible refine r_T ?_ | with_reducible refine r_isB ?_ | with_reducible refine r_and ?_ | with_reducible refine r_or ?_ | with_reducible refine r_not ?_ | with_reducible refine r_andV ?_ | with_reducible refine r_orV ?_ | with_reducible refine r_notV ?_
  | with_reducible refine r_nil ?_ | with_reducible refine r_cons ?_ | with_reducible refine r_lst ?_ | with_reducible refine r_tup ?_ | with_reducible refine r_ca ?_ | with_reducible refine r_cw ?_ | with_reducible refine r_cb ?_
  | with_reducible refine r_add ?_ | with_reducible refine r_sub ?_ | with_reducible refine r_neg ?_ | with_reducible refine r_lt ?_ | with_reducible refine r_le ?_ | with_reducible refine r_gt ?_ | with_reducible refine r_ge ?_ | with_reducible refine r_eqI ?_ | with_reducible refine r_neI ?_ | with_reducible refine r_eqB ?_ | with_reducible refine r_neB ?_
  | with_reducible refine r_isN ?_ | with_reducible refine r_notN ?_ | with_reducible refine r_min ?_ | with_reducible refine r_max ?_ | with_reducible refine r_int ?_ | with_reducible refine r_gcd ?_ | with_reducible refine r_for ?_ | with_reducible refine r_rg1 ?_ | with_reducible refine r_rg2 ?_ | with_reducible refine r_wlI ?_ | with_reducible refine r_wtI ?_ | with_reducible refine r_gN ?_ | with_reducible refine r_asgS ?_ | with_reducible refine r_bm0 ?_ | with_reducible refine r_bm ?_ | with_reducible refine r_lc ?_ | with_reducible refine r_gf ?_ | with_reducible refine r_sf ?_ | with_reducible refine r_ma ?_ | with_reducible refine r_mw ?_ | with_reducible refine r_pa ?_ | with_reducible refine r_ka ?_ | with_reducible refine r_kw ?_ | with_reducible refine r_chain ?_ | with_reducible refine r_ch ?_ | with_reducible refine r_dget ?_ | with_reducible refine r_din ?_ | with_reducible refine r_dnotin ?_ | with_reducible refine r_dput ?_ | with_reducible refine r_augS ?_ | with_reducible refine r_wsqI ?_ | with_reducible refine r_keysI ?_
  | with_reducible refine br_t ?_ | with_reducible refine br_f ?_ | with_reducible refine br_nt ?_ | with_reducible refine br_nf ?_))
local macro_rules | `(tactic| walk_at "rdq") => `(tactic| repeat' (first | ((with_reducible refine' r_var ?ev ?_); (case ev => rfl)) | with_reducible refine r_c ?_ | with_reducible refine r_T ?_ | with_reducible refine r_isB ?_ | with_reducible refine r_op ?_ | with_reducible refine r_eqI ?_ | with_reducible refine r_not ?_ | with_reducible refine br_t ?_ | with_reducible refine br_f ?_ | with_reducible refine br_nt ?_ | with_reducible refine br_nf ?_ | with_reducible refine r_next ?_))
local macro_rules | `(tactic| walk_at "rdv") => `(tactic| repeat' (first | ((with_reducible refine' r_var ?ev ?_); (case ev => rfl)) | with_reducible refine r_T ?_ | with_reducible refine r_isB ?_))
theorem Inj.lt {m : Nat} {L : Nat → Addr} (h : ∀ i j, i < j → j < m → L i ≠ L j) : Inj m L := fun i j hi hj e => by
  rcases Nat.lt_trichotomy i j with c | c | c
  · exact absurd e (h i j c hj)
  · exact c
  · exact absurd e.symm (h j i c hi)
theorem vR_succ {i : Nat} {g : Nat → Addr} {p : Addr} : vR i g ++ [V.ref p] = vR (i + 1) (put g i p) := by
  unfold vR
  rw [range_map_succ, put_at]
  congr 1
  refine List.map_congr_left fun j hj => ?_
  rw [List.mem_range] at hj
  rw [put_ne (by omega)]
/-- [[] for _ in range(n)] -/
theorem lc_newL {lo : Int} {n j : Nat} {te : TE} {vs : List Nat} {Q : VK} {σ : L2.St} {H : Hp} (hte : ∀ σ H Q', (∀ p, H p = none → Q' (V.ref p) (upd H p (.lst []))) → te σ H Q') (hn : n ≤ 10000) (hw : ∀ x, wipe ((wipe σ vs).set j (some x)) vs = wipe σ vs)
    (k : ∀ D g H', H D = none → Same H H' → H' D = some (.lst (vR n g)) → (∀ i, i < n → H (g i) = none ∧ H' (g i) = some (.lst []) ∧ g i ≠ D) → Inj n g → Q (.ref D) H') : lcG (Itr lo n) (gName j) tYes te vs Q σ H := fun D hD => by
  refine L2.lc_range (fun i H' => Same H H' ∧ ∃ g, H' D = some (.lst (vR i g)) ∧ (∀ m, m < i → H (g m) = none ∧ H' (g m) = some (.lst []) ∧ g m ≠ D) ∧ Inj i g) ⟨same_new hD, fun _ => 0, upd_same, fun m hm => absurd hm (Nat.not_lt_zero _), fun x _ hx => absurd hx (Nat.not_lt_zero _)⟩ ?_ (fun H' ⟨s, g, e, h, i⟩ => k D g H' hD s e h i)
  rintro i H' hi ⟨s, g, e, h, inj⟩
  refine ⟨hw _, hte _ H' _ fun p hp => ?_⟩
  have pD : D ≠ p := ne_of_none e hp
  refine ⟨_, by rw [upd_ne pD]; exact e, ?_, same_upd hD (Same.new s hp), put g i p, by rw [upd_same, vR_succ], fun m hm => ?_, ?_⟩
  · rw [vR_len]
    exact small_line (by omega)
  · by_cases em : m = i
    · subst em
      rw [put_at]
      refine ⟨?_, by rw [upd_ne (Ne.symm pD), upd_same], Ne.symm pD⟩
      cases q : H p with
      | none => rfl
      | some u => rw [s _ _ q] at hp; cases hp
    · rw [put_ne em]
      obtain ⟨h1, h2, h3⟩ := h m (by omega)
      exact ⟨h1, by rw [upd_ne h3, upd_ne (ne_of_none h2 hp)]; exact h2, h3⟩
  · refine Inj.lt fun x y hxy hy => ?_
    by_cases ey : y = i
    · subst ey
      rw [put_at, put_ne (by omega)]
      exact ne_of_none (h x (by omega)).2.1 hp
    · rw [put_ne ey, put_ne (by omega)]
      intro z
      exact absurd (inj x y (by omega) (by omega) z) (by omega)
theorem rd_Levels___init__ {K : PySem.W.Frag} (vs : List V) (H : Hp) (Q : VK) (E : XK) (h : sp_Levels___init__ K vs H Q E) : t_Levels___init__ K E { nx := fun _ H' => Q .non H', rt := Q } (start ["self", "size", "_"] vs) H := by
  obtain ⟨x, dx, v, rfl, hx, h⟩ := h
  unfold t_Levels___init__
  walk_at "rd"
  rcases h with ⟨n, rfl, hok, q⟩ | ⟨hb, hE⟩
  rotate_left
  · exact ⟨_, rfl, .inr ⟨hb, hE⟩⟩
  refine ⟨_, rfl, .inl ⟨n, rfl, hok, ?_⟩⟩
  have h6 := hok.2
  have nx : ∀ {D : Addr} {H1 : Hp} {fs : List (Str × V)}, H1 x = some (.ins (CL K) dx fs) → H1 D = none → x ≠ D := fun e1 e2 => ne_of_none e1 e2
  walk_at "rd"
  refine r_sfI hx (by decide) ?_
  have k1 : Kp (· = x) H (upd H x (.ins (CL K) dx (putF "_size" (.int (n : Int)) []))) := kp_upd rfl
  have x1 : upd H x (.ins (CL K) dx (putF "_size" (.int (n : Int)) [])) x = some (.ins (CL K) dx (putF "_size" (.int (n : Int)) [])) := upd_same
  generalize upd H x (.ins (CL K) dx (putF "_size" (.int (n : Int)) [])) = H1 at k1 x1 ⊢
  walk_at "rd"
  refine r_rgN (by omega) ?_
  refine lc_rng (fun _ => .int ((n : Int) + 1)) (by omega) (fun _ => rfl) (fun i H' Q' hi s1 q1 => ?_) fun D0 H2 hD0 s2 e0 => ?_
  · walk_at "rd"
    exact q1 H' (Same.refl _)
  have x2 := s2 _ _ x1
  have nD0 := nx x1 hD0
  walk_at "rd"
  refine r_sfI x2 (by show 1 < 1000; decide) ?_
  have k3 : Kp (· = x) H (upd H2 x (.ins (CL K) dx (putF "_cells" (.ref D0) (putF "_size" (.int (n : Int)) [])))) := (k1.trans (kp_same s2)).put rfl
  have x3 : upd H2 x (.ins (CL K) dx (putF "_cells" (.ref D0) (putF "_size" (.int (n : Int)) []))) x = some (.ins (CL K) dx (putF "_cells" (.ref D0) (putF "_size" (.int (n : Int)) []))) := upd_same
  have e0' : upd H2 x (.ins (CL K) dx (putF "_cells" (.ref D0) (putF "_size" (.int (n : Int)) []))) D0 = some (.lst ((List.range n).map fun _ => V.int ((n : Int) + 1))) := by rw [upd_ne (Ne.symm nD0)]; exact e0
  have z0 : H D0 = none := k1.gone (Ne.symm nD0) hD0
  generalize upd H2 x (.ins (CL K) dx (putF "_cells" (.ref D0) (putF "_size" (.int (n : Int)) []))) = H3 at k3 x3 e0' ⊢
  walk_at "rd"
  refine r_rgN (by omega) ?_
  refine lc_rng (fun _ => .int ((n : Int) + 1)) (by omega) (fun _ => rfl) (fun i H' Q' hi s1 q1 => ?_) fun D1 H4 hD1 s4 e1 => ?_
  · walk_at "rd"
    exact q1 H' (Same.refl _)
  have x4 := s4 _ _ x3
  have nD1 := nx x3 hD1
  have n01 := ne_of_none e0' hD1
  walk_at "rd"
  refine r_sfI x4 (by show 2 < 1000; decide) ?_
  have k5 : Kp (· = x) H (upd H4 x (.ins (CL K) dx (putF "_low" (.ref D1) (putF "_cells" (.ref D0) (putF "_size" (.int (n : Int)) []))))) := (k3.trans (kp_same s4)).put rfl
  have x5 : upd H4 x (.ins (CL K) dx (putF "_low" (.ref D1) (putF "_cells" (.ref D0) (putF "_size" (.int (n : Int)) [])))) x = some (.ins (CL K) dx (putF "_low" (.ref D1) (putF "_cells" (.ref D0) (putF "_size" (.int (n : Int)) [])))) := upd_same
  have e1' : upd H4 x (.ins (CL K) dx (putF "_low" (.ref D1) (putF "_cells" (.ref D0) (putF "_size" (.int (n : Int)) [])))) D1 = some (.lst ((List.range n).map fun _ => V.int ((n : Int) + 1))) := by rw [upd_ne (Ne.symm nD1)]; exact e1
  have e05 : upd H4 x (.ins (CL K) dx (putF "_low" (.ref D1) (putF "_cells" (.ref D0) (putF "_size" (.int (n : Int)) [])))) D0 = some (.lst ((List.range n).map fun _ => V.int ((n : Int) + 1))) := by rw [upd_ne (Ne.symm nD0)]; exact s4 _ _ e0'
  have z1 : H D1 = none := k3.gone (Ne.symm nD1) hD1
  generalize upd H4 x (.ins (CL K) dx (putF "_low" (.ref D1) (putF "_cells" (.ref D0) (putF "_size" (.int (n : Int)) [])))) = H5 at k5 x5 e1' e05 ⊢
  walk_at "rd"
  refine r_rgN (by omega) ?_
  refine lc_rng (fun _ => .int 0) (by omega) (fun _ => rfl) (fun i H' Q' hi s1 q1 => ?_) fun D2 H6 hD2 s6 e2 => ?_
  · walk_at "rd"
    exact q1 H' (Same.refl _)
  have x6 := s6 _ _ x5
  have nD2 := nx x5 hD2
  have n02 := ne_of_none e05 hD2
  have n12 := ne_of_none e1' hD2
  walk_at "rd"
  refine r_sfI x6 (by show 3 < 1000; decide) ?_
  have k7 : Kp (· = x) H (upd H6 x (.ins (CL K) dx (putF "_taken" (.ref D2) (putF "_low" (.ref D1) (putF "_cells" (.ref D0) (putF "_size" (.int (n : Int)) [])))))) := (k5.trans (kp_same s6)).put rfl
  have x7 : upd H6 x (.ins (CL K) dx (putF "_taken" (.ref D2) (putF "_low" (.ref D1) (putF "_cells" (.ref D0) (putF "_size" (.int (n : Int)) []))))) x = some (.ins (CL K) dx (putF "_taken" (.ref D2) (putF "_low" (.ref D1) (putF "_cells" (.ref D0) (putF "_size" (.int (n : Int)) []))))) := upd_same
  have o7 : ∀ b o, b ≠ x → H6 b = some o → upd H6 x (.ins (CL K) dx (putF "_taken" (.ref D2) (putF "_low" (.ref D1) (putF "_cells" (.ref D0) (putF "_size" (.int (n : Int)) []))))) b = some o := fun b o nb e => by rw [upd_ne nb]; exact e
  have z2 : H D2 = none := k5.gone (Ne.symm nD2) hD2
  generalize upd H6 x (.ins (CL K) dx (putF "_taken" (.ref D2) (putF "_low" (.ref D1) (putF "_cells" (.ref D0) (putF "_size" (.int (n : Int)) []))))) = H7 at k7 x7 o7 ⊢
  have e07 := o7 _ _ (Ne.symm nD0) (s6 _ _ e05)
  have e17 := o7 _ _ (Ne.symm nD1) (s6 _ _ e1')
  have e27 := o7 _ _ (Ne.symm nD2) e2
  walk_at "rd"
  refine r_rgN (by omega) ?_
  refine lc_newL (fun σ H Q' h => r_lst (r_nil (r_nL (Nat.zero_le _) h))) (by omega) (fun _ => rfl) fun D3 gs H8 hD3 s8 e3 hg inj => ?_
  have x8 := s8 _ _ x7
  have nD3 := nx x7 hD3
  walk_at "rd"
  refine r_sfI x8 (by show 4 < 1000; decide) ?_
  have k9 : Kp (· = x) H (upd H8 x (.ins (CL K) dx (putF "_seen" (.ref D3) (putF "_taken" (.ref D2) (putF "_low" (.ref D1) (putF "_cells" (.ref D0) (putF "_size" (.int (n : Int)) []))))))) := (k7.trans (kp_same s8)).put rfl
  have x9 : upd H8 x (.ins (CL K) dx (putF "_seen" (.ref D3) (putF "_taken" (.ref D2) (putF "_low" (.ref D1) (putF "_cells" (.ref D0) (putF "_size" (.int (n : Int)) [])))))) x = some (.ins (CL K) dx (putF "_seen" (.ref D3) (putF "_taken" (.ref D2) (putF "_low" (.ref D1) (putF "_cells" (.ref D0) (putF "_size" (.int (n : Int)) [])))))) := upd_same
  have o9 : ∀ b o, b ≠ x → H8 b = some o → upd H8 x (.ins (CL K) dx (putF "_seen" (.ref D3) (putF "_taken" (.ref D2) (putF "_low" (.ref D1) (putF "_cells" (.ref D0) (putF "_size" (.int (n : Int)) [])))))) b = some o := fun b o nb e => by rw [upd_ne nb]; exact e
  have z3 : H D3 = none := k7.gone (Ne.symm nD3) hD3
  generalize upd H8 x (.ins (CL K) dx (putF "_seen" (.ref D3) (putF "_taken" (.ref D2) (putF "_low" (.ref D1) (putF "_cells" (.ref D0) (putF "_size" (.int (n : Int)) [])))))) = H9 at k9 x9 o9 ⊢
  walk_at "rd"
  refine r_dnew fun pk hpk => ?_
  have npk := nx x9 hpk
  have x10 : upd H9 pk (.dK []) x = some (.ins (CL K) dx (putF "_seen" (.ref D3) (putF "_taken" (.ref D2) (putF "_low" (.ref D1) (putF "_cells" (.ref D0) (putF "_size" (.int (n : Int)) [])))))) := by rw [upd_ne npk]; exact x9
  walk_at "rd"
  refine r_sfI x10 (by show 5 < 1000; decide) ?_
  have o11 : ∀ b o, b ≠ x → H9 b = some o → upd (upd H9 pk (.dK [])) x (.ins (CL K) dx (putF "_looks" (.ref pk) (putF "_seen" (.ref D3) (putF "_taken" (.ref D2) (putF "_low" (.ref D1) (putF "_cells" (.ref D0) (putF "_size" (.int (n : Int)) []))))))) b = some o := fun b o nb e => by rw [upd_ne nb, upd_ne (ne_of_none e hpk)]; exact e
  have zk : H pk = none := k9.gone (Ne.symm npk) hpk
  have hgx : ∀ i, i < n → gs i ≠ x := fun i hi => Ne.symm (nx x7 (hg i hi).1)
  refine q _ (fun b => b = pk ∨ ∃ i, i < 4 + n ∧ b = (fun i => if i = 0 then D0 else if i = 1 then D1 else if i = 2 then D2 else if i = 3 then D3 else gs (i - 4)) i) ?_ ((k9.new hpk).put rfl) ?_
  · refine ⟨dx, (fun i => if i = 0 then D0 else if i = 1 then D1 else if i = 2 then D2 else if i = 3 then D3 else gs (i - 4)), pk, fun _ => 0, ⟨?_, ?_, ?_, ?_, ?_, fun i hi => ?_, ⟨?_, fun p hp => nomatch hp⟩, ?_⟩, fun b => Iff.rfl⟩
    · exact upd_same
    · exact o11 _ _ (Ne.symm nD0) (o9 _ _ (Ne.symm nD0) (s8 _ _ e07))
    · exact o11 _ _ (Ne.symm nD1) (o9 _ _ (Ne.symm nD1) (s8 _ _ e17))
    · exact o11 _ _ (Ne.symm nD2) (o9 _ _ (Ne.symm nD2) (s8 _ _ e27))
    · have := o11 _ _ (Ne.symm nD3) (o9 _ _ (Ne.symm nD3) e3)
      rw [show (fun i => (fun i => if i = 0 then D0 else if i = 1 then D1 else if i = 2 then D2 else if i = 3 then D3 else gs (i - 4)) (4 + i)) = gs from funext fun i => by
        show (if 4 + i = 0 then D0 else if 4 + i = 1 then D1 else if 4 + i = 2 then D2 else if 4 + i = 3 then D3 else gs (4 + i - 4)) = gs i
        rw [if_neg (by omega), if_neg (by omega), if_neg (by omega), if_neg (by omega), Nat.add_sub_cancel_left]]
      exact this
    · show upd _ x _ (if 4 + i = 0 then D0 else if 4 + i = 1 then D1 else if 4 + i = 2 then D2 else if 4 + i = 3 then D3 else gs (4 + i - 4)) = _
      rw [if_neg (by omega), if_neg (by omega), if_neg (by omega), if_neg (by omega), Nat.add_sub_cancel_left]
      exact o11 _ _ (hgx i hi) (o9 _ _ (hgx i hi) (hg i hi).2.1)
    · rw [upd_ne (Ne.symm npk), upd_same]
      rfl
    · have m0 : ∀ i, i < n → D0 ≠ gs i := fun i hi => ne_of_none e07 (hg i hi).1
      have m1 : ∀ i, i < n → D1 ≠ gs i := fun i hi => ne_of_none e17 (hg i hi).1
      have m2 : ∀ i, i < n → D2 ≠ gs i := fun i hi => ne_of_none e27 (hg i hi).1
      have n03 := ne_of_none e07 hD3
      have n13 := ne_of_none e17 hD3
      have n23 := ne_of_none e27 hD3
      refine Inj.lt fun i j hij hj => ?_
      show (if i = 0 then D0 else if i = 1 then D1 else if i = 2 then D2 else if i = 3 then D3 else gs (i - 4)) ≠ (if j = 0 then D0 else if j = 1 then D1 else if j = 2 then D2 else if j = 3 then D3 else gs (j - 4))
      by_cases j1 : j = 1
      · subst j1
        rw [if_pos (by omega), if_neg (by omega), if_pos rfl]; exact n01
      by_cases j2 : j = 2
      · subst j2
        rw [show (if 2 = 0 then D0 else if 2 = 1 then D1 else if 2 = 2 then D2 else if 2 = 3 then D3 else gs (2 - 4)) = D2 from rfl]
        by_cases i0 : i = 0
        · rw [if_pos i0]; exact n02
        · rw [if_neg i0, if_pos (by omega)]; exact n12
      by_cases j3 : j = 3
      · subst j3
        rw [show (if 3 = 0 then D0 else if 3 = 1 then D1 else if 3 = 2 then D2 else if 3 = 3 then D3 else gs (3 - 4)) = D3 from rfl]
        by_cases i0 : i = 0
        · rw [if_pos i0]; exact n03
        · by_cases i1 : i = 1
          · rw [if_neg i0, if_pos i1]; exact n13
          · rw [if_neg i0, if_neg i1, if_pos (by omega)]; exact n23
      rw [if_neg (show j ≠ 0 by omega), if_neg j1, if_neg j2, if_neg j3]
      by_cases i0 : i = 0
      · rw [if_pos i0]; exact m0 _ (by omega)
      · by_cases i1 : i = 1
        · rw [if_neg i0, if_pos i1]; exact m1 _ (by omega)
        · by_cases i2 : i = 2
          · rw [if_neg i0, if_neg i1, if_pos i2]; exact m2 _ (by omega)
          · by_cases i3 : i = 3
            · rw [if_neg i0, if_neg i1, if_neg i2, if_pos i3]; exact Ne.symm (hg _ (by omega)).2.2
            · rw [if_neg i0, if_neg i1, if_neg i2, if_neg i3]
              intro z
              exact absurd (inj _ _ (by omega) (by omega) z) (by omega)
  · rintro b (rfl | ⟨i, hi, rfl⟩)
    · exact zk
    · show H (if i = 0 then D0 else if i = 1 then D1 else if i = 2 then D2 else if i = 3 then D3 else gs (i - 4)) = none
      by_cases i0 : i = 0
      · rw [if_pos i0]; exact z0
      by_cases i1 : i = 1
      · rw [if_neg i0, if_pos i1]; exact z1
      by_cases i2 : i = 2
      · rw [if_neg i0, if_neg i1, if_pos i2]; exact z2
      by_cases i3 : i = 3
      · rw [if_neg i0, if_neg i1, if_neg i2, if_pos i3]; exact z3
      rw [if_neg i0, if_neg i1, if_neg i2, if_neg i3]
      exact k7.gone (hgx _ (by omega)) (hg _ (by omega)).1
end K07
end
section
set_option Elab.async false
set_option linter.all false
set_option maxRecDepth 100000
set_option maxHeartbeats 4000000
/-! k07: the law's step, and what it draws -/
namespace K07
open PySem PySem.Spec PyProof.Rows L2 Nw
local macro_rules | `(tactic| walk_at "rd") => `(tactic| repeat' (first
  | with_reducible refine r_seq ?_ | with_reducible refine r_asg ?_ | with_reducible refine r_ret ?_ | with_reducible refine r_retN ?_ | with_reducible refine r_drop ?_ | with_reducible refine r_next ?_ | with_reducible refine r_brk ?_ | with_reducible refine r_cont ?_
  | ((with_reducible refine' r_var ?ev ?_); (case ev => rfl)) | with_reducible refine r_c ?_ | with_reducible refine r_op ?_ | with_reducible refine r_un ?_ | with_reducible refine r_ifS ?_ | with_reducible refine r_if ?_
  | with_reducible refine r_T ?_ | with_reducible refine r_isB ?_ | with_reducible refine r_and ?_ | with_reducible refine r_or ?_ | with_reducible refine r_not ?_ | with_reducible refine r_andV ?_ | with_reducible refine r_orV ?_ | with_reducible refine r_notV ?_
  | with_reducible refine r_nil ?_ | with_reducible refine r_cons ?_ | with_reducible refine r_lst ?_ | with_reducible refine r_tup ?_ | with_reducible refine r_ca ?_ | with_reducible refine r_cw ?_ | with_reducible refine r_cb ?_
  | with_reducible refine r_add ?_ | with_reducible refine r_sub ?_ | with_reducible refine r_neg ?_ | with_reducible refine r_lt ?_ | with_reducible refine r_le ?_ | with_reducible refine r_gt ?_ | with_reducible refine r_ge ?_ | with_reducible refine r_eqI ?_ | with_reducible refine r_neI ?_ | with_reducible refine r_eqB ?_ | with_reducible refine r_neB ?_
  | with_reducible refine r_isN ?_ | with_reducible refine r_notN ?_ | with_reducible refine r_min ?_ | with_reducible refine r_max ?_ | with_reducible refine r_int ?_ | with_reducible refine r_gcd ?_ | with_reducible refine r_for ?_ | with_reducible refine r_rg1 ?_ | with_reducible refine r_rg2 ?_ | with_reducible refine r_wlI ?_ | with_reducible refine r_wtI ?_ | with_reducible refine r_gN ?_ | with_reducible refine r_asgS ?_ | with_reducible refine r_bm0 ?_ | with_reducible refine r_bm ?_ | with_reducible refine r_lc ?_ | with_reducible refine r_gf ?_ | with_reducible refine r_sf ?_ | with_reducible refine r_ma ?_ | with_reducible refine r_mw ?_ | with_reducible refine r_pa ?_ | with_reducible refine r_ka ?_ | with_reducible refine r_kw ?_ | with_reducible refine r_chain ?_ | with_reducible refine r_ch ?_ | with_reducible refine r_dget ?_ | with_reducible refine r_din ?_ | with_reducible refine r_dnotin ?_ | with_reducible refine r_dput ?_ | with_reducible refine r_augS ?_ | with_reducible refine r_wsqI ?_ | with_reducible refine r_keysI ?_
  | with_reducible refine br_t ?_ | with_reducible refine br_f ?_ | with_reducible refine br_nt ?_ | with_reducible refine br_nf ?_))
local macro_rules | `(tactic| walk_at "rdt") => `(tactic| repeat' (first
  | with_reducible refine r_seq ?_ | with_reducible refine r_retN ?_ | with_reducible refine r_drop ?_ | with_reducible refine r_next ?_ | with_reducible refine r_brk ?_ | with_reducible refine r_cont ?_
  | ((with_reducible refine' r_var ?ev ?_); (case ev => rfl)) | with_reducible refine r_c ?_ | with_reducible refine r_op ?_ | with_reducible refine r_un ?_ | with_reducible refine r_ifS ?_ | with_reducible refine r_if ?_
  | with_reducible refine r_T ?_ | with_reducible refine r_isB ?_ | with_reducible refine r_and ?_ | with_reducible refine r_or ?_ | with_reducible refine r_not ?_ | with_reducible refine r_andV ?_ | with_reducible refine r_orV ?_ | with_reducible refine r_notV ?_
  | with_reducible refine r_nil ?_ | with_reducible refine r_cons ?_ | with_reducible refine r_lst ?_ | with_reducible refine r_tup ?_ | with_reducible refine r_ca ?_ | with_reducible refine r_cw ?_ | with_reducible refine r_cb ?_
  | with_reducible refine r_add ?_ | with_reducible refine r_sub ?_ | with_reducible refine r_neg ?_ | with_reducible refine r_lt ?_ | with_reducible refine r_le ?_ | with_reducible refine r_gt ?_ | with_reducible refine r_ge ?_ | with_reducible refine r_eqI ?_ | with_reducible refine r_neI ?_ | with_reducible refine r_eqB ?_ | with_reducible refine r_neB ?_
  | with_reducible refine r_isN ?_ | with_reducible refine r_notN ?_ | with_reducible refine r_min ?_ | with_reducible refine r_max ?_ | with_reducible refine r_int ?_ | with_reducible refine r_gcd ?_ | with_reducible refine r_for ?_ | with_reducible refine r_rg1 ?_ | with_reducible refine r_rg2 ?_ | with_reducible refine r_wlI ?_ | with_reducible refine r_wtI ?_ | with_reducible refine r_gN ?_ | with_reducible refine r_asgS ?_ | with_reducible refine r_bm0 ?_ | with_reducible refine r_bm ?_ | with_reducible refine r_lc ?_ | with_reducible refine r_gf ?_ | with_reducible refine r_sf ?_ | with_reducible refine r_ma ?_ | with_reducible refine r_mw ?_ | with_reducible refine r_pa ?_ | with_reducible refine r_ka ?_ | with_reducible refine r_kw ?_ | with_reducible refine r_chain ?_ | with_reducible refine r_ch ?_ | with_reducible refine r_dget ?_ | with_reducible refine r_din ?_ | with_reducible refine r_dnotin ?_ | with_reducible refine r_dput ?_ | with_reducible refine r_augS ?_ | with_reducible refine r_wsqI ?_ | with_reducible refine r_keysI ?_
  | with_reducible refine br_t ?_ | with_reducible refine br_f ?_ | with_reducible refine br_nt ?_ | with_reducible refine br_nf ?_))
local macro_rules | `(tactic| walk_at "rdq") => `(tactic| repeat' (first | ((with_reducible refine' r_var ?ev ?_); (case ev => rfl)) | with_reducible refine r_c ?_ | with_reducible refine r_T ?_ | with_reducible refine r_isB ?_ | with_reducible refine r_op ?_ | with_reducible refine r_eqI ?_ | with_reducible refine r_not ?_ | with_reducible refine br_t ?_ | with_reducible refine br_f ?_ | with_reducible refine br_nt ?_ | with_reducible refine br_nf ?_ | with_reducible refine r_next ?_))
local macro_rules | `(tactic| walk_at "rdv") => `(tactic| repeat' (first | ((with_reducible refine' r_var ?ev ?_); (case ev => rfl)) | with_reducible refine r_T ?_ | with_reducible refine r_isB ?_))
theorem rd__law_int {K : PySem.W.Frag} (vs : List V) (H : Hp) (Q : VK) (E : XK) (h : sp__law_int K vs H Q E) : t__law_int K { nx := fun _ H' => Q .non H', rt := Q } (start ["_law_thing"] vs) H := rd_is_int vs H Q E h
theorem same_none {H H' : Hp} {b : Addr} (s : Same H H') (h : H' b = none) : H b = none := by
  cases e : H b with
  | none => rfl
  | some o => rw [s b o e] at h; cases h
/-- [[x, 0, []] for _ in range(n)] -/
theorem lc_newH {lo : Int} {n j : Nat} {te : TE} {vs : List Nat} {Q : VK} {σ : L2.St} {H : Hp} (x : Int) (hte : ∀ i H Q', i < n → (∀ p q, H p = none → upd H p (.lst []) q = none → Q' (V.ref q) (upd (upd H p (.lst [])) q (.lst [.int x, .int 0, .ref p]))) → te ((wipe σ vs).set j (some (.int (lo + (i : Nat))))) H Q') (hn : n ≤ 10000) (hw : ∀ x, wipe ((wipe σ vs).set j (some x)) vs = wipe σ vs)
    (k : ∀ D g h H', H D = none → Same H H' → H' D = some (.lst (vR n g)) → (∀ i, i < n → (H (g i) = none ∧ H' (g i) = some (.lst [.int x, .int 0, .ref (h i)]) ∧ g i ≠ D) ∧ (H (h i) = none ∧ H' (h i) = some (.lst []) ∧ h i ≠ D)) → Inj n g → Inj n h → (∀ i m, i < n → m < n → g i ≠ h m) → Q (.ref D) H') : lcG (Itr lo n) (gName j) tYes te vs Q σ H := fun D hD => by
  refine L2.lc_range (fun i H' => Same H H' ∧ ∃ g h, H' D = some (.lst (vR i g)) ∧ (∀ m, m < i → (H (g m) = none ∧ H' (g m) = some (.lst [.int x, .int 0, .ref (h m)]) ∧ g m ≠ D) ∧ (H (h m) = none ∧ H' (h m) = some (.lst []) ∧ h m ≠ D)) ∧ Inj i g ∧ Inj i h ∧ ∀ a b, a < i → b < i → g a ≠ h b)
    ⟨same_new hD, fun _ => 0, fun _ => 0, upd_same, fun m hm => absurd hm (Nat.not_lt_zero _), fun x _ hx => absurd hx (Nat.not_lt_zero _), fun x _ hx => absurd hx (Nat.not_lt_zero _), fun a _ ha => absurd ha (Nat.not_lt_zero _)⟩ ?_ (fun H' ⟨s, g, h, e, a, i1, i2, ne⟩ => k D g h H' hD s e a i1 i2 ne)
  rintro i H' hi ⟨s, g, h, e, al, inj1, inj2, ne⟩
  refine ⟨hw _, hte i H' _ hi fun p q hp hq => ?_⟩
  have hq' := upd_none hq
  have qp : q ≠ p := fun z => by rw [z, upd_same] at hq; cases hq
  have pD : D ≠ p := ne_of_none e hp
  have qD : D ≠ q := ne_of_none e hq'
  have old : ∀ b o, H' b = some o → b ≠ D → upd (upd (upd H' p (.lst [])) q (.lst [.int x, .int 0, .ref p])) D (.lst (vR i g ++ [.ref q])) b = some o := fun b o eb nb => by
    rw [upd_ne nb, upd_ne (ne_of_none eb hq'), upd_ne (ne_of_none eb hp)]; exact eb
  refine ⟨_, by rw [upd_ne qD, upd_ne pD]; exact e, ?_, same_upd hD (Same.new (Same.new s hp) hq), put g i q, put h i p, by rw [upd_same, vR_succ], fun m hm => ?_, ?_, ?_, fun a b ha hb => ?_⟩
  · rw [vR_len]
    exact small_line (by omega)
  · by_cases em : m = i
    · subst em
      rw [put_at, put_at]
      exact ⟨⟨same_none s hq', by rw [upd_ne (Ne.symm qD), upd_same], Ne.symm qD⟩, same_none s hp, by rw [upd_ne (Ne.symm pD), upd_ne (Ne.symm qp), upd_same], Ne.symm pD⟩
    · rw [put_ne em, put_ne em]
      obtain ⟨⟨h1, h2, h3⟩, h4, h5, h6⟩ := al m (by omega)
      exact ⟨⟨h1, old _ _ h2 h3, h3⟩, h4, old _ _ h5 h6, h6⟩
  · refine Inj.lt fun a b hab hb => ?_
    by_cases ey : b = i
    · subst ey
      rw [put_at, put_ne (by omega)]
      exact ne_of_none (al a (by omega)).1.2.1 hq'
    · rw [put_ne ey, put_ne (by omega)]
      intro z
      exact absurd (inj1 a b (by omega) (by omega) z) (by omega)
  · refine Inj.lt fun a b hab hb => ?_
    by_cases ey : b = i
    · subst ey
      rw [put_at, put_ne (by omega)]
      exact ne_of_none (al a (by omega)).2.2.1 hp
    · rw [put_ne ey, put_ne (by omega)]
      intro z
      exact absurd (inj2 a b (by omega) (by omega) z) (by omega)
  · by_cases ea : a = i
    · rw [ea, put_at]
      by_cases eb : b = i
      · rw [eb, put_at]; exact qp
      · rw [put_ne eb]; exact Ne.symm (ne_of_none (al b (by omega)).2.2.1 hq')
    · rw [put_ne ea]
      by_cases eb : b = i
      · rw [eb, put_at]; exact ne_of_none (al a (by omega)).1.2.1 hp
      · rw [put_ne eb]; exact ne a b (by omega) (by omega)
def labH (D : Addr) (g h : Nat → Addr) (n : Nat) : Nat → Addr := fun k => if k = 0 then D else if k < 1 + n then g (k - 1) else h (k - 1 - n)
theorem rd__law_new {K : PySem.W.Frag} (vs : List V) (H : Hp) (Q : VK) (E : XK) (h : sp__law_new K vs H Q E) : t__law_new K { nx := fun _ H' => Q .non H', rt := Q } (start ["_law_size", "_law_name"] vs) H := by
  obtain ⟨n, rfl, hok, q⟩ := h
  unfold t__law_new
  have h6 := hok.2
  walk_at "rd"
  refine r_rgN (by omega) ?_
  refine lc_newH ((n : Int) + 1) (fun i H1 Q' hi k => ?_) (by omega) (fun _ => rfl) fun D g h H' hD s e al i1 i2 ne => ?_
  · walk_at "rd"
    refine r_nL (Nat.zero_le _) fun p hp => ?_
    walk_at "rd"
    exact r_nL (by show 3 ≤ sizeLine; decide) fun q hq => k p q hp hq
  · refine q D H' (fun b => ∃ i, i < 1 + n + n ∧ b = (labH D g h n) i) s ?_ ?_
    · have l1 : ∀ i, i < n → (labH D g h n) (1 + i) = g i := fun i hi => by
        show (if 1 + i = 0 then D else if 1 + i < 1 + n then g (1 + i - 1) else h (1 + i - 1 - n)) = _
        rw [if_neg (by omega), if_pos (by omega), Nat.add_sub_cancel_left]
      have l2 : ∀ i, i < n → (labH D g h n) (1 + n + i) = h i := fun i hi => by
        show (if 1 + n + i = 0 then D else if 1 + n + i < 1 + n then g (1 + n + i - 1) else h (1 + n + i - 1 - n)) = _
        rw [if_neg (by omega), if_neg (by omega), show 1 + n + i - 1 - n = i by omega]
      refine ⟨labH D g h n, rfl, ⟨?_, fun i hi => ?_, fun i hi => ?_, ?_⟩, fun b => Iff.rfl⟩
      · rw [show (labH D g h n) 0 = D from rfl, e]
        congr 2
        unfold vR
        refine List.map_congr_left fun i hi => ?_
        show V.ref (g i) = V.ref (labH D g h n (1 + i))
        rw [l1 i (List.mem_range.mp hi)]
      · rw [l1 i hi, l2 i hi]
        exact (al i hi).1.2.1
      · rw [l2 i hi]
        exact (al i hi).2.2.1
      · refine Inj.lt fun i j hij hj => ?_
        show (if i = 0 then D else if i < 1 + n then g (i - 1) else h (i - 1 - n)) ≠ (if j = 0 then D else if j < 1 + n then g (j - 1) else h (j - 1 - n))
        rw [if_neg (show j ≠ 0 by omega)]
        by_cases jn : j < 1 + n
        · rw [if_pos jn]
          by_cases i0 : i = 0
          · rw [if_pos i0]; exact Ne.symm (al _ (by omega)).1.2.2
          · rw [if_neg i0, if_pos (by omega)]
            intro z
            exact absurd (i1 _ _ (by omega) (by omega) z) (by omega)
        · rw [if_neg jn]
          by_cases i0 : i = 0
          · rw [if_pos i0]; exact Ne.symm (al _ (by omega)).2.2.2
          · by_cases iN : i < 1 + n
            · rw [if_neg i0, if_pos iN]; exact ne _ _ (by omega) (by omega)
            · rw [if_neg i0, if_neg iN]
              intro z
              exact absurd (i2 _ _ (by omega) (by omega) z) (by omega)
    · rintro b ⟨i, hi, rfl⟩
      show H (if i = 0 then D else if i < 1 + n then g (i - 1) else h (i - 1 - n)) = none
      by_cases i0 : i = 0
      · rw [if_pos i0]; exact hD
      by_cases iN : i < 1 + n
      · rw [if_neg i0, if_pos iN]; exact (al _ (by omega)).1.1
      · rw [if_neg i0, if_neg iN]; exact (al _ (by omega)).2.1
theorem Ls.kp {F : Addr → Prop} {H H' : Hp} {n : Nat} {low : Nat → Int} {tk : Nat → Nat} {seen : Nat → List Nat} {L : Nat → Addr} (v : Ls H n low tk seen L) (e : Kp F H H') (g : ∀ k, k < 1 + n + n → ¬ F (L k)) : Ls H' n low tk seen L :=
  ⟨e _ _ (g _ (by omega)) v.o0, fun i hi => e _ _ (g _ (by omega)) (v.o1 i hi), fun i hi => e _ _ (g _ (by omega)) (v.o2 i hi), v.inj⟩
theorem rd__law_step {K : PySem.W.Frag} (vs : List V) (H : Hp) (Q : VK) (E : XK) (h : sp__law_step K vs H Q E) : t__law_step K { nx := fun _ H' => Q .non H', rt := Q } (start ["_law_state", "_law_cells", "_law_name", "_law_size", "_law_held", "_law_at"] vs) H := by
  obtain ⟨st, cs, p, n, s, F, rfl, ⟨L, rfl, v0, hF⟩, hc, nc, hok, g, hp, q⟩ := h
  have h6 := hok.2
  have ncl : ∀ k, k < 1 + n + n → L k ≠ cs := fun k hk e => nc ((hF cs).mpr ⟨k, hk, e.symm⟩)
  have inF : ∀ k, k < 1 + n + n → F (L k) ∨ L k = cs := fun k hk => .inl ((hF _).mpr ⟨k, hk, rfl⟩)
  unfold t__law_step
  walk_at "rd"
  refine r_len (.inl (SqL.of hc)) ?_
  rw [vI_len]
  walk_at "rd"
  refine r_ixL (SqL.of v0.o0) (vR_at hp) ?_
  walk_at "rd"
  refine r_ixL (SqL.of (v0.o1 p hp)) rfl ?_
  walk_at "rd"
  refine r_mod (by omega) ?_
  rw [ats_int]
  walk_at "rd"
  refine r_ixL (SqL.of (v0.o1 p hp)) rfl ?_
  walk_at "rd"
  refine r_setL (m := 1) (v0.o1 p hp) rfl ?_
  have v1 := v0.setHeld hp (x := s.low p) (t := s.tk p + 1)
  rw [put_self rfl] at v1
  have k1 : Kp (fun b => F b ∨ b = cs) H (upd H (L (1 + p)) (.lst [.int (s.low p), .int ((s.tk p + 1 : Nat) : Int), .ref (L (1 + n + p))])) := kp_upd (inF _ (by omega))
  have c1 : upd H (L (1 + p)) (.lst [.int (s.low p), .int ((s.tk p + 1 : Nat) : Int), .ref (L (1 + n + p))]) cs = some (.lst (vI n s.low)) := by rw [upd_ne (Ne.symm (ncl _ (by omega)))]; exact hc
  have f1 : ∀ b, upd H (L (1 + p)) (.lst [.int (s.low p), .int ((s.tk p + 1 : Nat) : Int), .ref (L (1 + n + p))]) b = none → H b = none := fun b e => upd_none e
  change tSeq _ _ _ _ (upd H (L (1 + p)) (.lst [.int (s.low p), .int ((s.tk p + 1 : Nat) : Int), .ref (L (1 + n + p))]))
  generalize upd H (L (1 + p)) (.lst [.int (s.low p), .int ((s.tk p + 1 : Nat) : Int), .ref (L (1 + n + p))]) = H1 at v1 k1 c1 f1 ⊢
  walk_at "rd"
  refine br_d (fun c0 => ?_) fun c0 => ?_
  · have c0 : ats n s p = 0 := by omega
    walk_at "rd"
    refine r_ixL (SqL.of (v1.o1 p hp)) rfl ?_
    walk_at "rd"
    refine r_setL (m := 0) (v1.o1 p hp) rfl ?_
    have v2 := v1.setHeld hp (x := s.low p - 1) (t := s.tk p + 1)
    rw [put_self (f := put s.tk p (s.tk p + 1)) put_at] at v2
    have e1 : put s.tk p (s.tk p + 1) p = s.tk p + 1 := put_at
    rw [e1]
    have k2 : Kp (fun b => F b ∨ b = cs) H (upd H1 (L (1 + p)) (.lst [.int (s.low p - 1), .int ((s.tk p + 1 : Nat) : Int), .ref (L (1 + n + p))])) := k1.put (inF _ (by omega))
    have c2 : upd H1 (L (1 + p)) (.lst [.int (s.low p - 1), .int ((s.tk p + 1 : Nat) : Int), .ref (L (1 + n + p))]) cs = some (.lst (vI n s.low)) := by rw [upd_ne (Ne.symm (ncl _ (by omega)))]; exact c1
    have f2 : ∀ b, upd H1 (L (1 + p)) (.lst [.int (s.low p - 1), .int ((s.tk p + 1 : Nat) : Int), .ref (L (1 + n + p))]) b = none → H b = none := fun b e => f1 b (upd_none e)
    change tSeq _ _ _ _ (upd H1 (L (1 + p)) (.lst [.int (s.low p - 1), .int ((s.tk p + 1 : Nat) : Int), .ref (L (1 + n + p))]))
    generalize upd H1 (L (1 + p)) (.lst [.int (s.low p - 1), .int ((s.tk p + 1 : Nat) : Int), .ref (L (1 + n + p))]) = H2 at v2 k2 c2 f2 ⊢
    walk_at "rd"
    refine r_ixL (SqL.of (v2.o1 p hp)) rfl ?_
    rw [put_at]
    walk_at "rd"
    refine r_setL c2 (by rw [vI_len]; exact ix_ok hp) ?_
    rw [vI_set]
    have v3 := v2.kp (F := (· = cs)) (kp_upd (o := .lst (vI n (put s.low p (s.low p - 1)))) rfl) ncl
    have k3 := k2.put (o := .lst (vI n (put s.low p (s.low p - 1)))) (b := cs) (.inr rfl)
    walk_at "rd"
    refine r_nL (Nat.zero_le _) fun r hr => ?_
    have hrH : H r = none := f2 _ (upd_none hr)
    have rcs : cs ≠ r := fun z => by rw [← z, upd_same] at hr; cases hr
    walk_at "rd"
    refine r_setL (m := 2) ((v3.same (same_new hr)).o1 p hp) rfl ?_
    have v4 := v3.setSeen hp hr
    have k4 := (k3.new (o := .lst []) hr).put (o := .lst [.int (put s.low p (s.low p - 1) p), .int ((put s.tk p (s.tk p + 1) p : Nat) : Int), .ref r]) (inF (1 + p) (by omega))
    walk_at "rd"
    refine q .non _ (fun b => ∃ i, i < 1 + n + n ∧ b = put L (1 + n + p) r i) ?_ ?_ ?_ k4 ?_ ?_
    · rw [step_at0 c0]
      exact ⟨_, put_ne (by omega), v4, fun b => Iff.rfl⟩
    · rw [step_at0 c0]
      show upd _ (L (1 + p)) _ cs = _
      rw [upd_ne (Ne.symm (ncl _ (by omega))), upd_ne rcs, upd_same]
      rfl
    · rintro ⟨i, hi, e⟩
      by_cases ei : i = 1 + n + p
      · rw [ei, put_at] at e; exact rcs e
      · rw [put_ne ei] at e; exact ncl i hi e.symm
    · rintro b ⟨i, hi, rfl⟩
      by_cases ei : i = 1 + n + p
      · rw [ei, put_at]; exact .inr hrH
      · rw [put_ne ei]; exact .inl ((hF _).mpr ⟨i, hi, rfl⟩)
    · rw [step_at0 c0]; rfl
  · have c0 : ats n s p ≠ 0 := by omega
    have al := @ats_le n p s
    have ia : (ats n s p : Int) - 1 = ((ats n s p - 1 : Nat) : Int) := by omega
    have hq : ats n s p - 1 < n := by omega
    refine r_next ?_
    with_reducible refine r_cut (fun σ' H2 => σ' = [some (.ref (L 0)), some (.ref cs), some (.int (p : Int)), some (.int (n : Int)), some (.ref (L (1 + p))), some (.int ((ats n s p : Nat) : Int))] ∧ Ls H2 n s.low (tk1 s p) (put s.seen p (seen1 n s p)) L ∧ H2 cs = some (.lst (vI n s.low)) ∧ Kp (fun b => F b ∨ b = cs) H H2) (fun N hN => ?_) fun σ' H2 hP => ?_
    · walk_at "rd"
      rw [ia]
      refine r_ixL (SqL.of c1) (vI_at hq) ?_
      walk_at "rd"
      refine r_ixL (SqL.of (v1.o1 p hp)) rfl ?_
      walk_at "rd"
      refine br_d (fun c => ?_) fun c => ?_
      · walk_at "rd"
        refine r_ixL (SqL.of (v1.o1 p hp)) rfl ?_
        refine r_bmL (v1.o2 p hp) ?_
        walk_at "rd"
        rw [ia]
        have sl := g.seen_len hp
        refine r_app (v1.o2 p hp) (small_line (by rw [nt_len]; omega)) ?_
        rw [nt_app]
        have es : seen1 n s p = s.seen p ++ [ats n s p - 1] := if_pos c
        exact hN _ _ ⟨rfl, by rw [es]; exact v1.app hp, by rw [upd_ne (Ne.symm (ncl _ (by omega)))]; exact c1, k1.put (inF _ (by omega))⟩
      · have es : seen1 n s p = s.seen p := if_neg c
        exact hN _ _ ⟨rfl, by rw [es, put_self rfl]; exact v1, c1, k1⟩
    · obtain ⟨rfl, v2, c2, k2⟩ := hP
      have fin : ∀ {s' : Lev} {o : Option (List Nat)} {r : V} {H' : Hp}, step n s p = (s', o) → s'.low = s.low → s'.tk = tk1 s p → s'.seen = put s.seen p (seen1 n s p) → Same H2 H' → Ret H' r o → Q r H' := fun {s' o r H'} e e1 e2 e3 sm ret => by
        refine q r H' F ?_ ?_ nc (k2.trans (kp_same sm)) (fun b hb => .inl hb) ?_
        · rw [e]
          refine ⟨L, rfl, ?_, hF⟩
          rw [e1, e2, e3]
          exact v2.same sm
        · rw [e, e1]; exact sm _ _ c2
        · rw [e]; exact ret
      have on : ¬ leaves n s p → Q .non H2 := fun nl => fin (step_on c0 nl) rfl rfl rfl (Same.refl _) rfl
      walk_at "rdt"
      refine br_d (fun c1 => ?_) fun c1 => ?_
      · walk_at "rd"
        refine r_ixL (SqL.of (v2.o1 p hp)) rfl ?_
        have s4 := v2.o2 p hp
        rw [put_at] at s4
        walk_at "rd"
        refine r_len (.inl (SqL.of s4)) ?_
        rw [nt_len]
        walk_at "rd"
        refine r_ixL (SqL.of (v2.o1 p hp)) rfl ?_
        walk_at "rd"
        refine br_d (fun c2 => ?_) fun c2 => ?_
        · have lv : leaves n s p := ⟨by omega, c2⟩
          walk_at "rd"
          refine r_ixL (SqL.of (v2.o1 p hp)) rfl ?_
          walk_at "rd"
          refine r_tuple s4 fun t ht => ?_
          exact fin (step_out c0 lv) rfl rfl rfl (same_new ht) ⟨t, rfl, upd_same⟩
        · walk_at "rd"
          exact on fun z => c2 z.2
      · walk_at "rd"
        exact on fun z => c1 (by have := z.1; omega)
end K07
end
section
set_option Elab.async false
set_option linter.all false
set_option maxRecDepth 100000
set_option maxHeartbeats 4000000
/-! k07: schedules; what is asked of an object at any time -/
namespace K07
open PySem PySem.Spec PyProof.Rows L2 Nw
local macro_rules | `(tactic| walk_at "rd") => `(tactic| repeat' (first
  | with_reducible refine r_seq ?_ | with_reducible refine r_asg ?_ | with_reducible refine r_ret ?_ | with_reducible refine r_retN ?_ | with_reducible refine r_drop ?_ | with_reducible refine r_next ?_ | with_reducible refine r_brk ?_ | with_reducible refine r_cont ?_
  | ((with_reducible refine' r_var ?ev ?_); (case ev => rfl)) | with_reducible refine r_c ?_ | with_reducible refine r_op ?_ | with_reducible refine r_un ?_ | with_reducible refine r_ifS ?_ | with_reducible refine r_if ?_
  | with_reducible refine r_T ?_ | with_reducible refine r_isB ?_ | with_reducible refine r_and ?_ | with_reducible refine r_or ?_ | with_reducible refine r_not ?_ | with_reducible refine r_andV ?_ | with_reducible refine r_orV ?_ | with_reducible refine r_notV ?_
  | with_reducible refine r_nil ?_ | with_reducible refine r_cons ?_ | with_reducible refine r_lst ?_ | with_reducible refine r_tup ?_ | with_reducible refine r_ca ?_ | with_reducible refine r_cw ?_ | with_reducible refine r_cb ?_
  | with_reducible refine r_add ?_ | with_reducible refine r_sub ?_ | with_reducible refine r_neg ?_ | with_reducible refine r_lt ?_ | with_reducible refine r_le ?_ | with_reducible refine r_gt ?_ | with_reducible refine r_ge ?_ | with_reducible refine r_eqI ?_ | with_reducible refine r_neI ?_ | with_reducible refine r_eqB ?_ | with_reducible refine r_neB ?_
  | with_reducible refine r_isN ?_ | with_reducible refine r_notN ?_ | with_reducible refine r_min ?_ | with_reducible refine r_max ?_ | with_reducible refine r_int ?_ | with_reducible refine r_gcd ?_ | with_reducible refine r_for ?_ | with_reducible refine r_rg1 ?_ | with_reducible refine r_rg2 ?_ | with_reducible refine r_wlI ?_ | with_reducible refine r_wtI ?_ | with_reducible refine r_gN ?_ | with_reducible refine r_asgS ?_ | with_reducible refine r_bm0 ?_ | with_reducible refine r_bm ?_ | with_reducible refine r_lc ?_ | with_reducible refine r_gf ?_ | with_reducible refine r_sf ?_ | with_reducible refine r_ma ?_ | with_reducible refine r_mw ?_ | with_reducible refine r_pa ?_ | with_reducible refine r_ka ?_ | with_reducible refine r_kw ?_ | with_reducible refine r_chain ?_ | with_reducible refine r_ch ?_ | with_reducible refine r_dget ?_ | with_reducible refine r_din ?_ | with_reducible refine r_dnotin ?_ | with_reducible refine r_dput ?_ | with_reducible refine r_augS ?_ | with_reducible refine r_wsqI ?_ | with_reducible refine r_keysI ?_
  | with_reducible refine br_t ?_ | with_reducible refine br_f ?_ | with_reducible refine br_nt ?_ | with_reducible refine br_nf ?_))
local macro_rules | `(tactic| walk_at "rdt") => `(tactic| repeat' (first
  | with_reducible refine r_seq ?_ | with_reducible refine r_retN ?_ | with_reducible refine r_drop ?_ | with_reducible refine r_next ?_ | with_reducible refine r_brk ?_ | with_reducible refine r_cont ?_
  | ((with_reducible refine' r_var ?ev ?_); (case ev => rfl)) | with_reducible refine r_c ?_ | with_reducible refine r_op ?_ | with_reducible refine r_un ?_ | with_reducible refine r_ifS ?_ | with_reducible refine r_if ?_
  | with_reducible refine r_T ?_ | with_reducible refine r_isB ?_ | with_reducible refine r_and ?_ | with_reducible refine r_or ?_ | with_reducible refine r_not ?_ | with_reducible refine r_andV ?_ | with_reducible refine r_orV ?_ | with_reducible refine r_notV ?_
  | with_reducible refine r_nil ?_ | with_reducible refine r_cons ?_ | with_reducible refine r_lst ?_ | with_reducible refine r_tup ?_ | with_reducible refine r_ca ?_ | with_reducible refine r_cw ?_ | with_reducible refine r_cb ?_
  | with_reducible refine r_add ?_ | with_reducible refine r_sub ?_ | with_reducible refine r_neg ?_ | with_reducible refine r_lt ?_ | with_reducible refine r_le ?_ | with_reducible refine r_gt ?_ | with_reducible refine r_ge ?_ | with_reducible refine r_eqI ?_ | with_reducible refine r_neI ?_ | with_reducible refine r_eqB ?_ | with_reducible refine r_neB ?_
  | with_reducible refine r_isN ?_ | with_reducible refine r_notN ?_ | with_reducible refine r_min ?_ | with_reducible refine r_max ?_ | with_reducible refine r_int ?_ | with_reducible refine r_gcd ?_ | with_reducible refine r_for ?_ | with_reducible refine r_rg1 ?_ | with_reducible refine r_rg2 ?_ | with_reducible refine r_wlI ?_ | with_reducible refine r_wtI ?_ | with_reducible refine r_gN ?_ | with_reducible refine r_asgS ?_ | with_reducible refine r_bm0 ?_ | with_reducible refine r_bm ?_ | with_reducible refine r_lc ?_ | with_reducible refine r_gf ?_ | with_reducible refine r_sf ?_ | with_reducible refine r_ma ?_ | with_reducible refine r_mw ?_ | with_reducible refine r_pa ?_ | with_reducible refine r_ka ?_ | with_reducible refine r_kw ?_ | with_reducible refine r_chain ?_ | with_reducible refine r_ch ?_ | with_reducible refine r_dget ?_ | with_reducible refine r_din ?_ | with_reducible refine r_dnotin ?_ | with_reducible refine r_dput ?_ | with_reducible refine r_augS ?_ | with_reducible refine r_wsqI ?_ | with_reducible refine r_keysI ?_
  | with_reducible refine br_t ?_ | with_reducible refine br_f ?_ | with_reducible refine br_nt ?_ | with_reducible refine br_nf ?_))
local macro_rules | `(tactic| walk_at "rdq") => `(tactic| repeat' (first | ((with_reducible refine' r_var ?ev ?_); (case ev => rfl)) | with_reducible refine r_c ?_ | with_reducible refine r_T ?_ | with_reducible refine r_isB ?_ | with_reducible refine r_op ?_ | with_reducible refine r_eqI ?_ | with_reducible refine r_not ?_ | with_reducible refine br_t ?_ | with_reducible refine br_f ?_ | with_reducible refine br_nt ?_ | with_reducible refine br_nf ?_ | with_reducible refine r_next ?_))
local macro_rules | `(tactic| walk_at "rdv") => `(tactic| repeat' (first | ((with_reducible refine' r_var ?ev ?_); (case ev => rfl)) | with_reducible refine r_T ?_ | with_reducible refine r_isB ?_))
theorem rd__law_within {K : PySem.W.Frag} (vs : List V) (H : Hp) (Q : VK) (E : XK) (h : sp__law_within K vs H Q E) : t__law_within K { nx := fun _ H' => Q .non H', rt := Q } (start ["_law_one", "_law_other", "_law_name"] vs) H := by
  obtain ⟨x, y, xs, ys, rfl, hx, hy, hl, q⟩ := h
  unfold t__law_within
  walk_at "rd"
  refine r_wt (xs := nt xs) (.inl (.inl hx)) ?_
  refine lc_sqM (K := K) (fun v => match v with | .int i => .bl (decide (i.toNat ∈ ys)) | _ => .non) ⟨x, .inr ⟨rfl, .inl (.inl hx)⟩⟩ (by rw [nt_len]; omega) (fun _ => rfl) (fun i v H' Q' hi s1 q1 => ?_) fun D H' hD s1 e1 => ?_
  · rw [List.getElem?_map] at hi
    cases hz : xs[i]? with
    | none => rw [hz] at hi; cases hi
    | some z =>
      rw [hz] at hi
      cases hi
      walk_at "rd"
      refine r_inN (neg := false) (.inr (.inl (.inl (s1 _ _ hy)))) ?_
      exact q1 H' (Same.refl _)
  · refine r_all (bs := xs.map fun z => decide (z ∈ ys)) (by
      have : (nt xs).map (fun v => match v with | .int i => V.bl (decide (i.toNat ∈ ys)) | _ => .non) = (xs.map fun z => decide (z ∈ ys)).map V.bl := by
        rw [List.map_map, List.map_map]
        rfl
      rw [← this]
      exact SqL.of e1) ?_
    rw [List.all_map]
    exact q H' s1
theorem bad_int {n : Nat} {v : V} (h : badP n v) : ∃ b, intB v = some b := by
  rcases h with ⟨i, rfl, _⟩ | h
  · exact ⟨true, rfl⟩
  · exact ⟨_, h⟩
theorem rd_check_schedule {K : PySem.W.Frag} (vs : List V) (H : Hp) (Q : VK) (E : XK) (h : sp_check_schedule K vs H Q E) : t_check_schedule K E { nx := fun _ H' => Q .non H', rt := Q } (start ["schedule", "size", "name"] vs) H := by
  obtain ⟨sv, n, rfl, h⟩ := h
  unfold t_check_schedule
  walk_at "rd"
  have go : ∀ (a : Addr) (xs : List V) (m : Nat), sv = .ref a → Sq K H a xs → (∀ i, i < m → i < xs.length → ∃ p : Nat, p < n ∧ xs[i]? = some (.int p)) → ((xs.length ≤ m ∧ Back .non H Q) ∨ ∃ v, xs[m]? = some v ∧ badP n v ∧ RsName K v H E) →
      sp_is_row K [sv] H (fun x H1 => isB x H1 fun b H1 => br (!b) (tRaiseE (He.ga K "BadName") ps_BadName ok_BadName (fun cls d _ H => E cls d H) (tCons (tUn nNeg (tC (.int 1))) tNil) { nx := fun σ H' => (tFor (iSq K (tVar 0)) (gName 2)
        (tIfS (tOr (tNot (tT (tCa (sp_is_int K) E0 (tCons (tVar 2) tNil)))) (tNot (tT (tChain nLe nLt (tC (.int 0)) (tVar 2) (tVar 1))))) (tRaiseE (He.ga K "BadName") ps_BadName ok_BadName (fun cls d _ H => E cls d H) (tCons (tVar 2) tNil)) tNext)) { nx := fun _ H' => Q .non H', rt := Q } σ H', rt := Q } (start ["schedule", "size", "name"] [sv, .int n]) H1)
        (tNext { nx := fun σ H' => (tFor (iSq K (tVar 0)) (gName 2)
        (tIfS (tOr (tNot (tT (tCa (sp_is_int K) E0 (tCons (tVar 2) tNil)))) (tNot (tT (tChain nLe nLt (tC (.int 0)) (tVar 2) (tVar 1))))) (tRaiseE (He.ga K "BadName") ps_BadName ok_BadName (fun cls d _ H => E cls d H) (tCons (tVar 2) tNil)) tNext)) { nx := fun _ H' => Q .non H', rt := Q } σ H', rt := Q } (start ["schedule", "size", "name"] [sv, .int n]) H1)) E0 := by
    rintro a xs m rfl hx hg hm
    refine row_sq hx fun H1 s1 => ?_
    refine r_isB (br_nt (r_next ?_))
    refine r_for (r_wsqI (r_var rfl ?_))
    refine lp_sq (s1.sq hx) (fun i σ H2 => i ≤ m ∧ (∃ z, σ = [some (.ref a), some (.int n), z]) ∧ Same H1 H2) ⟨Nat.zero_le _, ⟨_, rfl⟩, Same.refl _⟩ (fun i σ' H' _ p => ⟨fun z => p.2.2.seq z, fun z => Same.seqT p.2.2 z⟩) (fun i x σ H2 hi p => ?_) (fun σ H2 p => ?_)
    · obtain ⟨him, ⟨z, rfl⟩, s2⟩ := p
      have hlt : i < xs.length := (List.getElem?_eq_some_iff.mp hi).1
      refine r_gN (r_ifS (known_test (n := n) rfl (fun Q' q => r_var rfl q) ?_))
      by_cases c : i < m
      · obtain ⟨p, hp, e⟩ := hg i c hlt
        rw [hi] at e
        cases e
        exact .inl ⟨p, hp, rfl, br_f ⟨by omega, ⟨_, rfl⟩, s2⟩⟩
      · have e : i = m := by omega
        subst e
        rcases hm with ⟨h1, _⟩ | ⟨v, h1, h2, hE⟩
        · omega
        · rw [hi] at h1
          cases h1
          obtain ⟨b, hb⟩ := bad_int h2
          exact .inr ⟨h2, br_t (name_raise rfl hb fun H3 d s3 hd => hE H3 d ((s1.trans s2).trans s3) hd)⟩
    · rcases hm with ⟨_, q⟩ | ⟨v, h1, _⟩
      · exact q H2 (s1.trans p.2.2)
      · have := (List.getElem?_eq_some_iff.mp h1).1
        omega
  rcases h with ⟨a, ps, rfl, hs, hp, q⟩ | ⟨v, hb, hE⟩
  · refine go a (nt ps) ps.length rfl hs (fun i hi _ => ?_) (.inl ⟨by rw [nt_len]; exact Nat.le_refl _, q⟩)
    refine ⟨ps[i], hp _ (List.getElem_mem hi), ?_⟩
    rw [List.getElem?_map, List.getElem?_eq_getElem hi]
    rfl
  · rcases hb with ⟨b, hb, rfl⟩ | ⟨a, xs, i, rfl, hs, hi, hb, hg⟩
    · refine row_flat hb fun H1 s1 => ?_
      refine r_isB (br_nf (r_raise ?_))
      walk_at "rd"
      exact ⟨⟨_, true, rfl, rfl⟩, fun d hd => hE H1 d s1 hd⟩
    · exact go a xs i rfl hs (fun j hj _ => hg j hj) (.inr ⟨v, hi, hb, hE⟩)
theorem rd__law_schedule {K : PySem.W.Frag} (vs : List V) (H : Hp) (Q : VK) (E : XK) (h : sp__law_schedule K vs H Q E) : t__law_schedule K { nx := fun _ H' => Q .non H', rt := Q } (start ["_law_found", "_law_size", "_law_many", "_law_word", "_law_lead", "_law_row", "_law_turn", "_law_name"] vs) H := by
  obtain ⟨l, n, rfl, hl, hok, q⟩ := h
  obtain ⟨h1, h6⟩ := hok
  unfold t__law_schedule
  walk_at "rd"
  refine take hl (by decide) fun m1 H1 hm1 hm1' b1 hl1 => ?_
  walk_at "rd"
  refine take hl1 (by decide) fun m2 H2 hm2 hm2' b2 hl2 => ?_
  walk_at "rd"
  refine take hl2 (by decide) fun w H3 hw hw' b3 hl3 => ?_
  walk_at "rd"
  refine take hl3 (by omega) fun ld H4 hd hd' b4 hl4 => ?_
  walk_at "rd"
  refine r_nL (Nat.zero_le _) fun a ha => ?_
  have b04 := ((b1.trans b2).trans b3).trans b4
  have al : a ≠ l := hl4.ne ha
  have haH : H a = none := b04.fresh al ha
  walk_at "rd"
  obtain ⟨mm, hmm⟩ : ∃ mm : Nat, m1 + m2 = mm := ⟨(m1 + m2).toNat, by omega⟩
  rw [hmm]
  refine r_rgN (by omega) ?_
  refine lp_rng (fun i σ H5 => (∃ x y, σ = [some (.ref l), some (.int n), some (.int (mm : Int)), some (.int w), some (.int ld), some (.ref a), x, y]) ∧ ∃ ps : List Nat, H5 a = some (.lst (nt ps)) ∧ ps.length = i ∧ (∀ p ∈ ps, p < n) ∧ Bt l H H5 ∧ Held l H5)
    ⟨⟨_, _, by rw [← hmm]; rfl⟩, [], upd_same, rfl, fun p hp => (nomatch hp), b04.trans (Bt.of (same_new ha)), hl4.same (same_new ha)⟩ (fun i σ H5 hi p => ?_) (fun σ H5 p => ?_)
  · obtain ⟨⟨x, y, rfl⟩, ps, e5, el, hp, b5, hl5⟩ := p
    walk_at "rd"
    refine take hl5 (by omega) fun r H6 hr hr' b6 hl6 => ?_
    have e6 := b6 a _ al e5
    with_reducible refine r_cut (fun σ' H7 => (∃ p : Nat, p < n ∧ σ' = [some (.ref l), some (.int n), some (.int (mm : Int)), some (.int w), some (.int ld), some (.ref a), some (.int (0 + (i : Int))), some (.int (p : Int))]) ∧ H7 a = some (.lst (nt ps)) ∧ Bt l H H7 ∧ Held l H7) (fun N hN => ?_) fun σ' H7 hP => ?_
    · walk_at "rd"
      have keep : ∀ H7, Bt l H6 H7 → Held l H7 → N [some (.ref l), some (.int n), some (.int (mm : Int)), some (.int w), some (.int ld), some (.ref a), some (.int (0 + (i : Int))), some (.int r)] H7 := fun H7 b7 hl7 =>
        hN _ _ ⟨⟨r.toNat, by omega, by rw [show ((r.toNat : Nat) : Int) = r by omega]⟩, b7 a _ al e6, (b5.trans b6).trans b7, hl7⟩
      refine br_d (fun c => ?_) fun c => ?_
      · walk_at "rd"
        refine take hl6 (by decide) fun z H7 hz hz' b7 hl7 => ?_
        walk_at "rd"
        refine br_d (fun c2 => ?_) fun c2 => ?_
        · walk_at "rd"
          exact hN _ _ ⟨⟨ld.toNat, by omega, by rw [show ((ld.toNat : Nat) : Int) = ld by omega]; rfl⟩, b7 a _ al e6, (b5.trans b6).trans b7, hl7⟩
        · exact keep H7 b7 hl7
      · walk_at "rd"
        exact keep H6 (Bt.refl _ _) hl6
    · obtain ⟨⟨p, hpn, rfl⟩, e7, b7, hl7⟩ := hP
      with_reducible refine r_cut (fun σ' H7 => (∃ p : Nat, p < n ∧ σ' = [some (.ref l), some (.int n), some (.int (mm : Int)), some (.int w), some (.int ld), some (.ref a), some (.int (0 + (i : Int))), some (.int (p : Int))]) ∧ H7 a = some (.lst (nt ps)) ∧ Bt l H H7 ∧ Held l H7) (fun N hN => ?_) fun σ' H8 hP => ?_
      · walk_at "rd"
        refine br_d (fun c => ?_) fun c => ?_
        · walk_at "rd"
          refine take hl7 (by decide) fun z H8 hz hz' b8 hl8 => ?_
          walk_at "rd"
          refine br_d (fun c2 => ?_) fun c2 => ?_
          · walk_at "rd"
            refine r_mod (by decide) ?_
            walk_at "rd"
            refine r_mod (by omega) ?_
            walk_at "rd"
            have m0 := Int.emod_nonneg (ld + (0 + (i : Int)) % 2) (show (n : Int) ≠ 0 by omega)
            have m1 := Int.emod_lt_of_pos (ld + (0 + (i : Int)) % 2) (show (0 : Int) < n by omega)
            exact hN _ _ ⟨⟨((ld + (0 + (i : Int)) % 2) % n).toNat, by omega, by rw [Int.toNat_of_nonneg m0]; rfl⟩, b8 a _ al e7, b7.trans b8, hl8⟩
          · walk_at "rd"
            exact hN _ _ ⟨⟨p, hpn, rfl⟩, b8 a _ al e7, b7.trans b8, hl8⟩
        · walk_at "rd"
          exact hN _ _ ⟨⟨p, hpn, rfl⟩, e7, b7, hl7⟩
      · obtain ⟨⟨x, hx, rfl⟩, e8, b8, hl8⟩ := hP
        walk_at "rd"
        refine r_bmL e8 ?_
        walk_at "rd"
        refine r_app e8 (small_line (by rw [nt_len]; omega)) ?_
        rw [nt_app]
        refine ⟨⟨_, _, rfl⟩, ps ++ [x], upd_same, by rw [List.length_append, el]; rfl, fun y hy => ?_, fun b o nb eb => ?_, ?_⟩
        · rw [List.mem_append, List.mem_singleton] at hy
          rcases hy with hy | rfl
          · exact hp y hy
          · exact hx
        · rw [upd_ne (ne_of_none eb haH)]
          exact b8 b o nb eb
        · obtain ⟨ms, e⟩ := hl8
          exact ⟨ms, by rw [upd_ne (Ne.symm al)]; exact e⟩
  · obtain ⟨⟨x, y, rfl⟩, ps, e5, el, hp, b5, hl5⟩ := p
    walk_at "rd"
    exact q ps a H5 hp (by omega) b5 hl5 al e5
end K07
end
section
set_option Elab.async false
set_option linter.all false
set_option maxRecDepth 100000
set_option maxHeartbeats 4000000
/-! k07: what is asked of an object at any time -/
namespace K07
open PySem PySem.Spec PyProof.Rows L2 Nw
local macro_rules | `(tactic| walk_at "rd") => `(tactic| repeat' (first
  | with_reducible refine r_seq ?_ | with_reducible refine r_asg ?_ | with_reducible refine r_ret ?_ | with_reducible refine r_retN ?_ | with_reducible refine r_drop ?_ | with_reducible refine r_next ?_ | with_reducible refine r_brk ?_ | with_reducible refine r_cont ?_
  | ((with_reducible refine' r_var ?ev ?_); (case ev => rfl)) | with_reducible refine r_c ?_ | with_reducible refine r_op ?_ | with_reducible refine r_un ?_ | with_reducible refine r_ifS ?_ | with_reducible refine r_if ?_
  | with_reducible refine r_T ?_ | with_reducible refine r_isB ?_ | with_reducible refine r_and ?_ | with_reducible refine r_or ?_ | with_reducible refine r_not ?_ | with_reducible refine r_andV ?_ | with_reducible refine r_orV ?_ | with_reducible refine r_notV ?_
  | with_reducible refine r_nil ?_ | with_reducible refine r_cons ?_ | with_reducible refine r_lst ?_ | with_reducible refine r_tup ?_ | with_reducible refine r_ca ?_ | with_reducible refine r_cw ?_ | with_reducible refine r_cb ?_
  | with_reducible refine r_add ?_ | with_reducible refine r_sub ?_ | with_reducible refine r_neg ?_ | with_reducible refine r_lt ?_ | with_reducible refine r_le ?_ | with_reducible refine r_gt ?_ | with_reducible refine r_ge ?_ | with_reducible refine r_eqI ?_ | with_reducible refine r_neI ?_ | with_reducible refine r_eqB ?_ | with_reducible refine r_neB ?_
  | with_reducible refine r_isN ?_ | with_reducible refine r_notN ?_ | with_reducible refine r_min ?_ | with_reducible refine r_max ?_ | with_reducible refine r_int ?_ | with_reducible refine r_gcd ?_ | with_reducible refine r_for ?_ | with_reducible refine r_rg1 ?_ | with_reducible refine r_rg2 ?_ | with_reducible refine r_wlI ?_ | with_reducible refine r_wtI ?_ | with_reducible refine r_gN ?_ | with_reducible refine r_asgS ?_ | with_reducible refine r_bm0 ?_ | with_reducible refine r_bm ?_ | with_reducible refine r_lc ?_ | with_reducible refine r_gf ?_ | with_reducible refine r_sf ?_ | with_reducible refine r_ma ?_ | with_reducible refine r_mw ?_ | with_reducible refine r_pa ?_ | with_reducible refine r_ka ?_ | with_reducible refine r_kw ?_ | with_reducible refine r_chain ?_ | with_reducible refine r_ch ?_ | with_reducible refine r_dget ?_ | with_reducible refine r_din ?_ | with_reducible refine r_dnotin ?_ | with_reducible refine r_dput ?_ | with_reducible refine r_augS ?_ | with_reducible refine r_wsqI ?_ | with_reducible refine r_keysI ?_
  | with_reducible refine br_t ?_ | with_reducible refine br_f ?_ | with_reducible refine br_nt ?_ | with_reducible refine br_nf ?_))
local macro_rules | `(tactic| walk_at "rdt") => `(tactic| repeat' (first
  | with_reducible refine r_seq ?_ | with_reducible refine r_retN ?_ | with_reducible refine r_drop ?_ | with_reducible refine r_next ?_ | with_reducible refine r_brk ?_ | with_reducible refine r_cont ?_
  | ((with_reducible refine' r_var ?ev ?_); (case ev => rfl)) | with_reducible refine r_c ?_ | with_reducible refine r_op ?_ | with_reducible refine r_un ?_ | with_reducible refine r_ifS ?_ | with_reducible refine r_if ?_
  | with_reducible refine r_T ?_ | with_reducible refine r_isB ?_ | with_reducible refine r_and ?_ | with_reducible refine r_or ?_ | with_reducible refine r_not ?_ | with_reducible refine r_andV ?_ | with_reducible refine r_orV ?_ | with_reducible refine r_notV ?_
  | with_reducible refine r_nil ?_ | with_reducible refine r_cons ?_ | with_reducible refine r_lst ?_ | with_reducible refine r_tup ?_ | with_reducible refine r_ca ?_ | with_reducible refine r_cw ?_ | with_reducible refine r_cb ?_
  | with_reducible refine r_add ?_ | with_reducible refine r_sub ?_ | with_reducible refine r_neg ?_ | with_reducible refine r_lt ?_ | with_reducible refine r_le ?_ | with_reducible refine r_gt ?_ | with_reducible refine r_ge ?_ | with_reducible refine r_eqI ?_ | with_reducible refine r_neI ?_ | with_reducible refine r_eqB ?_ | with_reducible refine r_neB ?_
  | with_reducible refine r_isN ?_ | with_reducible refine r_notN ?_ | with_reducible refine r_min ?_ | with_reducible refine r_max ?_ | with_reducible refine r_int ?_ | with_reducible refine r_gcd ?_ | with_reducible refine r_for ?_ | with_reducible refine r_rg1 ?_ | with_reducible refine r_rg2 ?_ | with_reducible refine r_wlI ?_ | with_reducible refine r_wtI ?_ | with_reducible refine r_gN ?_ | with_reducible refine r_asgS ?_ | with_reducible refine r_bm0 ?_ | with_reducible refine r_bm ?_ | with_reducible refine r_lc ?_ | with_reducible refine r_gf ?_ | with_reducible refine r_sf ?_ | with_reducible refine r_ma ?_ | with_reducible refine r_mw ?_ | with_reducible refine r_pa ?_ | with_reducible refine r_ka ?_ | with_reducible refine r_kw ?_ | with_reducible refine r_chain ?_ | with_reducible refine r_ch ?_ | with_reducible refine r_dget ?_ | with_reducible refine r_din ?_ | with_reducible refine r_dnotin ?_ | with_reducible refine r_dput ?_ | with_reducible refine r_augS ?_ | with_reducible refine r_wsqI ?_ | with_reducible refine r_keysI ?_
  | with_reducible refine br_t ?_ | with_reducible refine br_f ?_ | with_reducible refine br_nt ?_ | with_reducible refine br_nf ?_))
local macro_rules | `(tactic| walk_at "rdq") => `(tactic| repeat' (first | ((with_reducible refine' r_var ?ev ?_); (case ev => rfl)) | with_reducible refine r_c ?_ | with_reducible refine r_T ?_ | with_reducible refine r_isB ?_ | with_reducible refine r_op ?_ | with_reducible refine r_eqI ?_ | with_reducible refine r_not ?_ | with_reducible refine br_t ?_ | with_reducible refine br_f ?_ | with_reducible refine br_nt ?_ | with_reducible refine br_nf ?_ | with_reducible refine r_next ?_))
local macro_rules | `(tactic| walk_at "rdv") => `(tactic| repeat' (first | ((with_reducible refine' r_var ?ev ?_); (case ev => rfl)) | with_reducible refine r_T ?_ | with_reducible refine r_isB ?_))
theorem level_ {K : Frag} {H : Hp} {Q : VK} {E : XK} {a : Addr} {n p : Nat} {s : Lev} {F : Addr → Prop} (h : LvO K H a n s F) (hp : p < n) (q : Q (.int (s.low p)) H) : sp_Levels_level K [.ref a, .int (p : Int)] H Q E := ⟨a, _, n, s, F, rfl, h, .inl ⟨p, hp, rfl, q⟩⟩
theorem taken_ {K : Frag} {H : Hp} {Q : VK} {E : XK} {a : Addr} {n p : Nat} {s : Lev} {F : Addr → Prop} (h : LvO K H a n s F) (hp : p < n) (q : Q (.int (s.tk p : Int)) H) : sp_Levels_taken K [.ref a, .int (p : Int)] H Q E := ⟨a, _, n, s, F, rfl, h, .inl ⟨p, hp, rfl, q⟩⟩
theorem LvO.ins {K : Frag} {H : Hp} {a : Addr} {n : Nat} {s : Lev} {F : Addr → Prop} (h : LvO K H a n s F) : ∃ dx L pk, H a = some (.ins (CL K) dx (fields n L pk)) := by
  obtain ⟨dx, L, pk, ta, v, _⟩ := h
  exact ⟨dx, L, pk, v.oa⟩
theorem LsO.row {H : Hp} {st : Addr} {n : Nat} {s : Lev} {F : Addr → Prop} (h : LsO H st n s F) : ∃ L, H st = some (.lst (vR n L)) ∧ ∀ i, i < n → ∃ q, H (L i) = some (.lst [.int (s.low i), .int (s.tk i : Int), q]) := by
  obtain ⟨L, rfl, v, _⟩ := h
  exact ⟨fun i => L (1 + i), v.o0, fun i hi => ⟨_, v.o1 i hi⟩⟩
theorem rd__law_few_below {K : PySem.W.Frag} (vs : List V) (H : Hp) (Q : VK) (E : XK) (h : sp__law_few_below K vs H Q E) : t__law_few_below K { nx := fun _ H' => Q .non H', rt := Q } (start ["_law_levels", "_law_size", "_law_told", "_law_k", "_law_name", "_law_low"] vs) H := by
  obtain ⟨a, n, s, F, rfl, o, hok, g, q⟩ := h
  have h6 := hok.2
  unfold t__law_few_below
  walk_at "rd"
  refine r_rgN (by omega) ?_
  refine lc_rng (fun i => .int (s.low i)) (by omega) (fun _ => rfl) (fun i H' Q' hi s1 q1 => ?_) fun D H1 hD s1 e1 => ?_
  · obtain ⟨dx, L, pk, e⟩ := (o.same s1).ins
    walk_at "rd"
    refine r_mtI e rfl ?_
    walk_at "rd"
    rw [Int.zero_add]
    exact level_ (o.same s1) hi (q1 H' (Same.refl _))
  walk_at "rd"
  refine r_rg2N (n := n) (by omega) ⟨by omega, by omega, by omega, by omega⟩ ?_
  refine lp_rng (fun i σ H' => (∃ z, σ = [some (.ref a), some (.int (n : Int)), some (.ref D), z, none, none]) ∧ Same H1 H') ⟨⟨_, rfl⟩, Same.refl _⟩ (fun i σ H2 hi p => ?_) fun σ H2 p => ?_
  · obtain ⟨⟨z, rfl⟩, s2⟩ := p
    walk_at "rd"
    refine r_wl (SqL.of (s2 _ _ e1)) ?_
    refine lc_sqF (K := K) (fun v => match v with | .int i' => decide (i' ≤ 1 + (i : Int)) | _ => false) ⟨D, .inl ⟨rfl, SqL.of (s2 _ _ e1)⟩⟩ (by rw [List.length_map, List.length_range]; omega) (fun _ => rfl) (fun j x H' QB hx s3 q3 => ?_) (fun j x H' Q' hx s3 q3 => ?_) fun D2 H3 hD2 s3 e3 => ?_
    · rw [List.getElem?_map] at hx
      cases hz : (List.range n)[j]? with
      | none => rw [hz] at hx; cases hx
      | some y =>
        rw [hz] at hx
        cases hx
        walk_at "rd"
        exact q3 H' (Same.refl _)
    · walk_at "rd"
      exact q3 H' (Same.refl _)
    · walk_at "rd"
      refine r_len (.inl (SqL.of e3)) ?_
      walk_at "rd"
      refine br_d (fun c => ?_) fun _ => ?_
      · exfalso
        have := g.few (i + 1)
        rw [List.filter_map, List.length_map] at c
        have e : (List.range n).filter ((fun v => match v with | V.int i' => decide (i' ≤ 1 + (i : Int)) | _ => false) ∘ fun i => V.int (s.low i)) = (List.range n).filter (low? s.low ((i + 1 : Nat) : Int)) := List.filter_congr fun j _ => by
          show decide (s.low j ≤ 1 + (i : Int)) = decide (s.low j ≤ ((i + 1 : Nat) : Int))
          congr 1
          rw [show ((i + 1 : Nat) : Int) = 1 + (i : Int) by omega]
        rw [e] at c
        omega
      · exact ⟨⟨_, rfl⟩, s2.trans s3⟩
  · obtain ⟨⟨z, rfl⟩, s2⟩ := p
    walk_at "rd"
    exact q H2 (s1.trans s2)
theorem kV_kvs {looks : List (Nat × List Nat)} {ta : Nat → Addr} : ((kvs looks ta).map fun kv => kV kv.1) = ((looks.map Prod.fst).map fun (z : Nat) => (z : Int)).map V.int := by
  unfold kvs
  rw [List.map_map, List.map_map, List.map_map]
  rfl
theorem few_ {K : Frag} {H : Hp} {Q : VK} {E : XK} {a : Addr} {n : Nat} {s : Lev} {F : Addr → Prop} (h : LvO K H a n s F) (o : ok n) (g : Good n s) (q : Back (.bl true) H Q) : sp__law_few_below K [.ref a, .int (n : Int)] H Q E := ⟨a, n, s, F, rfl, h, o, g, q⟩
abbrev keyI (s : Lev) : List V := (s.keys.map fun (z : Nat) => (z : Int)).map V.int
theorem list_keys {H : Hp} {Q : VK} {lk : Addr} {s : Lev} (d : Dct H lk s.looks) (q : ∀ l, H l = none → Q (.ref l) (upd H l (.lst (keyI s)))) : rListD [.ref lk] H Q := by
  obtain ⟨ta, d⟩ := d
  refine ⟨lk, _, rfl, d.at_, fun l hl => ?_⟩
  rw [kV_kvs]
  exact q l hl
theorem sort_keys {K : Frag} {H : Hp} {Q : VK} {l : Addr} {n : Nat} {s : Lev} (g : Good n s) (e : H l = some (.lst (keyI s))) (q : ∀ p, H p = none → Q (.ref p) (upd H p (.lst (nt (goneL n s))))) : rSortedI K [.ref l] H Q := by
  refine ⟨l, s.keys.map fun (z : Nat) => (z : Int), rfl, SqL.of e, fun ns p hp hs hn => ?_⟩
  rw [ints_sorted (filter_lt n _) (hp.trans (g.goneP.map _)) hs, List.map_map]
  exact q p hn
theorem rd__law_same {K : PySem.W.Frag} (vs : List V) (H : Hp) (Q : VK) (E : XK) (h : sp__law_same K vs H Q E) : t__law_same K { nx := fun _ H' => Q .non H', rt := Q } (start ["_law_levels", "_law_state", "_law_looks", "_law_size", "_law_name", "_law_wrote", "_law_low"] vs) H := by
  obtain ⟨a, st, lk, n, s, F, F2, rfl, o, o2, d, hok, g, q⟩ := h
  have h6 := hok.2
  unfold t__law_same
  walk_at "rd"
  refine r_rgN (by omega) ?_
  obtain ⟨L, eL, eR⟩ := o2.row
  refine lc_rngF (fun p => decide (0 < s.tk p)) (fun i => .int (0 + (i : Int))) (by omega) (fun _ => rfl) (fun i H' QB hi s1 q1 => ?_) (fun i H' Q' hi _ s1 q1 => ?_) fun D H1 hD s1 e1 => ?_
  · obtain ⟨u, eu⟩ := eR i hi
    walk_at "rd"
    refine r_ixL (SqL.of (s1 _ _ eL)) (by rw [Int.zero_add]; exact vR_at hi) ?_
    walk_at "rd"
    refine r_ixL (SqL.of (s1 _ _ eu)) rfl ?_
    walk_at "rd"
    have := q1 H' (Same.refl _)
    rwa [show decide ((0 : Int) < (s.tk i : Int)) = decide (0 < s.tk i) by simp]
  · walk_at "rd"
    exact q1 H' (Same.refl _)
  walk_at "rd"
  refine r_tuple e1 fun t ht => ?_
  have s2 := Same.new (o := .tup (((List.range n).filter fun p => decide (0 < s.tk p)).map fun (i : Nat) => V.int (0 + (i : Int)))) s1 ht
  have e2 : upd H1 t (.tup (((List.range n).filter fun p => decide (0 < s.tk p)).map fun (i : Nat) => V.int (0 + (i : Int)))) t = some (.tup (nt (wrote n s))) := by rw [upd_same, nt_filter]; rfl
  generalize upd H1 t (.tup (((List.range n).filter fun p => decide (0 < s.tk p)).map fun (i : Nat) => V.int (0 + (i : Int)))) = H2 at s2 e2 ⊢
  walk_at "rd"
  obtain ⟨dx, L', pk, ei⟩ := (o.same s2).ins
  refine r_prI ei ?_
  refine ⟨a, n, s, F, rfl, o.same s2, hok, fun t3 H3 s3 e3 => ?_⟩
  walk_at "rd"
  refine r_neSame (dp_nats e3) (dp_nats (s3 _ _ e2)) lay_nats (by decide) ?_
  walk_at "rd"
  refine r_prI (s3 _ _ ei) ?_
  have s23 := s2.trans s3
  refine ⟨a, n, s, F, rfl, o.same s23, hok, fun t4 H4 s4 e4 => ?_⟩
  have s24 := s23.trans s4
  walk_at "rd"
  refine list_keys (d.same s24) fun l0 hl0 => ?_
  walk_at "rd"
  refine sort_keys (n := n) g upd_same fun l hl => ?_
  walk_at "rd"
  have s5 := Same.new (o := .lst (nt (goneL n s))) (same_new (o := .lst (keyI s)) hl0) hl
  refine r_tuple upd_same fun t6 ht6 => ?_
  have s6 := Same.new (o := .tup (nt (goneL n s))) s5 ht6
  generalize upd (upd H4 l0 (.lst (keyI s))) l (.lst (nt (goneL n s))) = H5 at s5 ht6 s6 ⊢
  refine r_neSame (dp_nats (s6 _ _ e4)) (dp_nats upd_same) lay_nats (by decide) ?_
  have s26 := s24.trans s6
  generalize upd H5 t6 (.tup (nt (goneL n s))) = H6 at s6 s26 ⊢
  walk_at "rd"
  refine r_rgN (by omega) ?_
  refine lp_rng (fun i σ H' => (∃ x y, σ = [some (.ref a), some (.ref st), some (.ref lk), some (.int (n : Int)), x, some (.ref t), y]) ∧ Same H H') ⟨⟨_, _, rfl⟩, s26⟩ (fun i σ H7 hi p => ?_) fun σ H7 p => ?_
  · obtain ⟨⟨x, y, rfl⟩, s7⟩ := p
    obtain ⟨u, eu⟩ := eR i hi
    obtain ⟨dx, L', pk, ei⟩ := (o.same s7).ins
    walk_at "rd"
    refine r_mtI ei rfl ?_
    walk_at "rd"
    rw [Int.zero_add]
    refine level_ (o.same s7) hi ?_
    walk_at "rd"
    refine r_ixL (SqL.of (s7 _ _ eL)) (vR_at hi) ?_
    walk_at "rd"
    refine r_ixL (SqL.of (s7 _ _ eu)) rfl ?_
    refine r_neSame (.int _) (.int _) lay_int (by decide) ?_
    walk_at "rd"
    refine int_of (b := true) rfl ?_
    walk_at "rd"
    refine r_mtI ei rfl ?_
    walk_at "rd"
    refine taken_ (o.same s7) hi ?_
    walk_at "rd"
    refine r_ixL (SqL.of (s7 _ _ eL)) (vR_at hi) ?_
    walk_at "rd"
    refine r_ixL (SqL.of (s7 _ _ eu)) rfl ?_
    refine r_neSame (.int _) (.int _) lay_int (by decide) ?_
    walk_at "rd"
    exact ⟨⟨_, _, rfl⟩, s7⟩
  · obtain ⟨⟨x, y, rfl⟩, s7⟩ := p
    walk_at "rd"
    exact few_ (o.same s7) hok g fun H8 s8 => q H8 (s7.trans s8)
end K07
end
section
set_option Elab.async false
set_option linter.all false
set_option maxRecDepth 100000
set_option maxHeartbeats 4000000
/-! k07: the looks are right -/
namespace K07
open PySem PySem.Spec PyProof.Rows L2 Nw
local macro_rules | `(tactic| walk_at "rd") => `(tactic| repeat' (first
  | with_reducible refine r_seq ?_ | with_reducible refine r_asg ?_ | with_reducible refine r_ret ?_ | with_reducible refine r_retN ?_ | with_reducible refine r_drop ?_ | with_reducible refine r_next ?_ | with_reducible refine r_brk ?_ | with_reducible refine r_cont ?_
  | ((with_reducible refine' r_var ?ev ?_); (case ev => rfl)) | with_reducible refine r_c ?_ | with_reducible refine r_op ?_ | with_reducible refine r_un ?_ | with_reducible refine r_ifS ?_ | with_reducible refine r_if ?_
  | with_reducible refine r_T ?_ | with_reducible refine r_isB ?_ | with_reducible refine r_and ?_ | with_reducible refine r_or ?_ | with_reducible refine r_not ?_ | with_reducible refine r_andV ?_ | with_reducible refine r_orV ?_ | with_reducible refine r_notV ?_
  | with_reducible refine r_nil ?_ | with_reducible refine r_cons ?_ | with_reducible refine r_lst ?_ | with_reducible refine r_tup ?_ | with_reducible refine r_ca ?_ | with_reducible refine r_cw ?_ | with_reducible refine r_cb ?_
  | with_reducible refine r_add ?_ | with_reducible refine r_sub ?_ | with_reducible refine r_neg ?_ | with_reducible refine r_lt ?_ | with_reducible refine r_le ?_ | with_reducible refine r_gt ?_ | with_reducible refine r_ge ?_ | with_reducible refine r_eqI ?_ | with_reducible refine r_neI ?_ | with_reducible refine r_eqB ?_ | with_reducible refine r_neB ?_
  | with_reducible refine r_isN ?_ | with_reducible refine r_notN ?_ | with_reducible refine r_min ?_ | with_reducible refine r_max ?_ | with_reducible refine r_int ?_ | with_reducible refine r_gcd ?_ | with_reducible refine r_for ?_ | with_reducible refine r_rg1 ?_ | with_reducible refine r_rg2 ?_ | with_reducible refine r_wlI ?_ | with_reducible refine r_wtI ?_ | with_reducible refine r_gN ?_ | with_reducible refine r_asgS ?_ | with_reducible refine r_bm0 ?_ | with_reducible refine r_bm ?_ | with_reducible refine r_lc ?_ | with_reducible refine r_gf ?_ | with_reducible refine r_sf ?_ | with_reducible refine r_ma ?_ | with_reducible refine r_mw ?_ | with_reducible refine r_pa ?_ | with_reducible refine r_ka ?_ | with_reducible refine r_kw ?_ | with_reducible refine r_chain ?_ | with_reducible refine r_ch ?_ | with_reducible refine r_dget ?_ | with_reducible refine r_din ?_ | with_reducible refine r_dnotin ?_ | with_reducible refine r_dput ?_ | with_reducible refine r_augS ?_ | with_reducible refine r_wsqI ?_ | with_reducible refine r_keysI ?_
  | with_reducible refine br_t ?_ | with_reducible refine br_f ?_ | with_reducible refine br_nt ?_ | with_reducible refine br_nf ?_))
local macro_rules | `(tactic| walk_at "rdt") => `(tactic| repeat' (first
  | with_reducible refine r_seq ?_ | with_reducible refine r_retN ?_ | with_reducible refine r_drop ?_ | with_reducible refine r_next ?_ | with_reducible refine r_brk ?_ | with_reducible refine r_cont ?_
  | ((with_reducible refine' r_var ?ev ?_); (case ev => rfl)) | with_reducible refine r_c ?_ | with_reducible refine r_op ?_ | with_reducible refine r_un ?_ | with_reducible refine r_ifS ?_ | with_reducible refine r_if ?_
  | with_reducible refine r_T ?_ | with_reducible refine r_isB ?_ | with_reducible refine r_and ?_ | with_reducible refine r_or ?_ | with_reducible refine r_not ?_ | with_reducible refine r_andV ?_ | with_reducible refine r_orV ?_ | with_reducible refine r_notV ?_
  | with_reducible refine r_nil ?_ | with_reducible refine r_cons ?_ | with_reducible refine r_lst ?_ | with_reducible refine r_tup ?_ | with_reducible refine r_ca ?_ | with_reducible refine r_cw ?_ | with_reducible refine r_cb ?_
  | with_reducible refine r_add ?_ | with_reducible refine r_sub ?_ | with_reducible refine r_neg ?_ | with_reducible refine r_lt ?_ | with_reducible refine r_le ?_ | with_reducible refine r_gt ?_ | with_reducible refine r_ge ?_ | with_reducible refine r_eqI ?_ | with_reducible refine r_neI ?_ | with_reducible refine r_eqB ?_ | with_reducible refine r_neB ?_
  | with_reducible refine r_isN ?_ | with_reducible refine r_notN ?_ | with_reducible refine r_min ?_ | with_reducible refine r_max ?_ | with_reducible refine r_int ?_ | with_reducible refine r_gcd ?_ | with_reducible refine r_for ?_ | with_reducible refine r_rg1 ?_ | with_reducible refine r_rg2 ?_ | with_reducible refine r_wlI ?_ | with_reducible refine r_wtI ?_ | with_reducible refine r_gN ?_ | with_reducible refine r_asgS ?_ | with_reducible refine r_bm0 ?_ | with_reducible refine r_bm ?_ | with_reducible refine r_lc ?_ | with_reducible refine r_gf ?_ | with_reducible refine r_sf ?_ | with_reducible refine r_ma ?_ | with_reducible refine r_mw ?_ | with_reducible refine r_pa ?_ | with_reducible refine r_ka ?_ | with_reducible refine r_kw ?_ | with_reducible refine r_chain ?_ | with_reducible refine r_ch ?_ | with_reducible refine r_dget ?_ | with_reducible refine r_din ?_ | with_reducible refine r_dnotin ?_ | with_reducible refine r_dput ?_ | with_reducible refine r_augS ?_ | with_reducible refine r_wsqI ?_ | with_reducible refine r_keysI ?_
  | with_reducible refine br_t ?_ | with_reducible refine br_f ?_ | with_reducible refine br_nt ?_ | with_reducible refine br_nf ?_))
local macro_rules | `(tactic| walk_at "rdq") => `(tactic| repeat' (first | ((with_reducible refine' r_var ?ev ?_); (case ev => rfl)) | with_reducible refine r_c ?_ | with_reducible refine r_T ?_ | with_reducible refine r_isB ?_ | with_reducible refine r_op ?_ | with_reducible refine r_eqI ?_ | with_reducible refine r_not ?_ | with_reducible refine br_t ?_ | with_reducible refine br_f ?_ | with_reducible refine br_nt ?_ | with_reducible refine br_nf ?_ | with_reducible refine r_next ?_))
local macro_rules | `(tactic| walk_at "rdv") => `(tactic| repeat' (first | ((with_reducible refine' r_var ?ev ?_); (case ev => rfl)) | with_reducible refine r_T ?_ | with_reducible refine r_isB ?_))
theorem within_ {K : Frag} {H : Hp} {Q : VK} {E : XK} {x y : Addr} {xs ys : List Nat} (hx : H x = some (.tup (nt xs))) (hy : H y = some (.tup (nt ys))) (hl : xs.length ≤ 6) (q : Back (.bl (xs.all fun z => decide (z ∈ ys))) H Q) : sp__law_within K [.ref x, .ref y] H Q E := ⟨x, y, xs, ys, rfl, hx, hy, hl, q⟩
theorem all_in {xs ys : List Nat} (h : ∀ z ∈ xs, z ∈ ys) : (xs.all fun z => decide (z ∈ ys)) = true := by
  rw [List.all_eq_true]
  exact fun z hz => decide_eq_true (h z hz)
theorem kvs_get {looks : List (Nat × List Nat)} {ta : Nat → Addr} {i : Nat} {q : L2.Key × V} (h : (kvs looks ta)[i]? = some q) : ∃ p S, (p, S) ∈ looks ∧ q = (ki (p : Int), .ref (ta p)) := by
  unfold kvs at h
  rw [List.getElem?_map] at h
  cases e : looks[i]? with
  | none => rw [e] at h; cases h
  | some z =>
    obtain ⟨p, S⟩ := z
    rw [e] at h
    cases h
    exact ⟨p, S, List.mem_of_getElem? e, rfl⟩
theorem rd__law_looks_right {K : PySem.W.Frag} (vs : List V) (H : Hp) (Q : VK) (E : XK) (h : sp__law_looks_right K vs H Q E) : t__law_looks_right K { nx := fun _ H' => Q .non H', rt := Q } (start ["_law_looks", "_law_state", "_law_size", "_law_name", "_law_look", "_law_other"] vs) H := by
  obtain ⟨lk, st, n, s, F, rfl, ⟨ta, d⟩, o, hok, g, q⟩ := h
  have h6 := hok.2
  obtain ⟨L, eL, eR⟩ := o.row
  unfold t__law_looks_right
  walk_at "rd"
  refine r_lock d.at_ trivial fun od => ?_
  have nst : ∀ {b : Addr} {xs : List V}, H b = some (.lst xs) → upd H lk (.frz od (.dK (kvs s.looks ta))) b = some (.lst xs) := fun {b xs} e => by
    rw [upd_ne (ne_kind e d.at_ (by intro z; cases z))]; exact e
  have ntu : ∀ p S, (p, S) ∈ s.looks → upd H lk (.frz od (.dK (kvs s.looks ta))) (ta p) = some (.tup (nt S)) := fun p S hm => by
    rw [upd_ne (ne_kind (d.tup (p, S) hm) d.at_ (by intro z; cases z))]; exact d.tup (p, S) hm
  have eL0 := nst eL
  have eR0 : ∀ i, i < n → ∃ u, upd H lk (.frz od (.dK (kvs s.looks ta))) (L i) = some (.lst [.int (s.low i), .int (s.tk i : Int), u]) := fun i hi => (eR i hi).imp fun u e => nst e
  have ed : upd H lk (.frz od (.dK (kvs s.looks ta))) lk = some (.frz od (.dK (kvs s.looks ta))) := upd_same
  have un : ∀ {G : Hp}, Same (upd H lk (.frz od (.dK (kvs s.looks ta)))) G → Same H (upd G lk (.dK (kvs s.looks ta))) := fun s1 => unlock_same d.at_ s1
  generalize upd H lk (.frz od (.dK (kvs s.looks ta))) = H0 at ntu eL0 eR0 ed un ⊢
  have gd : ∀ {G : Hp} {p : Nat} {S : List Nat} {Q' : VK}, Same H0 G → (p, S) ∈ s.looks → Q' (.ref (ta p)) G → dg (.ref lk) (.int (p : Int)) G Q' := fun {G p S Q'} s1 hm hq =>
    r_dgI (.inr ⟨od, s1 _ _ ed⟩) (key_some (List.mem_map_of_mem (f := Prod.fst) hm)) hq
  walk_at "rd"
  refine r_keys ed ?_
  refine lp_keys (fun i σ G => (∃ x y z, σ = [some (.ref lk), some (.ref st), some (.int (n : Int)), x, y, z]) ∧ Same H0 G) ⟨⟨_, _, _, rfl⟩, Same.refl _⟩ (fun i τ G _ p => p.2 _ _ ed) (fun i q0 τ G hi p => ?_) fun τ G p => ?_
  · obtain ⟨⟨x, y, z, rfl⟩, s1⟩ := p
    obtain ⟨p, S, hm, rfl⟩ := kvs_get hi
    obtain ⟨hp, l1, l2, l3, l4⟩ := g.look hm
    have eS := s1 _ _ (ntu p S hm)
    obtain ⟨u, eu⟩ := eR0 p hp
    show gName 3 (.int (p : Int)) _ _ _
    walk_at "rd"
    refine gd s1 hm ?_
    walk_at "rd"
    refine r_inN (neg := true) (.inr (.inl (.inl eS))) ?_
    rw [if_pos rfl, decide_eq_true (g.own hm)]
    walk_at "rd"
    refine r_ixL (SqL.of (s1 _ _ eL0)) (vR_at hp) ?_
    walk_at "rd"
    refine r_ixL (SqL.of (s1 _ _ eu)) rfl ?_
    walk_at "rd"
    refine r_len (.inr (.inl (.inl eS))) ?_
    rw [nt_len, l1]
    refine r_neSame (.int _) (.int _) lay_int (by decide) ?_
    walk_at "rd"
    refine r_ixL (SqL.of (s1 _ _ eL0)) (vR_at hp) ?_
    walk_at "rd"
    refine r_ixL (SqL.of (s1 _ _ eu)) rfl ?_
    walk_at "rd"
    refine r_len (.inr (.inl (.inl eS))) ?_
    rw [nt_len]
    walk_at "rd"
    refine r_mul (.inr (by omega)) ?_
    have e2 : ((n : Int) + 1 - (S.length : Nat)) * ((n : Int) + 1) = ((s.tk p : Nat) : Int) := by
      rw [l3, Int.natCast_mul]
      congr 1
      omega
    rw [e2]
    refine r_neSame (.int _) (.int _) lay_int (by decide) ?_
    walk_at "rd"
    refine r_rgN (by omega) ?_
    refine lc_rngF (low? s.low S.length) (fun i => .int (0 + (i : Int))) (by omega) (fun _ => rfl) (fun j H' QB hj s2 q1 => ?_) (fun j H' Q' hj _ s2 q1 => ?_) fun D H1 hD s2 e1 => ?_
    · obtain ⟨v, ev⟩ := eR0 j hj
      walk_at "rd"
      refine r_ixL (SqL.of (s2 _ _ (s1 _ _ eL0))) (by rw [Int.zero_add]; exact vR_at hj) ?_
      walk_at "rd"
      refine r_ixL (SqL.of (s2 _ _ (s1 _ _ ev))) rfl ?_
      walk_at "rd"
      refine r_len (.inr (.inl (.inl (s2 _ _ eS)))) ?_
      rw [nt_len]
      walk_at "rd"
      exact q1 H' (Same.refl _)
    · walk_at "rd"
      exact q1 H' (Same.refl _)
    walk_at "rd"
    refine r_tuple e1 fun t ht => ?_
    have s3 := Same.new (o := .tup (((List.range n).filter (low? s.low S.length)).map fun (i : Nat) => V.int (0 + (i : Int)))) s2 ht
    have e3 : upd H1 t (.tup (((List.range n).filter (low? s.low S.length)).map fun (i : Nat) => V.int (0 + (i : Int)))) t = some (.tup (nt S)) := by rw [upd_same, nt_filter, ← l2]
    generalize upd H1 t (.tup (((List.range n).filter (low? s.low S.length)).map fun (i : Nat) => V.int (0 + (i : Int)))) = H2 at s3 e3 ⊢
    refine r_neSame (dp_nats (s3 _ _ eS)) (dp_nats e3) lay_nats (by decide) ?_
    have s13 := s1.trans s3
    walk_at "rd"
    refine r_keys (s13 _ _ ed) ?_
    refine lp_keys (fun i σ G => (∃ z, σ = [some (.ref lk), some (.ref st), some (.int (n : Int)), some (.int (p : Int)), some (.ref (ta p)), z]) ∧ Same H0 G) ⟨⟨_, rfl⟩, s13⟩ (fun i τ G _ p => p.2 _ _ ed) (fun i q1 τ G hi p => ?_) fun τ G p => ?_
    · obtain ⟨⟨z, rfl⟩, s4⟩ := p
      obtain ⟨r, T, hr, rfl⟩ := kvs_get hi
      obtain ⟨_, m1, m2, m3, m4⟩ := g.look hr
      show gName 5 (.int (r : Int)) _ _ _
      walk_at "rd"
      refine gd s4 hr ?_
      walk_at "rd"
      refine within_ (s4 _ _ (ntu p S hm)) (s4 _ _ (ntu r T hr)) (by omega) fun H5 s5 => ?_
      have s45 := s4.trans s5
      have last : ∀ (D : Ends) G, (∀ G', Same H0 G' → D.nx [some (.ref lk), some (.ref st), some (.int (n : Int)), some (.int (p : Int)), some (.ref (ta p)), some (.int (r : Int))] G') → Same H0 G → (tIfS (tAnd (tT (tOp (rIn K false) (tVar 5) (tVar 4))) (tNot (tT (tCa (sp__law_within K) E0 (tCons (tDGet (tVar 0) (tVar 5)) (tCons (tVar 4) tNil))))))
          (tRet (tC (.bl false))) tNext) D [some (.ref lk), some (.ref st), some (.int (n : Int)), some (.int (p : Int)), some (.ref (ta p)), some (.int (r : Int))] G := by
        intro D G hD s6
        walk_at "rd"
        refine r_inN (neg := false) (.inr (.inl (.inl (s6 _ _ (ntu p S hm))))) ?_
        walk_at "rd"
        rw [if_neg (by decide)]
        refine br_d (fun c => ?_) fun c => ?_
        · walk_at "rd"
          refine gd s6 hr ?_
          walk_at "rd"
          refine within_ (s6 _ _ (ntu r T hr)) (s6 _ _ (ntu p S hm)) (by omega) fun H7 s7 => ?_
          rw [all_in (g.seen_in hm hr c)]
          walk_at "rd"
          exact hD _ (s6.trans s7)
        · walk_at "rd"
          exact hD _ s6
      cases hb : S.all fun z => decide (z ∈ T) with
      | true =>
        walk_at "rdq"
        exact last _ H5 (fun G' s' => ⟨⟨_, rfl⟩, s'⟩) s45
      | false =>
        refine r_isB ?_
        refine br_nf ?_
        walk_at "rd"
        refine gd s45 hr ?_
        walk_at "rd"
        refine within_ (s45 _ _ (ntu r T hr)) (s45 _ _ (ntu p S hm)) (by omega) fun H6 s6 => ?_
        have le : T.length ≤ S.length := by
          refine Classical.byContradiction fun c => ?_
          rw [all_in (g.sub hm hr (by omega))] at hb
          cases hb
        rw [all_in (g.sub hr hm le)]
        walk_at "rdq"
        exact last _ H6 (fun G' s' => ⟨⟨_, rfl⟩, s'⟩) (s45.trans s6)
    · obtain ⟨⟨z, rfl⟩, s4⟩ := p
      exact ⟨⟨_, _, _, rfl⟩, s4⟩
  · obtain ⟨⟨x, y, z, rfl⟩, s1⟩ := p
    refine ⟨s1 _ _ ed, ?_⟩
    walk_at "rd"
    exact q _ (un s1)
end K07
end
section
set_option Elab.async false
set_option linter.all false
set_option maxRecDepth 100000
set_option maxHeartbeats 4000000
/-! k07: a run -/
namespace K07
open PySem PySem.Spec PyProof.Rows L2 Nw
local macro_rules | `(tactic| walk_at "rd") => `(tactic| repeat' (first
  | with_reducible refine r_seq ?_ | with_reducible refine r_asg ?_ | with_reducible refine r_ret ?_ | with_reducible refine r_retN ?_ | with_reducible refine r_drop ?_ | with_reducible refine r_next ?_ | with_reducible refine r_brk ?_ | with_reducible refine r_cont ?_
  | ((with_reducible refine' r_var ?ev ?_); (case ev => rfl)) | with_reducible refine r_c ?_ | with_reducible refine r_op ?_ | with_reducible refine r_un ?_ | with_reducible refine r_ifS ?_ | with_reducible refine r_if ?_
  | with_reducible refine r_T ?_ | with_reducible refine r_isB ?_ | with_reducible refine r_and ?_ | with_reducible refine r_or ?_ | with_reducible refine r_not ?_ | with_reducible refine r_andV ?_ | with_reducible refine r_orV ?_ | with_reducible refine r_notV ?_
  | with_reducible refine r_nil ?_ | with_reducible refine r_cons ?_ | with_reducible refine r_lst ?_ | with_reducible refine r_tup ?_ | with_reducible refine r_ca ?_ | with_reducible refine r_cw ?_ | with_reducible refine r_cb ?_
  | with_reducible refine r_add ?_ | with_reducible refine r_sub ?_ | with_reducible refine r_neg ?_ | with_reducible refine r_lt ?_ | with_reducible refine r_le ?_ | with_reducible refine r_gt ?_ | with_reducible refine r_ge ?_ | with_reducible refine r_eqI ?_ | with_reducible refine r_neI ?_ | with_reducible refine r_eqB ?_ | with_reducible refine r_neB ?_
  | with_reducible refine r_isN ?_ | with_reducible refine r_notN ?_ | with_reducible refine r_min ?_ | with_reducible refine r_max ?_ | with_reducible refine r_int ?_ | with_reducible refine r_gcd ?_ | with_reducible refine r_for ?_ | with_reducible refine r_rg1 ?_ | with_reducible refine r_rg2 ?_ | with_reducible refine r_wlI ?_ | with_reducible refine r_wtI ?_ | with_reducible refine r_gN ?_ | with_reducible refine r_asgS ?_ | with_reducible refine r_bm0 ?_ | with_reducible refine r_bm ?_ | with_reducible refine r_lc ?_ | with_reducible refine r_gf ?_ | with_reducible refine r_sf ?_ | with_reducible refine r_ma ?_ | with_reducible refine r_mw ?_ | with_reducible refine r_pa ?_ | with_reducible refine r_ka ?_ | with_reducible refine r_kw ?_ | with_reducible refine r_chain ?_ | with_reducible refine r_ch ?_ | with_reducible refine r_dget ?_ | with_reducible refine r_din ?_ | with_reducible refine r_dnotin ?_ | with_reducible refine r_dput ?_ | with_reducible refine r_augS ?_ | with_reducible refine r_wsqI ?_ | with_reducible refine r_keysI ?_
  | with_reducible refine br_t ?_ | with_reducible refine br_f ?_ | with_reducible refine br_nt ?_ | with_reducible refine br_nf ?_))
local macro_rules | `(tactic| walk_at "rdt") => `(tactic| repeat' (first
  | with_reducible refine r_seq ?_ | with_reducible refine r_retN ?_ | with_reducible refine r_drop ?_ | with_reducible refine r_next ?_ | with_reducible refine r_brk ?_ | with_reducible refine r_cont ?_
  | ((with_reducible refine' r_var ?ev ?_); (case ev => rfl)) | with_reducible refine r_c ?_ | with_reducible refine r_op ?_ | with_reducible refine r_un ?_ | with_reducible refine r_ifS ?_ | with_reducible refine r_if ?_
  | with_reducible refine r_T ?_ | with_reducible refine r_isB ?_ | with_reducible refine r_and ?_ | with_reducible refine r_or ?_ | with_reducible refine r_not ?_ | with_reducible refine r_andV ?_ | with_reducible refine r_orV ?_ | with_reducible refine r_notV ?_
  | with_reducible refine r_nil ?_ | with_reducible refine r_cons ?_ | with_reducible refine r_lst ?_ | with_reducible refine r_tup ?_ | with_reducible refine r_ca ?_ | with_reducible refine r_cw ?_ | with_reducible refine r_cb ?_
  | with_reducible refine r_add ?_ | with_reducible refine r_sub ?_ | with_reducible refine r_neg ?_ | with_reducible refine r_lt ?_ | with_reducible refine r_le ?_ | with_reducible refine r_gt ?_ | with_reducible refine r_ge ?_ | with_reducible refine r_eqI ?_ | with_reducible refine r_neI ?_ | with_reducible refine r_eqB ?_ | with_reducible refine r_neB ?_
  | with_reducible refine r_isN ?_ | with_reducible refine r_notN ?_ | with_reducible refine r_min ?_ | with_reducible refine r_max ?_ | with_reducible refine r_int ?_ | with_reducible refine r_gcd ?_ | with_reducible refine r_for ?_ | with_reducible refine r_rg1 ?_ | with_reducible refine r_rg2 ?_ | with_reducible refine r_wlI ?_ | with_reducible refine r_wtI ?_ | with_reducible refine r_gN ?_ | with_reducible refine r_asgS ?_ | with_reducible refine r_bm0 ?_ | with_reducible refine r_bm ?_ | with_reducible refine r_lc ?_ | with_reducible refine r_gf ?_ | with_reducible refine r_sf ?_ | with_reducible refine r_ma ?_ | with_reducible refine r_mw ?_ | with_reducible refine r_pa ?_ | with_reducible refine r_ka ?_ | with_reducible refine r_kw ?_ | with_reducible refine r_chain ?_ | with_reducible refine r_ch ?_ | with_reducible refine r_dget ?_ | with_reducible refine r_din ?_ | with_reducible refine r_dnotin ?_ | with_reducible refine r_dput ?_ | with_reducible refine r_augS ?_ | with_reducible refine r_wsqI ?_ | with_reducible refine r_keysI ?_
  | with_reducible refine br_t ?_ | with_reducible refine br_f ?_ | with_reducible refine br_nt ?_ | with_reducible refine br_nf ?_))
local macro_rules | `(tactic| walk_at "rdq") => `(tactic| repeat' (first | ((with_reducible refine' r_var ?ev ?_); (case ev => rfl)) | with_reducible refine r_c ?_ | with_reducible refine r_T ?_ | with_reducible refine r_isB ?_ | with_reducible refine r_op ?_ | with_reducible refine r_eqI ?_ | with_reducible refine r_not ?_ | with_reducible refine br_t ?_ | with_reducible refine br_f ?_ | with_reducible refine br_nt ?_ | with_reducible refine br_nf ?_ | with_reducible refine r_next ?_))
local macro_rules | `(tactic| walk_at "rdv") => `(tactic| repeat' (first | ((with_reducible refine' r_var ?ev ?_); (case ev => rfl)) | with_reducible refine r_T ?_ | with_reducible refine r_isB ?_))
theorem made_same {H : Hp} {x dx : Addr} {o : HO} (hx : H x = none) (hd : H dx = none) : Same H (upd (upd H dx (.own x)) x o) := fun b u e => by
  rw [upd_ne (ne_of_none e hx), upd_ne (ne_of_none e hd)]
  exact e
theorem make_ {K : Frag} {H : Hp} {Q : VK} {E : XK} {n : Nat} (o : ok n) (q : ∀ a H' F, Same H H' → LvO K H' a n (new n) F → (∀ b, F b → H b = none) → Q (.ref a) H') : mkN (CL K) (sp_Levels___init__ K) Q E [.int (n : Int)] H := fun x dx hx hd ne =>
  ⟨x, dx, _, rfl, upd_same, .inl ⟨n, rfl, o, fun H' F l k f => ⟨rfl, q x H' F (fun b u e => k b u (ne_of_none e hx) (made_same hx hd b u e)) l fun b hb => upd_none (upd_none (f b hb))⟩⟩⟩
theorem make_bad {K : Frag} {H : Hp} {Q : VK} {E : XK} {v : V} (h : badS v) (hE : RsSize K H E) : mkN (CL K) (sp_Levels___init__ K) Q E [v] H := fun x dx hx hd ne =>
  ⟨x, dx, _, rfl, upd_same, .inr ⟨h, fun H' d s e => hE H' d ((made_same hx hd).trans s) e⟩⟩
theorem Dct.put {H : Hp} {d t : Addr} {looks : List (Nat × List Nat)} {p : Nat} {S : List Nat} {ta : Nat → Addr} (h : Dc H d looks ta) (hp : p ∉ looks.map Prod.fst) (ht : H t = some (.tup (nt S))) : Dct (upd H d (.dK (putK (kvs looks ta) (ki (p : Int)) (.ref t)))) d (looks ++ [(p, S)]) := by
  rw [putK_kvs (S := S) hp]
  exact ⟨_, h.add hp ht (ne_kind ht h.at_ (by intro z; cases z))⟩
theorem dput_kp {H : Hp} {d : Addr} {o : HO} : Kp (· = d) H (upd H d o) := kp_upd rfl
theorem dct_mu {H : Hp} {d : Addr} {looks : List (Nat × List Nat)} (h : Dct H d looks) : Mu (· = d) H := fun b hb => by
  obtain ⟨ta, h⟩ := h
  rw [hb]
  exact ⟨_, h.at_, trivial⟩
theorem bad_same {K : Frag} {H H' : Hp} {n : Nat} {sv v : V} (h : badSched K H n sv v) (s : Same H H') : badSched K H' n sv v := by
  rcases h with h | ⟨a, xs, i, e, hx, h⟩
  · exact .inl h
  · exact .inr ⟨a, xs, i, e, s.sq hx, h⟩
theorem RsName.same {K : Frag} {H H' : Hp} {v : V} {E : XK} (h : RsName K v H E) (s : Same H H') : RsName K v H' E := fun H2 d s2 e => h H2 d (s.trans s2) e
theorem notN_non {Q : VK} {H : Hp} (q : Q (.bl false) H) : nNotN .non .non H Q := ⟨rfl, q⟩
theorem notN_ref {Q : VK} {H : Hp} {t : Addr} (q : Q (.bl true) H) : nNotN (.ref t) .non H Q := ⟨rfl, by
  rw [show (!decide (V.ref t = V.non)) = true by simp]
  exact q⟩
theorem sched_in {n p : Nat} {s : Lev} (h : p ∈ s.keys) : sched n s p = s := if_pos h
theorem sched_out {n p : Nat} {s : Lev} (h : p ∉ s.keys) : sched n s p = (step n s p).1 := if_neg h
/-- the state in a run: the object, the dict of looks, all else as it was -/
structure At (K : Frag) (H0 H : Hp) (a d : Addr) (n : Nat) (s : Lev) (F : Addr → Prop) : Prop where
  o : LvO K H a n s F
  dc : Dct H d s.looks
  nd : ¬ F d
  fF : ∀ b, F b → H0 b = none
  fd : H0 d = none
  same : Same H0 H
theorem At.keep {K : Frag} {H0 H H' : Hp} {a d : Addr} {n : Nat} {s : Lev} {F : Addr → Prop} (h : At K H0 H a d n s F) (e : Same H H') : At K H0 H' a d n s F := ⟨h.o.same e, h.dc.same e, h.nd, h.fF, h.fd, h.same.trans e⟩
/-- a step of the object, told -/
theorem At.step {K : Frag} {H0 H H' : Hp} {a d : Addr} {n p : Nat} {s : Lev} {F F' : Addr → Prop} {o' : Option (List Nat)} {s' : Lev} (h : At K H0 H a d n s F) (e : step n s p = (s', o')) (l : LvO K H' a n s' F') (k : Kp F H H') (f : ∀ b, F' b → F b ∨ H b = none) :
    LvO K H' a n s' F' ∧ Dct H' d s.looks ∧ ¬ F' d ∧ (∀ b, F' b → H0 b = none) ∧ Same H0 H' := by
  refine ⟨l, h.dc.kp k h.nd h.o.mu, fun z => ?_, fun b hb => ?_, fun b u e => k b u (fun z => by rw [h.fF b z] at e; cases e) (h.same b u e)⟩
  · rcases f d z with z | z
    · exact h.nd z
    · obtain ⟨ta, hd⟩ := h.dc
      rw [hd.at_] at z
      cases z
  · rcases f b hb with z | z
    · exact h.fF b z
    · exact same_none h.same z
theorem rd_levels_run {K : PySem.W.Frag} (vs : List V) (H : Hp) (Q : VK) (E : XK) (h : sp_levels_run K vs H Q E) : t_levels_run K E { nx := fun _ H' => Q .non H', rt := Q } (start ["size", "schedule", "levels", "looks", "name", "look"] vs) H := by
  obtain ⟨nv, sv, rfl, h⟩ := h
  unfold t_levels_run
  walk_at "rd"
  rcases h with ⟨n, sa, ps, rfl, hok, rfl, hs, hp, q⟩ | ⟨hb, hE⟩ | ⟨n, v, rfl, hok, hb, hE⟩
  rotate_left
  · exact make_bad hb hE
  · refine make_ hok fun a H1 F s1 o f => ?_
    walk_at "rd"
    exact ⟨sv, n, rfl, .inr ⟨v, bad_same hb s1, hE.same s1⟩⟩
  refine make_ hok fun a H1 F s1 o f => ?_
  walk_at "rd"
  refine ⟨.ref sa, n, rfl, .inl ⟨sa, ps, rfl, s1.sq hs, hp, fun H2 s2 => ?_⟩⟩
  have s12 := s1.trans s2
  walk_at "rd"
  refine r_dnew fun d hd => ?_
  have sd := same_new (o := .dK []) hd
  have hdH := same_none s12 hd
  have A0 : At K H (upd H2 d (.dK [])) a d n (new n) F := ⟨(o.same s2).same sd, ⟨fun _ => 0, upd_same, fun p hp => nomatch hp⟩, fun z => (o.same s2).mu.some z hd, f, hdH, s12.trans sd⟩
  walk_at "rd"
  have h6 := hok.2
  refine lp_sq0 (xs := nt ps) hs (s12.trans sd) (fun i σ G => (∃ x y, σ = [some (.int (n : Int)), some (.ref sa), some (.ref a), some (.ref d), x, y]) ∧ ∃ F, At K H G a d n (runs n (new n) (ps.take i)) F) ⟨⟨_, _, rfl⟩, F, A0⟩ (fun i τ G p => p.2.choose_spec.same) (fun i x τ G hi p => ?_) fun τ G p => ?_
  · obtain ⟨⟨x, y, rfl⟩, F1, A⟩ := p
    rw [List.getElem?_map] at hi
    cases hz : ps[i]? with
    | none => rw [hz] at hi; cases hi
    | some p =>
    rw [hz] at hi
    cases hi
    have hpn := hp p (List.mem_of_getElem? hz)
    have gd : Good n (runs n (new n) (ps.take i)) := (Good.new n).runs hok.1 fun q hq => hp q (List.mem_of_mem_take hq)
    rw [run_take hz]
    generalize runs n (new n) (ps.take i) = s at A gd ⊢
    obtain ⟨ta, dc⟩ := id A.dc
    walk_at "rd"
    refine r_diI (.inl dc.at_) ?_
    rw [if_neg (by decide)]
    by_cases hk : p ∈ s.keys
    · rw [key_some hk]
      walk_at "rd"
      refine br_f ?_
      refine r_next ?_
      rw [sched_in hk]
      exact ⟨⟨_, _, rfl⟩, F1, A⟩
    · rw [key_none hk, sched_out hk]
      walk_at "rd"
      refine br_t ?_
      obtain ⟨dx, L, pk, ei⟩ := A.o.ins
      walk_at "rd"
      refine r_mtI ei rfl ?_
      walk_at "rd"
      refine ⟨a, _, n, s, F1, rfl, A.o, hok, gd, .inl ⟨p, hpn, rfl, hk, fun r G2 F2 l2 k2 f2 ret => ?_⟩⟩
      generalize hst : step n s p = res at l2 ret ⊢
      obtain ⟨s', o'⟩ := res
      obtain ⟨l3, d3, nd3, fF3, sm3⟩ := A.step hst l2 k2 f2
      have lk := @step_looks n s p
      rw [hst] at lk
      walk_at "rd"
      cases o' with
      | none =>
        have lk : s'.looks = s.looks := lk.trans (List.append_nil _)
        cases ret
        refine br_nd (fun c => absurd rfl c) fun _ => ?_
        walk_at "rd"
        exact ⟨⟨_, _, rfl⟩, F2, l3, by rw [lk]; exact d3, nd3, fF3, A.fd, sm3⟩
      | some S =>
        obtain ⟨t, rfl, et⟩ := ret
        have lk : s'.looks = s.looks ++ [(p, S)] := lk
        refine br_nd (fun _ => ?_) fun c => nomatch c
        walk_at "rd"
        obtain ⟨tb, dc3⟩ := id d3
        have ll := gd.looks_len
        refine r_dpI dc3.at_ (small_line (by rw [kvs_len]; omega)) ?_
        refine ⟨⟨_, _, rfl⟩, F2, l3.kp (G := (· = d)) dput_kp (fun b hb e => nd3 (e ▸ hb)) (dct_mu d3), by rw [lk]; exact Dct.put dc3 hk et, nd3, fF3, A.fd, fun b u e => ?_⟩
        rw [upd_ne (ne_of_none e A.fd)]
        exact sm3 b u e
  · obtain ⟨⟨x, y, rfl⟩, F1, A⟩ := p
    rw [nt_len, List.take_length] at A
    have gd : Good n (runs n (new n) ps) := (Good.new n).runs hok.1 hp
    generalize runs n (new n) ps = s at A gd q ⊢
    obtain ⟨dx, L, pk, ei⟩ := A.o.ins
    obtain ⟨ta, dc⟩ := id A.dc
    walk_at "rd"
    refine r_prI ei ?_
    refine ⟨a, n, s, F1, rfl, A.o, hok, fun tw G1 sw ew => ?_⟩
    walk_at "rd"
    refine r_prI (sw _ _ ei) ?_
    refine ⟨a, n, s, F1, rfl, A.o.same sw, hok, fun tg G2 sg eg => ?_⟩
    have s2 := sw.trans sg
    walk_at "rd"
    refine r_wt (xs := nt (goneL n s)) (.inl (.inl eg)) ?_
    have ln : (goneL n s).length ≤ n := by
      have := gd.goneP.length_eq
      have h2 := gd.looks_len
      unfold Lev.keys at this
      rw [List.length_map] at this
      omega
    refine lc_sqE (K := K) (xs := nt (goneL n s)) (fun i y G => ∀ p, (goneL n s)[i]? = some p → ∃ b u S, y = V.ref b ∧ G b = some (.tup [.int (p : Nat), .ref u]) ∧ (p, S) ∈ s.looks ∧ G u = some (.tup (nt S))) (fun i y G1 G2 ts h p hp => ?_) ⟨tg, .inr ⟨rfl, .inl (.inl eg)⟩⟩ (by rw [nt_len]; omega) (fun i x G' Q' hi s3 q3 => ⟨rfl, ?_⟩) fun D ys G3 hD s3 e3 hl h3 => ?_
    · obtain ⟨b, u, S, e1, e2, e3, e4⟩ := h p hp
      exact ⟨b, u, S, e1, ts _ _ e2, e3, ts _ _ e4⟩
    · rw [List.getElem?_map] at hi
      cases hz : (goneL n s)[i]? with
      | none => rw [hz] at hi; cases hi
      | some p =>
        rw [hz] at hi
        cases hi
        have hk : p ∈ s.keys := gd.goneP.mem_iff.mpr (List.mem_of_getElem? hz)
        obtain ⟨⟨p', S⟩, hm, rfl⟩ := List.mem_map.mp hk
        have s23 := s2.trans s3
        walk_at "rd"
        refine r_dgI (.inl (s23 _ _ dc.at_)) (key_some hk) ?_
        walk_at "rd"
        refine r_nT (by show 2 ≤ sizeLine; decide) fun b hb => ?_
        refine q3 _ _ (same_new hb) fun p2 hp2 => ?_
        rw [hz] at hp2
        cases hp2
        exact ⟨b, ta p', S, rfl, upd_same, hm, (same_new hb) _ _ (s23 _ _ (dc.tup (p', S) hm))⟩
    · walk_at "rd"
      refine r_tuple e3 fun tl htl => ?_
      have s4 := Same.new (o := .tup ys) s3 htl
      have etl : upd G3 tl (.tup ys) tl = some (.tup ys) := upd_same
      have h4 : ∀ i, i < (nt (goneL n s)).length → ∃ y, ys[i]? = some y ∧ ∀ p, (goneL n s)[i]? = some p → ∃ b u S, y = V.ref b ∧ upd G3 tl (.tup ys) b = some (.tup [.int (p : Nat), .ref u]) ∧ (p, S) ∈ s.looks ∧ upd G3 tl (.tup ys) u = some (.tup (nt S)) := fun i hi => by
        obtain ⟨y, e1, e2⟩ := h3 i hi
        refine ⟨y, e1, fun p hp => ?_⟩
        obtain ⟨b, u, S, z1, z2, z3, z4⟩ := e2 p hp
        exact ⟨b, u, S, z1, same_new htl _ _ z2, z3, same_new htl _ _ z4⟩
      generalize upd G3 tl (.tup ys) = G4 at s4 etl h4 ⊢
      walk_at "rd"
      refine r_nT (by show 2 ≤ sizeLine; decide) fun t ht => ?_
      have s5 := same_new (o := .tup [.ref tw, .ref tl]) ht
      refine q _ _ (((A.same.trans s2).trans s4).trans s5) ⟨t, tw, tl, ys, rfl, upd_same, s5 _ _ (s4 _ _ (sg _ _ ew)), s5 _ _ etl, by rw [hl, nt_len], fun i p hp => ?_⟩
      have hi : i < (nt (goneL n s)).length := by
        rw [nt_len]
        exact (List.getElem?_eq_some_iff.mp hp).1
      obtain ⟨y, e1, e2⟩ := h4 i hi
      obtain ⟨b, u, S, z1, z2, z3, z4⟩ := e2 p hp
      exact ⟨y, e1, b, u, S, z1, s5 _ _ z2, z3, s5 _ _ z4⟩
end K07
end
section
set_option Elab.async false
set_option linter.all false
set_option maxRecDepth 100000
set_option maxHeartbeats 4000000
/-! k07: refusals -/
namespace K07
open PySem PySem.Spec PyProof.Rows L2 Nw
local macro_rules | `(tactic| walk_at "rd") => `(tactic| repeat' (first
  | with_reducible refine r_seq ?_ | with_reducible refine r_asg ?_ | with_reducible refine r_ret ?_ | with_reducible refine r_retN ?_ | with_reducible refine r_drop ?_ | with_reducible refine r_next ?_ | with_reducible refine r_brk ?_ | with_reducible refine r_cont ?_
  | ((with_reducible refine' r_var ?ev ?_); (case ev => rfl)) | with_reducible refine r_c ?_ | with_reducible refine r_op ?_ | with_reducible refine r_un ?_ | with_reducible refine r_ifS ?_ | with_reducible refine r_if ?_
  | with_reducible refine r_T ?_ | with_reducible refine r_isB ?_ | with_reducible refine r_and ?_ | with_reducible refine r_or ?_ | with_reducible refine r_not ?_ | with_reducible refine r_andV ?_ | with_reducible refine r_orV ?_ | with_reducible refine r_notV ?_
  | with_reducible refine r_nil ?_ | with_reducible refine r_cons ?_ | with_reducible refine r_lst ?_ | with_reducible refine r_tup ?_ | with_reducible refine r_ca ?_ | with_reducible refine r_cw ?_ | with_reducible refine r_cb ?_
  | with_reducible refine r_add ?_ | with_reducible refine r_sub ?_ | with_reducible refine r_neg ?_ | with_reducible refine r_lt ?_ | with_reducible refine r_le ?_ | with_reducible refine r_gt ?_ | with_reducible refine r_ge ?_ | with_reducible refine r_eqI ?_ | with_reducible refine r_neI ?_ | with_reducible refine r_eqB ?_ | with_reducible refine r_neB ?_
  | with_reducible refine r_isN ?_ | with_reducible refine r_notN ?_ | with_reducible refine r_min ?_ | with_reducible refine r_max ?_ | with_reducible refine r_int ?_ | with_reducible refine r_gcd ?_ | with_reducible refine r_for ?_ | with_reducible refine r_rg1 ?_ | with_reducible refine r_rg2 ?_ | with_reducible refine r_wlI ?_ | with_reducible refine r_wtI ?_ | with_reducible refine r_gN ?_ | with_reducible refine r_asgS ?_ | with_reducible refine r_bm0 ?_ | with_reducible refine r_bm ?_ | with_reducible refine r_lc ?_ | with_reducible refine r_gf ?_ | with_reducible refine r_sf ?_ | with_reducible refine r_ma ?_ | with_reducible refine r_mw ?_ | with_reducible refine r_pa ?_ | with_reducible refine r_ka ?_ | with_reducible refine r_kw ?_ | with_reducible refine r_chain ?_ | with_reducible refine r_ch ?_ | with_reducible refine r_dget ?_ | with_reducible refine r_din ?_ | with_reducible refine r_dnotin ?_ | with_reducible refine r_dput ?_ | with_reducible refine r_augS ?_ | with_reducible refine r_wsqI ?_ | with_reducible refine r_keysI ?_
  | with_reducible refine br_t ?_ | with_reducible refine br_f ?_ | with_reducible refine br_nt ?_ | with_reducible refine br_nf ?_))
local macro_rules | `(tactic| walk_at "rdt") => `(tactic| repeat' (first
  | with_reducible refine r_seq ?_ | with_reducible refine r_retN ?_ | with_reducible refine r_drop ?_ | with_reducible refine r_next ?_ | with_reducible refine r_brk ?_ | with_reducible refine r_cont ?_
  | ((with_reducible refine' r_var ?ev ?_); (case ev => rfl)) | with_reducible refine r_c ?_ | with_reducible refine r_op ?_ | with_reducible refine r_un ?_ | with_reducible refine r_ifS ?_ | with_reducible refine r_if ?_
  | with_reducible refine r_T ?_ | with_reducible refine r_isB ?_ | with_reducible refine r_and ?_ | with_reducible refine r_or ?_ | with_reducible refine r_not ?_ | with_reducible refine r_andV ?_ | with_reducible refine r_orV ?_ | with_reducible refine r_notV ?_
  | with_reducible refine r_nil ?_ | with_reducible refine r_cons ?_ | with_reducible refine r_lst ?_ | with_reducible refine r_tup ?_ | with_reducible refine r_ca ?_ | with_reducible refine r_cw ?_ | with_reducible refine r_cb ?_
  | with_reducible refine r_add ?_ | with_reducible refine r_sub ?_ | with_reducible refine r_neg ?_ | with_reducible refine r_lt ?_ | with_reducible refine r_le ?_ | with_reducible refine r_gt ?_ | with_reducible refine r_ge ?_ | with_reducible refine r_eqI ?_ | with_reducible refine r_neI ?_ | with_reducible refine r_eqB ?_ | with_reducible refine r_neB ?_
  | with_reducible refine r_isN ?_ | with_reducible refine r_notN ?_ | with_reducible refine r_min ?_ | with_reducible refine r_max ?_ | with_reducible refine r_int ?_ | with_reducible refine r_gcd ?_ | with_reducible refine r_for ?_ | with_reducible refine r_rg1 ?_ | with_reducible refine r_rg2 ?_ | with_reducible refine r_wlI ?_ | with_reducible refine r_wtI ?_ | with_reducible refine r_gN ?_ | with_reducible refine r_asgS ?_ | with_reducible refine r_bm0 ?_ | with_reducible refine r_bm ?_ | with_reducible refine r_lc ?_ | with_reducible refine r_gf ?_ | with_reducible refine r_sf ?_ | with_reducible refine r_ma ?_ | with_reducible refine r_mw ?_ | with_reducible refine r_pa ?_ | with_reducible refine r_ka ?_ | with_reducible refine r_kw ?_ | with_reducible refine r_chain ?_ | with_reducible refine r_ch ?_ | with_reducible refine r_dget ?_ | with_reducible refine r_din ?_ | with_reducible refine r_dnotin ?_ | with_reducible refine r_dput ?_ | with_reducible refine r_augS ?_ | with_reducible refine r_wsqI ?_ | with_reducible refine r_keysI ?_
  | with_reducible refine br_t ?_ | with_reducible refine br_f ?_ | with_reducible refine br_nt ?_ | with_reducible refine br_nf ?_))
local macro_rules | `(tactic| walk_at "rdq") => `(tactic| repeat' (first | ((with_reducible refine' r_var ?ev ?_); (case ev => rfl)) | with_reducible refine r_c ?_ | with_reducible refine r_T ?_ | with_reducible refine r_isB ?_ | with_reducible refine r_op ?_ | with_reducible refine r_eqI ?_ | with_reducible refine r_not ?_ | with_reducible refine br_t ?_ | with_reducible refine br_f ?_ | with_reducible refine br_nt ?_ | with_reducible refine br_nf ?_ | with_reducible refine r_next ?_))
local macro_rules | `(tactic| walk_at "rdv") => `(tactic| repeat' (first | ((with_reducible refine' r_var ?ev ?_); (case ev => rfl)) | with_reducible refine r_T ?_ | with_reducible refine r_isB ?_))
theorem r_eqSd {H : Hp} {Q : VK} {x y : Str} {b : Bool} (e : decide (V.str x = V.str y) = b) (h : Q (.bl b) H) : rEq (.str x) (.str y) H Q := ⟨rfl, by rw [e]; exact h⟩
abbrev hls (K : Frag) : List Cl := [(.ref (He.ga K "BadName"), some 4, fun a cls d => (tAsg (tTup (tCons (tC (.str "name")) (tCons (tByE (He.ga K "BadName") "name" a cls d (tVar 4)) tNil))) (gName 3))), (.ref (He.ga K "BadNumber"), some 4, fun a cls d => (tAsg (tTup (tCons (tC (.str "number")) (tCons (tByE (He.ga K "BadNumber") "word" a cls d (tVar 4)) tNil))) (gName 3))), (.ref (He.ga K "TaskError"), none, fun a cls d => (tAsg (tTup (tCons (tC (.str "other")) tNil)) (gName 3)))]
theorem got {H : Hp} {D : Ends} {σ : L2.St} {C : Addr} {f k : Str} {v : V} {a d : Addr} {cls : Value} {fs : List (Str × V)} (h4 : σ[4]? = some (some (.ref a))) (hc : cls = .ref C) (hd : H d = some (.xd fs)) (hf : fs.lookup f = some v) (q : ∀ t, H t = none → D.nx (σ.set 3 (some (.ref t))) (upd H t (.tup [.str k, v]))) :
    tAsg (tTup (tCons (tC (.str k)) (tCons (tByE C f a cls (some d) (tVar 4)) tNil))) (gName 3) D σ H := by
  refine r_asg (r_tup (r_cons (r_c (r_cons ?_))))
  refine ⟨_, h4, rfl, hc, d, fs, v, rfl, hd, hf, ?_⟩
  exact r_nil (r_nT (by show 2 ≤ sizeLine; decide) q)
theorem one4 {ts : Addr → Value → Option Addr → TS} {cls : Value} {d : Option Addr} {D : Ends} {σ : L2.St} {H : Hp} {a : Addr} {i : Nat} (h : ts a cls d (outD D i) (σ.set i (some (.ref a))) H) : oneCl (some i) ts cls d D σ H a := h
theorem catchN {K : Frag} {H : Hp} {D : Ends} {a0 a1 a2 g e : Option V} {v : V} (xm : PySem.W.exmOne K (.ref (He.ga K "BadName")) (.ref (He.ga K "BadName")) = some true)
    (hD : ∀ t H', Same H H' → H' t = some (.tup [.str "name", v]) → D.nx [a0, a1, a2, some (.ref t), none] H') : RsName K v H (fun c d H2 => wCls K (fun _ _ _ _ => False) D (hls K) c d [a0, a1, a2, g, e] H2) := fun H' d s hd => by
  refine ⟨true, xm, fun _ a ha => ?_, fun z => absurd z (by decide)⟩
  refine one4 ?_
  refine got rfl rfl upd_same rfl fun t ht => ?_
  exact hD t _ (Same.new (Same.new s hd) ht) upd_same
theorem catchS {K : Frag} {H : Hp} {D : Ends} {a0 a1 a2 g e : Option V} (x1 : PySem.W.exmOne K (.ref (He.ga K "BadNumber")) (.ref (He.ga K "BadName")) = some false) (x2 : PySem.W.exmOne K (.ref (He.ga K "BadNumber")) (.ref (He.ga K "BadNumber")) = some true)
    (hD : ∀ t H', Same H H' → H' t = some (.tup [.str "number", .str "size"]) → D.nx [a0, a1, a2, some (.ref t), none] H') : RsSize K H (fun c d H2 => wCls K (fun _ _ _ _ => False) D (hls K) c d [a0, a1, a2, g, e] H2) := fun H' d s hd => by
  refine ⟨false, x1, fun z => absurd z (by decide), fun _ => ?_⟩
  refine ⟨true, x2, fun _ a ha => ?_, fun z => absurd z (by decide)⟩
  refine one4 ?_
  refine got rfl rfl upd_same rfl fun t ht => ?_
  exact hD t _ (Same.new (Same.new s hd) ht) upd_same
theorem LvO.ins' {K : Frag} {H : Hp} {a : Addr} {n : Nat} {s : Lev} {F : Addr → Prop} (h : LvO K H a n s F) : ∃ dx fs, H a = some (.ins (CL K) dx fs) ∧ fs.lookup ("step" : Str) = none ∧ fs.lookup ("level" : Str) = none ∧ fs.lookup ("taken" : Str) = none := by
  obtain ⟨dx, L, pk, e⟩ := h.ins
  exact ⟨dx, _, e, rfl, rfl, rfl⟩
theorem rd__law_refused {K : PySem.W.Frag} (x1 : PySem.W.exmOne K (.ref (He.ga K "BadName")) (.ref (He.ga K "BadName")) = some true) (x2 : PySem.W.exmOne K (.ref (He.ga K "BadNumber")) (.ref (He.ga K "BadName")) = some false) (x3 : PySem.W.exmOne K (.ref (He.ga K "BadNumber")) (.ref (He.ga K "BadNumber")) = some true) (vs : List V) (H : Hp) (Q : VK) (E : XK) (h : sp__law_refused K vs H Q E) : t__law_refused K { nx := fun _ H' => Q .non H', rt := Q } (start ["_law_word", "_law_one", "_law_other", "_law_got", "caught"] vs) H := by
  obtain ⟨w, x, y, k, v, rfl, hR, q⟩ := h
  unfold t__law_refused
  walk_at "rd"
  refine r_nT (by show 1 ≤ sizeLine; decide) fun t0 ht0 => ?_
  have s0 := same_new (o := .tup [.str "none"]) ht0
  generalize upd H t0 (.tup [.str "none"]) = H0 at s0 ⊢
  walk_at "rd"
  have fin : ∀ (a0 a1 a2 : Option V) (t : Addr) (H' : Hp), Same H0 H' → H' t = some (.tup [.str k, v]) → tRet (tVar 3) { nx := fun _ H' => Q .non H', rt := Q } [a0, a1, a2, some (.ref t), none] H' := fun a0 a1 a2 t H' s e => by
    walk_at "rd"
    exact q t H' (s0.trans s) e
  cases hR with
  | new hb =>
    refine r_eqSd (b := true) (by decide) ?_
    walk_at "rd"
    exact make_bad hb (catchS x2 x3 fun t H' s e => fin _ _ _ t H' s e)
  | step ho hok g hb =>
    obtain ⟨dx, fs, ei, l1, l2, l3⟩ := (ho.same s0).ins'
    refine r_eqSd (b := false) (by decide) ?_
    walk_at "rd"
    refine r_eqSd (b := true) (by decide) ?_
    walk_at "rd"
    refine r_mtI ei l1 ?_
    walk_at "rd"
    exact ⟨_, _, _, _, _, rfl, ho.same s0, hok, g, .inr ⟨hb, catchN x1 fun t H' s e => fin _ _ _ t H' s e⟩⟩
  | level ho hb =>
    obtain ⟨dx, fs, ei, l1, l2, l3⟩ := (ho.same s0).ins'
    refine r_eqSd (b := false) (by decide) ?_
    walk_at "rd"
    refine r_eqSd (b := false) (by decide) ?_
    walk_at "rd"
    refine r_eqSd (b := true) (by decide) ?_
    walk_at "rd"
    refine r_mtI ei l2 ?_
    walk_at "rd"
    exact ⟨_, _, _, _, _, rfl, ho.same s0, .inr ⟨hb, catchN x1 fun t H' s e => fin _ _ _ t H' s e⟩⟩
  | taken ho hb =>
    obtain ⟨dx, fs, ei, l1, l2, l3⟩ := (ho.same s0).ins'
    refine r_eqSd (b := false) (by decide) ?_
    walk_at "rd"
    refine r_eqSd (b := false) (by decide) ?_
    walk_at "rd"
    refine r_eqSd (b := false) (by decide) ?_
    walk_at "rd"
    refine r_eqSd (b := true) (by decide) ?_
    walk_at "rd"
    refine r_mtI ei l3 ?_
    walk_at "rd"
    exact ⟨_, _, _, _, _, rfl, ho.same s0, .inr ⟨hb, catchN x1 fun t H' s e => fin _ _ _ t H' s e⟩⟩
  | size hw hb =>
    rcases hw with rfl | rfl
    · refine r_eqSd (b := false) (by decide) ?_
      walk_at "rd"
      refine r_eqSd (b := false) (by decide) ?_
      walk_at "rd"
      refine r_eqSd (b := false) (by decide) ?_
      walk_at "rd"
      refine r_eqSd (b := false) (by decide) ?_
      walk_at "rd"
      refine r_eqSd (b := true) (by decide) ?_
      walk_at "rd"
      exact ⟨_, _, rfl, .inr (.inl ⟨hb, catchS x2 x3 fun t H' s e => fin _ _ _ t H' s e⟩)⟩
    · refine r_eqSd (b := false) (by decide) ?_
      walk_at "rd"
      refine r_eqSd (b := false) (by decide) ?_
      walk_at "rd"
      refine r_eqSd (b := false) (by decide) ?_
      walk_at "rd"
      refine r_eqSd (b := false) (by decide) ?_
      walk_at "rd"
      refine r_eqSd (b := false) (by decide) ?_
      walk_at "rd"
      refine r_eqSd (b := true) (by decide) ?_
      walk_at "rd"
      exact ⟨_, _, rfl, .inr (.inl ⟨hb, catchS x2 x3 fun t H' s e => fin _ _ _ t H' s e⟩)⟩
  | sched hw hok hb =>
    rcases hw with rfl | rfl
    · refine r_eqSd (b := false) (by decide) ?_
      walk_at "rd"
      refine r_eqSd (b := false) (by decide) ?_
      walk_at "rd"
      refine r_eqSd (b := false) (by decide) ?_
      walk_at "rd"
      refine r_eqSd (b := false) (by decide) ?_
      walk_at "rd"
      refine r_eqSd (b := true) (by decide) ?_
      walk_at "rd"
      exact ⟨_, _, rfl, .inr (.inr ⟨_, _, rfl, hok, bad_same hb s0, catchN x1 fun t H' s e => fin _ _ _ t H' s e⟩)⟩
    · refine r_eqSd (b := false) (by decide) ?_
      walk_at "rd"
      refine r_eqSd (b := false) (by decide) ?_
      walk_at "rd"
      refine r_eqSd (b := false) (by decide) ?_
      walk_at "rd"
      refine r_eqSd (b := false) (by decide) ?_
      walk_at "rd"
      refine r_eqSd (b := false) (by decide) ?_
      walk_at "rd"
      refine r_eqSd (b := true) (by decide) ?_
      walk_at "rd"
      exact ⟨_, _, rfl, .inr (.inr ⟨_, _, rfl, hok, bad_same hb s0, catchN x1 fun t H' s e => fin _ _ _ t H' s e⟩)⟩
end K07
end
section
set_option Elab.async false
set_option linter.all false
set_option maxRecDepth 100000
set_option maxHeartbeats 4000000
/-! k07: blocks -/
namespace K07
open PySem PySem.Spec PyProof.Rows L2 Nw
local macro_rules | `(tactic| walk_at "rd") => `(tactic| repeat' (first
  | with_reducible refine r_seq ?_ | with_reducible refine r_asg ?_ | with_reducible refine r_ret ?_ | with_reducible refine r_retN ?_ | with_reducible refine r_drop ?_ | with_reducible refine r_next ?_ | with_reducible refine r_brk ?_ | with_reducible refine r_cont ?_
  | ((with_reducible refine' r_var ?ev ?_); (case ev => rfl)) | with_reducible refine r_c ?_ | with_reducible refine r_op ?_ | with_reducible refine r_un ?_ | with_reducible refine r_ifS ?_ | with_reducible refine r_if ?_
  | with_reducible refine r_T ?_ | with_reducible refine r_isB ?_ | with_reducible refine r_and ?_ | with_reducible refine r_or ?_ | with_reducible refine r_not ?_ | with_reducible refine r_andV ?_ | with_reducible refine r_orV ?_ | with_reducible refine r_notV ?_
  | with_reducible refine r_nil ?_ | with_reducible refine r_cons ?_ | with_reducible refine r_lst ?_ | with_reducible refine r_tup ?_ | with_reducible refine r_ca ?_ | with_reducible refine r_cw ?_ | with_reducible refine r_cb ?_
  | with_reducible refine r_add ?_ | with_reducible refine r_sub ?_ | with_reducible refine r_neg ?_ | with_reducible refine r_lt ?_ | with_reducible refine r_le ?_ | with_reducible refine r_gt ?_ | with_reducible refine r_ge ?_ | with_reducible refine r_eqI ?_ | with_reducible refine r_neI ?_ | with_reducible refine r_eqB ?_ | with_reducible refine r_neB ?_
  | with_reducible refine r_isN ?_ | with_reducible refine r_notN ?_ | with_reducible refine r_min ?_ | with_reducible refine r_max ?_ | with_reducible refine r_int ?_ | with_reducible refine r_gcd ?_ | with_reducible refine r_for ?_ | with_reducible refine r_rg1 ?_ | with_reducible refine r_rg2 ?_ | with_reducible refine r_wlI ?_ | with_reducible refine r_wtI ?_ | with_reducible refine r_gN ?_ | with_reducible refine r_asgS ?_ | with_reducible refine r_bm0 ?_ | with_reducible refine r_bm ?_ | with_reducible refine r_lc ?_ | with_reducible refine r_gf ?_ | with_reducible refine r_sf ?_ | with_reducible refine r_ma ?_ | with_reducible refine r_mw ?_ | with_reducible refine r_pa ?_ | with_reducible refine r_ka ?_ | with_reducible refine r_kw ?_ | with_reducible refine r_chain ?_ | with_reducible refine r_ch ?_ | with_reducible refine r_dget ?_ | with_reducible refine r_din ?_ | with_reducible refine r_dnotin ?_ | with_reducible refine r_dput ?_ | with_reducible refine r_augS ?_ | with_reducible refine r_wsqI ?_ | with_reducible refine r_keysI ?_
  | with_reducible refine br_t ?_ | with_reducible refine br_f ?_ | with_reducible refine br_nt ?_ | with_reducible refine br_nf ?_))
local macro_rules | `(tactic| walk_at "rdt") => `(tactic| repeat' (first
  | with_reducible refine r_seq ?_ | with_reducible refine r_retN ?_ | with_reducible refine r_drop ?_ | with_reducible refine r_next ?_ | with_reducible refine r_brk ?_ | with_reducible refine r_cont ?_
  | ((with_reducible refine' r_var ?ev ?_); (case ev => rfl)) | with_reducible refine r_c ?_ | with_reducible refine r_op ?_ | with_reducible refine r_un ?_ | with_reducible refine r_ifS ?_ | with_reducible refine r_if ?_
  | with_reducible refine r_T ?_ | with_reducible refine r_isB ?_ | with_reducible refine r_and ?_ | with_reducible refine r_or ?_ | with_reducible refine r_not ?_ | with_reducible refine r_andV ?_ | with_reducible refine r_orV ?_ | with_reducible refine r_notV ?_
  | with_reducible refine r_nil ?_ | with_reducible refine r_cons ?_ | with_reducible refine r_lst ?_ | with_reducible refine r_tup ?_ | with_reducible refine r_ca ?_ | with_reducible refine r_cw ?_ | with_reducible refine r_cb ?_
  | with_reducible refine r_add ?_ | with_reducible refine r_sub ?_ | with_reducible refine r_neg ?_ | with_reducible refine r_lt ?_ | with_reducible refine r_le ?_ | with_reducible refine r_gt ?_ | with_reducible refine r_ge ?_ | with_reducible refine r_eqI ?_ | with_reducible refine r_neI ?_ | with_reducible refine r_eqB ?_ | with_reducible refine r_neB ?_
  | with_reducible refine r_isN ?_ | with_reducible refine r_notN ?_ | with_reducible refine r_min ?_ | with_reducible refine r_max ?_ | with_reducible refine r_int ?_ | with_reducible refine r_gcd ?_ | with_reducible refine r_for ?_ | with_reducible refine r_rg1 ?_ | with_reducible refine r_rg2 ?_ | with_reducible refine r_wlI ?_ | with_reducible refine r_wtI ?_ | with_reducible refine r_gN ?_ | with_reducible refine r_asgS ?_ | with_reducible refine r_bm0 ?_ | with_reducible refine r_bm ?_ | with_reducible refine r_lc ?_ | with_reducible refine r_gf ?_ | with_reducible refine r_sf ?_ | with_reducible refine r_ma ?_ | with_reducible refine r_mw ?_ | with_reducible refine r_pa ?_ | with_reducible refine r_ka ?_ | with_reducible refine r_kw ?_ | with_reducible refine r_chain ?_ | with_reducible refine r_ch ?_ | with_reducible refine r_dget ?_ | with_reducible refine r_din ?_ | with_reducible refine r_dnotin ?_ | with_reducible refine r_dput ?_ | with_reducible refine r_augS ?_ | with_reducible refine r_wsqI ?_ | with_reducible refine r_keysI ?_
  | with_reducible refine br_t ?_ | with_reducible refine br_f ?_ | with_reducible refine br_nt ?_ | with_reducible refine br_nf ?_))
local macro_rules | `(tactic| walk_at "rdq") => `(tactic| repeat' (first | ((with_reducible refine' r_var ?ev ?_); (case ev => rfl)) | with_reducible refine r_c ?_ | with_reducible refine r_T ?_ | with_reducible refine r_isB ?_ | with_reducible refine r_op ?_ | with_reducible refine r_eqI ?_ | with_reducible refine r_not ?_ | with_reducible refine br_t ?_ | with_reducible refine br_f ?_ | with_reducible refine br_nt ?_ | with_reducible refine br_nf ?_ | with_reducible refine r_next ?_))
local macro_rules | `(tactic| walk_at "rdv") => `(tactic| repeat' (first | ((with_reducible refine' r_var ?ev ?_); (case ev => rfl)) | with_reducible refine r_T ?_ | with_reducible refine r_isB ?_))
theorem r_g2 {K : Frag} {a : Addr} {i j : Nat} {x y : V} {σ : L2.St} {H : Hp} {Qs : L2.St → Hp → Prop} (h : SqT K H a [x, y]) (q : Qs ((σ.set i (some x)).set j (some y)) H) : gTup K 2 (gCons (gName i) (gCons (gName j) gNil)) (.ref a) σ H Qs :=
  ⟨a, _, rfl, h, rfl, x, _, rfl, y, _, rfl, rfl, q⟩
theorem r_asgG {te : TE} {g : TG} {D : Ends} {σ : L2.St} {H : Hp} (h : te σ H fun x H1 => g x σ H1 D.nx) : tAsg te g D σ H := h
abbrev notIn (seen : List Nat) : V → Bool := fun v => match v with
  | .int i => !decide (i.toNat ∈ seen)
  | _ => false
theorem nt_notIn {l seen : List Nat} : (nt l).filter (notIn seen) = nt (l.filter fun x => !decide (x ∈ seen)) := by
  rw [List.filter_map]
  rfl
/-- [x for x in l if x not in seen], two tuples -/
theorem lc_out {K : Frag} {a sd : Addr} {l seen : List Nat} {j m : Nat} {vs : List Nat} {Q : VK} {σ : L2.St} {H : Hp} (ha : H a = some (.tup (nt l))) (hs : H sd = some (.tup (nt seen))) (hl : l.length ≤ 10000) (hw : ∀ x, wipe ((wipe σ vs).set j (some x)) vs = wipe σ vs)
    (hj : ∀ x, ((wipe σ vs).set j (some x))[j]? = some (some x)) (hm : ∀ x, ((wipe σ vs).set j (some x))[m]? = some (some (.ref sd)))
    (k : ∀ D H', H D = none → Same H H' → H' D = some (.lst (nt (l.filter fun x => !decide (x ∈ seen)))) → Q (.ref D) H') : lcG (Itt K a) (gName j) (tT (tOp (rIn K true) (tVar j) (tVar m))) (tVar j) vs Q σ H := by
  refine lc_sqF (K := K) (xs := nt l) (notIn seen) ⟨a, .inr ⟨rfl, .inl (.inl ha)⟩⟩ (by rw [nt_len]; exact hl) hw (fun i v H' QB hi s1 q1 => ?_) (fun i v H' Q' hi s1 q1 => r_var (hj v) (q1 H' (Same.refl _))) fun D H' hD s1 e1 => k D H' hD s1 (by rw [e1, nt_notIn])
  rw [List.getElem?_map] at hi
  cases hz : l[i]? with
  | none => rw [hz] at hi; cases hi
  | some z =>
    rw [hz] at hi
    cases hi
    refine r_T (r_op (r_var (hj _) (r_var (hm _) (r_inN (neg := true) (.inr (.inl (.inl (s1 _ _ hs)))) ?_))))
    rw [if_pos rfl]
    exact r_isB (q1 H' (Same.refl _))
/-- blocks so far: the list at bl -/
def Bl (H : Hp) (bl : Addr) (Bs : List (List Nat)) : Prop := ∃ ys, H bl = some (.lst ys) ∧ Each (fun y B => ∃ b, y = V.ref b ∧ H b = some (.tup (nt B))) ys Bs
theorem Each.ts {H H' : Hp} {ys : List V} {Bs : List (List Nat)} (h : Each (fun y B => ∃ b, y = V.ref b ∧ H b = some (.tup (nt B))) ys Bs) (t : TupSame H H') : Each (fun y B => ∃ b, y = V.ref b ∧ H' b = some (.tup (nt B))) ys Bs :=
  ⟨h.1, fun i x hx => (h.2 i x hx).imp fun y ⟨e, b, e1, e2⟩ => ⟨e, b, e1, t _ _ e2⟩⟩
theorem Bl.same {H H' : Hp} {bl : Addr} {Bs : List (List Nat)} (h : Bl H bl Bs) (s : Same H H') : Bl H' bl Bs := by
  obtain ⟨ys, e, h⟩ := h
  exact ⟨ys, s _ _ e, h.ts (TupSame.of s)⟩
theorem each_app {R : V → List Nat → Prop} {ys : List V} {Bs : List (List Nat)} {y : V} {B : List Nat} (h : Each R ys Bs) (hy : R y B) : Each R (ys ++ [y]) (Bs ++ [B]) := by
  refine ⟨by rw [List.length_append, List.length_append, h.1]; rfl, fun i x hx => ?_⟩
  by_cases c : i < Bs.length
  · rw [List.getElem?_append_left c] at hx
    obtain ⟨z, e, r⟩ := h.2 i x hx
    exact ⟨z, by rw [List.getElem?_append_left (by rw [h.1]; exact c)]; exact e, r⟩
  · rw [List.getElem?_append_right (by omega)] at hx
    have e : i = Bs.length := by
      have := (List.getElem?_eq_some_iff.mp hx).1
      simp at this
      omega
    subst e
    rw [Nat.sub_self] at hx
    cases hx
    exact ⟨y, by rw [← h.1, List.getElem?_append_right (Nat.le_refl _), Nat.sub_self]; rfl, hy⟩
theorem tup_upd_l {H : Hp} {l : Addr} {xs ys : List V} (h : H l = some (.lst xs)) : TupSame H (upd H l (.lst ys)) := fun b us e => by
  rw [upd_ne (ne_kind e h (by intro z; cases z))]
  exact e
/-- one more block -/
theorem Bl.put {H : Hp} {bl b : Addr} {Bs : List (List Nat)} {B : List Nat} {ys : List V} (e : H bl = some (.lst ys)) (h : Each (fun y B => ∃ b, y = V.ref b ∧ H b = some (.tup (nt B))) ys Bs) (hb : H b = some (.tup (nt B))) : Bl (upd H bl (.lst (ys ++ [.ref b]))) bl (Bs ++ [B]) :=
  ⟨_, upd_same, each_app (h.ts (tup_upd_l e)) ⟨b, rfl, tup_upd_l e _ _ hb⟩⟩
def un : NwS.NK → List Nat
  | .tup [_, .tup ks] => ks.map fun k => match k with
    | .num i => i.toNat
    | _ => 0
  | _ => []
theorem un_key {S : List Nat} : un (keyN S) = S := by
  show (S.map fun (z : Nat) => NestedKey.num (z : Int)).map _ = S
  rw [List.map_map]
  conv => rhs; rw [← List.map_id S]
  refine List.map_congr_left fun z _ => ?_
  show ((z : Int)).toNat = z
  exact Int.toNat_natCast z
/-- what stands at the pairs -/
def PairAt (H : Hp) (q : Addr × NwS.NK) (S : List Nat) : Prop := q.2 = keyN S ∧ ∃ u, H q.1 = some (.tup [.int (S.length : Int), .ref u]) ∧ H u = some (.tup (nt S))
theorem PairAt.ts {H H' : Hp} {q : Addr × NwS.NK} {S : List Nat} (h : PairAt H q S) (t : TupSame H H') : PairAt H' q S := by
  obtain ⟨e, u, h1, h2⟩ := h
  exact ⟨e, u, t _ _ h1, t _ _ h2⟩
theorem PairAt.kv {K : Frag} {H : Hp} {q : Addr × NwS.NK} {S : List Nat} (h : PairAt H q S) : NwS.KV K H q.1 q.2 := by
  obtain ⟨e, u, h1, h2⟩ := h
  rw [e]
  exact kv_pair h1 h2
theorem TupSame.trans {H H1 H2 : Hp} (a : TupSame H H1) (b : TupSame H1 H2) : TupSame H H2 := fun c xs e => b c xs (a c xs e)
/-- sorted(set(..)) of the pairs: the cuts -/
theorem set_cuts {n : Nat} {s : Lev} (g : Good n s) {ks L M : List (Addr × NwS.NK)} (hk : ∀ q ∈ ks, ∃ S p, q.2 = keyN S ∧ (p, S) ∈ s.looks) (all : ∀ p S, (p, S) ∈ s.looks → keyN S ∈ ks.map Prod.snd) (h1 : ∀ q ∈ L, q ∈ ks) (h2 : ∀ q ∈ ks, q.2 ∈ L.map Prod.snd) (h3 : (L.map Prod.snd).Nodup) (hM : M.Perm L) :
    (NwS.srt (fun q : Addr × NwS.NK => q.2.data) M).map (fun q => un q.2) = cuts n s := by
  have key : ∀ q ∈ M, ∃ S p, q.2 = keyN S ∧ (p, S) ∈ s.looks := fun q hq => hk q (h1 q (hM.mem_iff.mp hq))
  refine srt_cuts g M _ _ (fun q hq => ?_) ?_ fun T => ⟨fun hT => ?_, fun ⟨p, hp⟩ => ?_⟩
  · obtain ⟨S, p, e, _⟩ := key q hq
    rw [e, keyN_data, un_key]
  · have nd := (hM.map Prod.snd).nodup_iff.mpr h3
    unfold List.Nodup at nd ⊢
    rw [List.pairwise_map] at nd ⊢
    refine List.Pairwise.imp_of_mem (fun {a b} ha hb h e => h ?_) nd
    obtain ⟨S, _, ea, _⟩ := key a ha
    obtain ⟨T, _, eb, _⟩ := key b hb
    rw [ea, eb, un_key, un_key] at e
    rw [ea, eb, e]
  · obtain ⟨q, hq, rfl⟩ := List.mem_map.mp hT
    obtain ⟨S, p, e, hp⟩ := key q hq
    rw [e, un_key]
    exact ⟨p, hp⟩
  · obtain ⟨q, hq, e⟩ := List.mem_map.mp (all p T hp)
    obtain ⟨r, hr, e2⟩ := List.mem_map.mp (h2 q hq)
    refine List.mem_map.mpr ⟨r, hM.mem_iff.mpr hr, ?_⟩
    rw [e2, e, un_key]
theorem rd_levels_blocks {K : PySem.W.Frag} {w : World} (vs : List V) (H : Hp) (Q : VK) (E : XK) (h : sp_levels_blocks K vs H Q E) : t_levels_blocks K w E { nx := fun _ H' => Q .non H', rt := Q } (start ["size", "schedule", "wrote", "looks", "seen", "blocks", "_", "look", "rest", "name"] vs) H := by
  obtain ⟨nv, sv, rfl, h⟩ := h
  unfold t_levels_blocks
  with_reducible refine r_seq ?_
  refine r_asgG ?_
  walk_at "rd"
  rcases h with ⟨n, sa, ps, rfl, hok, rfl, hs, hp, q⟩ | hb | hb
  rotate_left
  · exact ⟨_, _, rfl, .inr (.inl hb)⟩
  · exact ⟨_, _, rfl, .inr (.inr hb)⟩
  refine ⟨_, _, rfl, .inl ⟨n, sa, ps, rfl, hok, rfl, hs, hp, fun r H1 s1 R => ?_⟩⟩
  have gd : Good n (runs n (new n) ps) := (Good.new n).runs hok.1 hp
  generalize runs n (new n) ps = s at R gd q ⊢
  obtain ⟨t, tw, tl, ys, rfl, et, ew, el, hl, hys⟩ := R
  refine r_g2 (.inl (.inl et)) ?_
  have ln : (goneL n s).length ≤ n := by
    have := gd.goneP.length_eq
    have h2 := gd.looks_len
    unfold Lev.keys at this
    rw [List.length_map] at this
    omega
  have h6 := hok.2
  walk_at "rd"
  refine r_nT (Nat.zero_le _) fun sd0 hsd0 => ?_
  walk_at "rd"
  refine r_nL (Nat.zero_le _) fun bl hbl => ?_
  have s2 := Same.new (o := .lst []) (same_new (o := .tup []) hsd0) hbl
  have hblH : H bl = none := same_none s1 (upd_none hbl)
  have esd : upd (upd H1 sd0 (.tup [])) bl (.lst []) sd0 = some (.tup (nt [])) := same_new hbl _ _ upd_same
  have ebl : upd (upd H1 sd0 (.tup [])) bl (.lst []) bl = some (.lst []) := upd_same
  generalize upd (upd H1 sd0 (.tup [])) bl (.lst []) = H2 at s2 esd ebl ⊢
  walk_at "rd"
  refine r_wt (xs := ys) (.inl (.inl (s2 _ _ el))) ?_
  refine lc_sqE (K := K) (xs := ys) (fun i y G => ∃ b u S p, y = V.ref b ∧ (goneL n s)[i]? = some p ∧ (p, S) ∈ s.looks ∧ G b = some (.tup [.int (S.length : Int), .ref u]) ∧ G u = some (.tup (nt S))) (fun i y G1 G2 ts ⟨b, u, S, p, e1, e2, e3, e4, e5⟩ => ⟨b, u, S, p, e1, e2, e3, ts _ _ e4, ts _ _ e5⟩) ⟨tl, .inr ⟨rfl, .inl (.inl (s2 _ _ el))⟩⟩ (by omega) (fun i x G' Q' hi s3 q3 => ?_) fun D zs H3 hD s3 e3 hzl hz => ?_
  · have hlt := (List.getElem?_eq_some_iff.mp hi).1
    obtain ⟨p, hp⟩ : ∃ p, (goneL n s)[i]? = some p := ⟨(goneL n s)[i], List.getElem?_eq_getElem (by omega)⟩
    obtain ⟨y, e1, b, u, S, e2, e3, e4, e5⟩ := hys i p hp
    rw [hi] at e1
    cases e1
    subst e2
    have s23 := s2.trans s3
    refine r_g2 (.inl (.inl (s23 _ _ e3))) ⟨rfl, ?_⟩
    walk_at "rd"
    refine r_len (.inr (.inl (.inl (s23 _ _ e5)))) ?_
    rw [nt_len]
    walk_at "rd"
    refine r_nT (by show 2 ≤ sizeLine; decide) fun b2 hb2 => ?_
    exact q3 _ _ (same_new hb2) ⟨b2, u, S, p, rfl, hp, e4, upd_same, same_new hb2 _ _ (s23 _ _ e5)⟩
  have hks := pick (α := Addr × List Nat) (P := fun i z => zs[i]? = some (.ref z.1) ∧ ∃ p, (goneL n s)[i]? = some p ∧ (p, z.2) ∈ s.looks ∧ PairAt H3 (z.1, keyN z.2) z.2) (n := ys.length) fun i hi => by
    obtain ⟨y, e1, b, u, S, p, e2, e3, e4, e5, e6⟩ := hz i hi
    subst e2
    exact ⟨(b, S), e1, p, e3, e4, rfl, u, e5, e6⟩
  obtain ⟨k0, hk0, hkk⟩ := hks
  have ez : zs = (k0.map fun z => (z.1, keyN z.2)).map fun q => V.ref q.1 := by
    rw [List.map_map]
    apply List.ext_getElem?
    intro i
    rw [List.getElem?_map]
    cases e : k0[i]? with
    | none =>
      have := List.getElem?_eq_none_iff.mp e
      rw [List.getElem?_eq_none (by omega)]
      rfl
    | some z => rw [(hkk i z e).1]; rfl
  have kin : ∀ q ∈ k0.map (fun z => (z.1, keyN z.2)), ∃ S p, PairAt H3 q S ∧ (p, S) ∈ s.looks := fun q hq => by
    obtain ⟨z, hz, rfl⟩ := List.mem_map.mp hq
    obtain ⟨i, hi⟩ := List.getElem?_of_mem hz
    obtain ⟨_, p, _, h2, h3⟩ := hkk i z hi
    exact ⟨z.2, p, h3, h2⟩
  have kall : ∀ p S, (p, S) ∈ s.looks → keyN S ∈ (k0.map fun z => (z.1, keyN z.2)).map Prod.snd := fun p S hp => by
    have hg : p ∈ goneL n s := gd.goneP.mem_iff.mp (List.mem_map_of_mem (f := Prod.fst) hp)
    obtain ⟨i, hi⟩ := List.getElem?_of_mem hg
    have hlt := (List.getElem?_eq_some_iff.mp hi).1
    obtain ⟨z, hz⟩ : ∃ z, k0[i]? = some z := ⟨k0[i], List.getElem?_eq_getElem (by omega)⟩
    obtain ⟨_, p', e1, h2, h3⟩ := hkk i z hz
    rw [hi] at e1
    cases e1
    have : z.2 = S := gd.same h2 hp (by
      have a1 := (gd.look h2).2.1
      have a2 := (gd.look hp).2.1
      omega)
    rw [List.map_map]
    exact List.mem_map.mpr ⟨z, List.mem_of_getElem? hz, by show keyN z.2 = keyN S; rw [this]⟩
  generalize hkq : (k0.map fun z => (z.1, keyN z.2)) = ks at ez kin kall
  have klen : ks.length = ys.length := by rw [← hkq, List.length_map, hk0]
  walk_at "rd"
  refine ⟨D, ks, rfl, SqL.of (by rw [e3, ez]), fun q hq => (kin q hq).choose_spec.choose_spec.1.kv, by omega, fun sa2 L hsa hL1 hL2 hL3 => ?_⟩
  walk_at "rd"
  have s4 := same_new (o := NwS.SetN w sa2 L) hsa
  have kin4 : ∀ q ∈ L, ∃ S p, PairAt (upd H3 sa2 (NwS.SetN w sa2 L)) q S ∧ (p, S) ∈ s.looks := fun q hq => by
    obtain ⟨S, p, h1, h2⟩ := kin q (hL1 q hq)
    exact ⟨S, p, h1.ts (TupSame.of s4), h2⟩
  refine ⟨sa2, L, rfl, upd_same, fun q hq => (kin4 q hq).choose_spec.choose_spec.1.kv, ?_, ?_, fun M pl hM hpl => ?_⟩
  · exact pairs_alike fun d hd => by
      obtain ⟨q, hq, rfl⟩ := List.mem_map.mp hd
      obtain ⟨S, p, h1, h2⟩ := kin4 q hq
      exact ⟨S, by rw [h1.1, keyN_data]⟩
  · exact pairs_sortable fun d hd => by
      obtain ⟨q, hq, rfl⟩ := List.mem_map.mp hd
      obtain ⟨S, p, h1, h2⟩ := kin4 q hq
      exact ⟨S, by rw [h1.1, keyN_data]⟩
  have hcut := set_cuts gd (fun q hq => by
    obtain ⟨S, p, h1, h2⟩ := kin q hq
    exact ⟨S, p, h1.1, h2⟩) kall hL1 hL2 hL3 hM
  have tin : ∀ q ∈ NwS.srt (fun q : Addr × NwS.NK => q.2.data) M, ∃ S p, PairAt (upd H3 sa2 (NwS.SetN w sa2 L)) q S ∧ (p, S) ∈ s.looks := fun q hq => kin4 q (hM.mem_iff.mp ((NwS.srt_perm _ M).mem_iff.mp hq))
  generalize NwS.srt (fun q : Addr × NwS.NK => q.2.data) M = T at hcut tin ⊢
  have s5 := Same.new (o := .lst (T.map fun q => V.ref q.1)) (s3.trans s4) hpl
  have nbl : pl ≠ bl := fun e => by
    have := (s3.trans s4) _ _ ebl
    rw [← e, hpl] at this
    cases this
  have epl : upd (upd H3 sa2 (NwS.SetN w sa2 L)) pl (.lst (T.map fun q => V.ref q.1)) pl = some (.lst (T.map fun q => V.ref q.1)) := upd_same
  have tin5 : ∀ q ∈ T, ∃ S, PairAt (upd (upd H3 sa2 (NwS.SetN w sa2 L)) pl (.lst (T.map fun q => V.ref q.1))) q S ∧ un q.2 = S := fun q hq => by
    obtain ⟨S, p, h1, _⟩ := tin q hq
    exact ⟨S, h1.ts (TupSame.of (same_new hpl)), by rw [h1.1, un_key]⟩
  generalize upd (upd H3 sa2 (NwS.SetN w sa2 L)) pl (.lst (T.map fun q => V.ref q.1)) = H5 at s5 epl tin5 ⊢
  have s25 := s2.trans s5
  walk_at "rd"
  refine r_wl (SqL.of epl) ?_
  have cl : (cuts n s).length = T.length := by rw [← hcut, List.length_map]
  refine lp_list (xs := T.map fun q => V.ref q.1) (fun i σ G => (∃ sd x y, σ = [some (.int (n : Int)), some (.ref sa), some (.ref tw), some (.ref tl), some (.ref sd), some (.ref bl), x, y, none, none] ∧ G sd = some (.tup (nt (lastS [] ((cuts n s).take i))))) ∧ Bl G bl (blk [] ((cuts n s).take i)) ∧ Bt bl H5 G)
    ⟨⟨sd0, _, _, rfl, s5 _ _ esd⟩, ⟨[], s5 _ _ ebl, rfl, fun i x hx => by simp [blk] at hx⟩, Bt.refl _ _⟩ (fun i τ G _ p => SqL.of (p.2.2 _ _ nbl epl)) (fun i x τ G hi p => ?_) fun τ G p => ?_
  · obtain ⟨⟨sd, x6, x7, rfl, esd⟩, ⟨bs, ebs, hbs⟩, bt⟩ := p
    rw [List.getElem?_map] at hi
    cases hq : T[i]? with
    | none => rw [hq] at hi; cases hi
    | some q1 =>
    rw [hq] at hi
    cases hi
    obtain ⟨S, ⟨_, u, hb, hu⟩, hun⟩ := tin5 q1 (List.mem_of_getElem? hq)
    have hcS : (cuts n s)[i]? = some S := by rw [← hcut, List.getElem?_map, hq, ← hun]; rfl
    have nb : ∀ {b : Addr} {us : List V}, H5 b = some (.tup us) → G b = some (.tup us) := fun {b us} e => bt _ _ (ne_kind e (s5 _ _ ebl) (by intro z; cases z)) e
    have hS : S.length ≤ n := by
      obtain ⟨p, hp⟩ := gd.cuts_mem.mp (List.mem_of_getElem? hcS)
      exact (gd.look hp).2.2.2.2
    have hlen : i < (cuts n s).length := (List.getElem?_eq_some_iff.mp hcS).1
    have clen : (cuts n s).length ≤ 7 := by
      unfold cuts
      have := List.length_filterMap_le (fun k => (s.looks.map Prod.snd).find? fun S => S.length == k) (List.range (n + 1))
      rw [List.length_range] at this
      omega
    refine r_g2 (.inl (.inl (nb hb))) ?_
    walk_at "rd"
    refine r_bmL ebs ?_
    walk_at "rd"
    refine r_wt (xs := nt S) (.inl (.inl (nb hu))) ?_
    refine lc_out (nb hu) esd (by omega) (fun _ => rfl) (fun _ => rfl) (fun _ => rfl) fun D2 G2 hD2 sg eg => ?_
    walk_at "rd"
    refine r_tuple eg fun t3 ht3 => ?_
    have sg3 := Same.new (o := .tup (nt (S.filter fun x => !decide (x ∈ lastS [] ((cuts n s).take i))))) sg ht3
    have eg3 : upd G2 t3 (.tup (nt (S.filter fun x => !decide (x ∈ lastS [] ((cuts n s).take i))))) t3 = some (.tup (nt (S.filter fun x => !decide (x ∈ lastS [] ((cuts n s).take i))))) := upd_same
    generalize upd G2 t3 (.tup (nt (S.filter fun x => !decide (x ∈ lastS [] ((cuts n s).take i))))) = G3 at sg3 eg3 ⊢
    have lb : bs.length ≤ 7 := by
      rw [hbs.1, blk_len, List.length_take]
      omega
    walk_at "rd"
    refine r_app (sg3 _ _ ebs) (small_line (by omega)) ?_
    walk_at "rd"
    refine ⟨⟨u, _, _, rfl, ?_⟩, ?_, fun b o nb2 e => ?_⟩
    · rw [take_app hcS, lastS_app]
      exact tup_upd_l (sg3 _ _ ebs) _ _ (sg3 _ _ (nb hu))
    · rw [take_app hcS, blk_app]
      exact Bl.put (sg3 _ _ ebs) (hbs.ts (TupSame.of sg3)) eg3
    · rw [upd_ne nb2]
      exact sg3 _ _ (bt b o nb2 e)
  · obtain ⟨⟨sd, x6, x7, rfl, esd⟩, hbl, bt⟩ := p
    rw [List.length_map, ← cl, List.take_length] at esd hbl
    have nb : ∀ {b : Addr} {us : List V}, H5 b = some (.tup us) → G b = some (.tup us) := fun {b us} e => bt _ _ (ne_kind e (s5 _ _ ebl) (by intro z; cases z)) e
    have s0G : Same H G := fun b o e => bt b o (ne_of_none e hblH) (s25 _ _ (s1 _ _ e))
    have hw : (wrote n s).length ≤ n := by
      have := List.length_filter_le (fun p => decide (0 < s.tk p)) (List.range n)
      rw [List.length_range] at this
      exact this
    walk_at "rd"
    refine r_wt (xs := nt (wrote n s)) (.inl (.inl (nb (s25 _ _ ew)))) ?_
    refine lc_out (nb (s25 _ _ ew)) esd (by omega) (fun _ => rfl) (fun _ => rfl) (fun _ => rfl) fun D2 G2 hD2 sg eg => ?_
    walk_at "rd"
    refine r_tuple eg fun t3 ht3 => ?_
    have sg3 := Same.new (o := .tup (nt (restB (wrote n s) (cuts n s)))) sg ht3
    have eg3 : upd G2 t3 (.tup (nt (restB (wrote n s) (cuts n s)))) t3 = some (.tup (nt (restB (wrote n s) (cuts n s)))) := upd_same
    rw [show ((wrote n s).filter fun x => !decide (x ∈ lastS [] (cuts n s))) = restB (wrote n s) (cuts n s) from rfl]
    generalize upd G2 t3 (.tup (nt (restB (wrote n s) (cuts n s)))) = G3 at sg3 eg3 ⊢
    obtain ⟨bs, ebs, hbs⟩ := hbl.same sg3
    have s03 := s0G.trans sg3
    walk_at "rd"
    refine ⟨_, rfl, _, .inr (.inl ⟨_, .inl (.inl eg3), rfl⟩), ?_⟩
    by_cases er : restB (wrote n s) (cuts n s) = []
    · rw [er]
      refine br_f ?_
      walk_at "rd"
      refine r_tuple ebs fun t4 ht4 => ?_
      refine q _ _ (s03.trans (same_new ht4)) ⟨t4, bs, rfl, upd_same, ?_⟩
      unfold blocksOf
      rw [if_pos er, List.append_nil]
      exact hbs.ts (TupSame.of (same_new ht4))
    · have eb : (!(nt (restB (wrote n s) (cuts n s))).isEmpty) = true := by
        cases h : restB (wrote n s) (cuts n s) with
        | nil => exact absurd h er
        | cons a l => rfl
      rw [eb]
      refine br_t ?_
      walk_at "rd"
      refine r_nL (by show 1 ≤ sizeLine; decide) fun l4 hl4 => ?_
      have s4' := same_new (o := .lst [.ref t3]) hl4
      have lb : bs.length ≤ 7 := by
        rw [hbs.1, blk_len]
        unfold cuts
        have := List.length_filterMap_le (fun k => (s.looks.map Prod.snd).find? fun S => S.length == k) (List.range (n + 1))
        rw [List.length_range] at this
        omega
      refine ⟨bl, l4, bs, [.ref t3], rfl, rfl, s4' _ _ ebs, upd_same, Nat.le_of_lt (small_line (by simp; omega)), fun l5 hl5 => ?_⟩
      have s5' := Same.new (o := .lst (bs ++ [.ref t3])) s4' hl5
      walk_at "rd"
      refine r_tuple upd_same fun t6 ht6 => ?_
      have s6' := Same.new (o := .tup (bs ++ [.ref t3])) s5' ht6
      refine q _ _ (s03.trans s6') ⟨t6, _, rfl, upd_same, ?_⟩
      unfold blocksOf
      rw [if_neg er]
      exact each_app (hbs.ts (TupSame.of s6')) ⟨t3, rfl, s6' _ _ eg3⟩
end K07
end
section
set_option Elab.async false
set_option linter.all false
set_option maxRecDepth 100000
set_option maxHeartbeats 4000000
/-! k07: the blocks that are due -/
namespace K07
open PySem PySem.Spec PyProof.Rows L2 Nw
local macro_rules | `(tactic| walk_at "rd") => `(tactic| repeat' (first
  | with_reducible refine r_seq ?_ | with_reducible refine r_asg ?_ | with_reducible refine r_ret ?_ | with_reducible refine r_retN ?_ | with_reducible refine r_drop ?_ | with_reducible refine r_next ?_ | with_reducible refine r_brk ?_ | with_reducible refine r_cont ?_
  | ((with_reducible refine' r_var ?ev ?_); (case ev => rfl)) | with_reducible refine r_c ?_ | with_reducible refine r_op ?_ | with_reducible refine r_un ?_ | with_reducible refine r_ifS ?_ | with_reducible refine r_if ?_
  | with_reducible refine r_T ?_ | with_reducible refine r_isB ?_ | with_reducible refine r_and ?_ | with_reducible refine r_or ?_ | with_reducible refine r_not ?_ | with_reducible refine r_andV ?_ | with_reducible refine r_orV ?_ | with_reducible refine r_notV ?_
  | with_reducible refine r_nil ?_ | with_reducible refine r_cons ?_ | with_reducible refine r_lst ?_ | with_reducible refine r_tup ?_ | with_reducible refine r_ca ?_ | with_reducible refine r_cw ?_ | with_reducible refine r_cb ?_
  | with_reducible refine r_add ?_ | with_reducible refine r_sub ?_ | with_reducible refine r_neg ?_ | with_reducible refine r_lt ?_ | with_reducible refine r_le ?_ | with_reducible refine r_gt ?_ | with_reducible refine r_ge ?_ | with_reducible refine r_eqI ?_ | with_reducible refine r_neI ?_ | with_reducible refine r_eqB ?_ | with_reducible refine r_neB ?_
  | with_reducible refine r_isN ?_ | with_reducible refine r_notN ?_ | with_reducible refine r_min ?_ | with_reducible refine r_max ?_ | with_reducible refine r_int ?_ | with_reducible refine r_gcd ?_ | with_reducible refine r_for ?_ | with_reducible refine r_rg1 ?_ | with_reducible refine r_rg2 ?_ | with_reducible refine r_wlI ?_ | with_reducible refine r_wtI ?_ | with_reducible refine r_gN ?_ | with_reducible refine r_asgS ?_ | with_reducible refine r_bm0 ?_ | with_reducible refine r_bm ?_ | with_reducible refine r_lc ?_ | with_reducible refine r_gf ?_ | with_reducible refine r_sf ?_ | with_reducible refine r_ma ?_ | with_reducible refine r_mw ?_ | with_reducible refine r_pa ?_ | with_reducible refine r_ka ?_ | with_reducible refine r_kw ?_ | with_reducible refine r_chain ?_ | with_reducible refine r_ch ?_ | with_reducible refine r_dget ?_ | with_reducible refine r_din ?_ | with_reducible refine r_dnotin ?_ | with_reducible refine r_dput ?_ | with_reducible refine r_augS ?_ | with_reducible refine r_wsqI ?_ | with_reducible refine r_keysI ?_
  | with_reducible refine br_t ?_ | with_reducible refine br_f ?_ | with_reducible refine br_nt ?_ | with_reducible refine br_nf ?_))
local macro_rules | `(tactic| walk_at "rdt") => `(tactic| repeat' (first
  | with_reducible refine r_seq ?_ | with_reducible refine r_retN ?_ | with_reducible refine r_drop ?_ | with_reducible refine r_next ?_ | with_reducible refine r_brk ?_ | with_reducible refine r_cont ?_
  | ((with_reducible refine' r_var ?ev ?_); (case ev => rfl)) | with_reducible refine r_c ?_ | with_reducible refine r_op ?_ | with_reducible refine r_un ?_ | with_reducible refine r_ifS ?_ | with_reducible refine r_if ?_
  | with_reducible refine r_T ?_ | with_reducible refine r_isB ?_ | with_reducible refine r_and ?_ | with_reducible refine r_or ?_ | with_reducible refine r_not ?_ | with_reducible refine r_andV ?_ | with_reducible refine r_orV ?_ | with_reducible refine r_notV ?_
  | with_reducible refine r_nil ?_ | with_reducible refine r_cons ?_ | with_reducible refine r_lst ?_ | with_reducible refine r_tup ?_ | with_reducible refine r_ca ?_ | with_reducible refine r_cw ?_ | with_reducible refine r_cb ?_
  | with_reducible refine r_add ?_ | with_reducible refine r_sub ?_ | with_reducible refine r_neg ?_ | with_reducible refine r_lt ?_ | with_reducible refine r_le ?_ | with_reducible refine r_gt ?_ | with_reducible refine r_ge ?_ | with_reducible refine r_eqI ?_ | with_reducible refine r_neI ?_ | with_reducible refine r_eqB ?_ | with_reducible refine r_neB ?_
  | with_reducible refine r_isN ?_ | with_reducible refine r_notN ?_ | with_reducible refine r_min ?_ | with_reducible refine r_max ?_ | with_reducible refine r_int ?_ | with_reducible refine r_gcd ?_ | with_reducible refine r_for ?_ | with_reducible refine r_rg1 ?_ | with_reducible refine r_rg2 ?_ | with_reducible refine r_wlI ?_ | with_reducible refine r_wtI ?_ | with_reducible refine r_gN ?_ | with_reducible refine r_asgS ?_ | with_reducible refine r_bm0 ?_ | with_reducible refine r_bm ?_ | with_reducible refine r_lc ?_ | with_reducible refine r_gf ?_ | with_reducible refine r_sf ?_ | with_reducible refine r_ma ?_ | with_reducible refine r_mw ?_ | with_reducible refine r_pa ?_ | with_reducible refine r_ka ?_ | with_reducible refine r_kw ?_ | with_reducible refine r_chain ?_ | with_reducible refine r_ch ?_ | with_reducible refine r_dget ?_ | with_reducible refine r_din ?_ | with_reducible refine r_dnotin ?_ | with_reducible refine r_dput ?_ | with_reducible refine r_augS ?_ | with_reducible refine r_wsqI ?_ | with_reducible refine r_keysI ?_
  | with_reducible refine br_t ?_ | with_reducible refine br_f ?_ | with_reducible refine br_nt ?_ | with_reducible refine br_nf ?_))
local macro_rules | `(tactic| walk_at "rdq") => `(tactic| repeat' (first | ((with_reducible refine' r_var ?ev ?_); (case ev => rfl)) | with_reducible refine r_c ?_ | with_reducible refine r_T ?_ | with_reducible refine r_isB ?_ | with_reducible refine r_op ?_ | with_reducible refine r_eqI ?_ | with_reducible refine r_not ?_ | with_reducible refine br_t ?_ | with_reducible refine br_f ?_ | with_reducible refine br_nt ?_ | with_reducible refine br_nf ?_ | with_reducible refine r_next ?_))
local macro_rules | `(tactic| walk_at "rdv") => `(tactic| repeat' (first | ((with_reducible refine' r_var ?ev ?_); (case ev => rfl)) | with_reducible refine r_T ?_ | with_reducible refine r_isB ?_))
theorem any_ints {x : Nat} {l : List Nat} : ((l.map fun (z : Nat) => PyData.int (z : Int)).any fun z => PyData.eqv z (.int (x : Int))) = decide (x ∈ l) := by
  induction l with
  | nil => rfl
  | cons a l ih =>
    rw [List.map_cons, List.any_cons, ih]
    by_cases e : a = x
    · subst e; simp [PyData.eqv]
    · have : ((a : Int) == (x : Int)) = false := by simpa using fun q : (a : Int) = (x : Int) => e (by omega)
      have e2 : x ≠ a := fun q => e q.symm
      simp [PyData.eqv, this, e2]
theorem dp_list {K : Frag} {H : Hp} {a : Addr} {l : List Nat} (h : H a = some (.lst (nt l))) : Dp K H (.ref a) (.list (l.map fun (z : Nat) => PyData.int (z : Int))) := .lst (SqL.of h) dpAll_ints
theorem lay_list {l : List Nat} : lay 1 (.list (l.map fun (z : Nat) => PyData.int (z : Int))) := lay_lst fun d hd => by
  obtain ⟨z, _, rfl⟩ := List.mem_map.mp hd
  exact lay_int
theorem r_outL {K : Frag} {H : Hp} {Q : VK} {x : Nat} {a : Addr} {l : List Nat} (h : H a = some (.lst (nt l))) (q : Q (.bl (!decide (x ∈ l))) H) : rNotInD K (.int (x : Int)) (.ref a) H Q :=
  ⟨.int (x : Int), _, .int _, dp_list h, lay_int.shaped (by decide), lay_list.shaped (by decide), by rw [any_ints]; exact q⟩
/-- [x for x in l if x not in seen], a tuple and a list -/
theorem lc_outL {K : Frag} {a sd : Addr} {l seen : List Nat} {j m : Nat} {vs : List Nat} {Q : VK} {σ : L2.St} {H : Hp} (ha : H a = some (.tup (nt l))) (hs : H sd = some (.lst (nt seen))) (hl : l.length ≤ 10000) (hw : ∀ x, wipe ((wipe σ vs).set j (some x)) vs = wipe σ vs)
    (hj : ∀ x, ((wipe σ vs).set j (some x))[j]? = some (some x)) (hm : ∀ x, ((wipe σ vs).set j (some x))[m]? = some (some (.ref sd)))
    (k : ∀ D H', H D = none → Same H H' → H' D = some (.lst (nt (l.filter fun x => !decide (x ∈ seen)))) → Q (.ref D) H') : lcG (Itt K a) (gName j) (tT (tOp (rNotInD K) (tVar j) (tVar m))) (tVar j) vs Q σ H := by
  refine lc_sqF (K := K) (xs := nt l) (notIn seen) ⟨a, .inr ⟨rfl, .inl (.inl ha)⟩⟩ (by rw [nt_len]; exact hl) hw (fun i v H' QB hi s1 q1 => ?_) (fun i v H' Q' hi s1 q1 => r_var (hj v) (q1 H' (Same.refl _))) fun D H' hD s1 e1 => k D H' hD s1 (by rw [e1, nt_notIn])
  rw [List.getElem?_map] at hi
  cases hz : l[i]? with
  | none => rw [hz] at hi; cases hi
  | some z =>
    rw [hz] at hi
    cases hi
    exact r_T (r_op (r_var (hj _) (r_var (hm _) (r_outL (s1 _ _ hs) (r_isB (q1 H' (Same.refl _)))))))
def PairV (H : Hp) (y : V) (S : List Nat) : Prop := ∃ b u, y = .ref b ∧ H b = some (.tup [.int (S.length : Int), .ref u]) ∧ H u = some (.tup (nt S))
theorem PairV.ts {H H' : Hp} {y : V} {S : List Nat} (h : PairV H y S) (t : TupSame H H') : PairV H' y S := by
  obtain ⟨b, u, e, h1, h2⟩ := h
  exact ⟨b, u, e, t _ _ h1, t _ _ h2⟩
theorem PairV.dp {K : Frag} {H : Hp} {y : V} {S : List Nat} (h : PairV H y S) : Dp K H y (pairD S) := by
  obtain ⟨b, u, rfl, h1, h2⟩ := h
  exact dp_pair h1 h2
theorem Each.tsP {H H' : Hp} {ys : List V} {Bs : List (List Nat)} (h : Each (PairV H) ys Bs) (t : TupSame H H') : Each (PairV H') ys Bs :=
  ⟨h.1, fun i x hx => (h.2 i x hx).imp fun y ⟨e, p⟩ => ⟨e, p.ts t⟩⟩
theorem any_pairs {S : List Nat} {acc : List (List Nat)} : ((acc.map pairD).any fun z => PyData.eqv z (pairD S)) = decide (S ∈ acc) := by
  induction acc with
  | nil => rfl
  | cons a l ih =>
    rw [List.map_cons, List.any_cons, ih, eqv_pair]
    by_cases e : a = S
    · subst e; simp
    · have e2 : S ≠ a := fun q => e q.symm
      simp [e, e2]
def und : PyData → List Nat
  | .tuple [_, .tuple ds] => ds.map fun d => match d with
    | .int i => i.toNat
    | _ => 0
  | _ => []
theorem und_pair {S : List Nat} : und (pairD S) = S := by
  show (S.map fun (z : Nat) => PyData.int (z : Int)).map _ = S
  rw [List.map_map]
  conv => rhs; rw [← List.map_id S]
  refine List.map_congr_left fun z _ => ?_
  show ((z : Int)).toNat = z
  exact Int.toNat_natCast z
theorem lay_pairs {acc : List (List Nat)} : lay 3 (.list (acc.map pairD)) := lay_lst fun d hd => by
  obtain ⟨z, _, rfl⟩ := List.mem_map.mp hd
  exact lay_pair
theorem dp_pairs {K : Frag} {H : Hp} {a : Addr} {us : List V} {acc : List (List Nat)} (h : H a = some (.lst us)) (e : Each (PairV H) us acc) : Dp K H (.ref a) (.list (acc.map pairD)) := .lst (SqL.of h) (dpAll_of (by rw [e.1, List.length_map]) fun i d hd => by
  rw [List.getElem?_map] at hd
  cases hz : acc[i]? with
  | none => rw [hz] at hd; cases hd
  | some S =>
    rw [hz] at hd
    cases hd
    obtain ⟨y, e1, p⟩ := e.2 i S hz
    exact ⟨y, e1, p.dp⟩)
theorem each_appP {R : V → List Nat → Prop} {ys : List V} {Bs : List (List Nat)} {y : V} {B : List Nat} (h : Each R ys Bs) (hy : R y B) : Each R (ys ++ [y]) (Bs ++ [B]) := each_app h hy
theorem cuts_len {n : Nat} {s : Lev} : (cuts n s).length ≤ n + 1 := by
  unfold cuts
  have := List.length_filterMap_le (fun k => (s.looks.map Prod.snd).find? fun S => S.length == k) (List.range (n + 1))
  rw [List.length_range] at this
  exact this
/-- the unlike looks so far, at ul -/
structure Ul (G : Hp) (ul : Addr) (s : Lev) (i : Nat) (us : List V) (acc : List (List Nat)) : Prop where
  at_ : G ul = some (.lst us)
  ea : Each (PairV G) us acc
  nd : acc.Nodup
  mem : ∀ S, S ∈ acc ↔ ∃ p, (p, S) ∈ s.looks.take i
  few : acc.length ≤ i
theorem rd__law_blocks_due {K : PySem.W.Frag} (vs : List V) (H : Hp) (Q : VK) (E : XK) (h : sp__law_blocks_due K vs H Q E) : t__law_blocks_due K { nx := fun _ H' => Q .non H', rt := Q } (start ["_law_looks", "_law_wrote", "_law_unlike", "_law_name", "_law_seen", "_law_blocks", "_law_pair", "_law_rest"] vs) H := by
  obtain ⟨lk, wt, n, s, wr, rfl, ⟨ta, d⟩, hwt, hwr, hok, g, q⟩ := h
  have h6 := hok.2
  have lkl := g.looks_len
  unfold t__law_blocks_due
  walk_at "rd"
  refine r_nL (Nat.zero_le _) fun ul hul => ?_
  have s1 := same_new (o := .lst []) hul
  have eul : upd H ul (.lst []) ul = some (.lst []) := upd_same
  generalize hH1 : upd H ul (.lst []) = H1 at s1 eul ⊢
  with_reducible refine r_seq ?_
  refine r_lock (s1 _ _ d.at_) trivial fun od => ?_
  have d1 := d.same s1
  have nul : ul ≠ lk := ne_kind eul d1.at_ (by intro z; cases z)
  have ntu : ∀ p S, (p, S) ∈ s.looks → upd H1 lk (.frz od (.dK (kvs s.looks ta))) (ta p) = some (.tup (nt S)) := fun p S hm => by
    rw [upd_ne (ne_kind (d1.tup (p, S) hm) d1.at_ (by intro z; cases z))]; exact d1.tup (p, S) hm
  have ed : upd H1 lk (.frz od (.dK (kvs s.looks ta))) lk = some (.frz od (.dK (kvs s.looks ta))) := upd_same
  have eul0 : upd H1 lk (.frz od (.dK (kvs s.looks ta))) ul = some (.lst []) := by rw [upd_ne nul]; exact eul
  have un : ∀ {G : Hp}, Bt ul (upd H1 lk (.frz od (.dK (kvs s.looks ta)))) G → Bt ul H1 (upd G lk (.dK (kvs s.looks ta))) := fun {G} b1 b o nb e => by
    by_cases c : b = lk
    · rw [c, upd_same]
      rw [c, d1.at_] at e
      exact e
    · rw [upd_ne c]
      exact b1 b o nb (by rw [upd_ne c]; exact e)
  generalize upd H1 lk (.frz od (.dK (kvs s.looks ta))) = H0 at ntu ed eul0 un ⊢
  have gd : ∀ {G : Hp} {p : Nat} {S : List Nat} {Q' : VK}, Bt ul H0 G → (p, S) ∈ s.looks → (G (ta p) = some (.tup (nt S)) → Q' (.ref (ta p)) G) → dg (.ref lk) (.int (p : Int)) G Q' := fun {G p S Q'} b1 hm hq =>
    r_dgI (.inr ⟨od, b1 _ _ (Ne.symm nul) ed⟩) (key_some (List.mem_map_of_mem (f := Prod.fst) hm)) (hq (b1 _ _ (ne_kind (ntu p S hm) eul0 (by intro z; cases z)) (ntu p S hm)))
  walk_at "rd"
  refine r_keys ed ?_
  refine lp_keys (fun i σ G => (∃ x, σ = [some (.ref lk), some (.ref wt), some (.ref ul), x, none, none, none, none]) ∧ (∃ us acc, Ul G ul s i us acc) ∧ Bt ul H0 G) ⟨⟨_, rfl⟩, ⟨[], [], eul0, ⟨rfl, fun i x hx => by simp at hx⟩, List.nodup_nil, fun S => by simp, Nat.le_refl _⟩, Bt.refl _ _⟩ (fun i τ G _ p => p.2.2 _ _ (Ne.symm nul) ed) (fun i q0 τ G hi p => ?_) fun τ G p => ?_
  · obtain ⟨⟨x, rfl⟩, ⟨us, acc, U⟩, b1⟩ := p
    have hi2 := hi
    unfold kvs at hi2
    rw [List.getElem?_map] at hi2
    cases hlk : s.looks[i]? with
    | none => rw [hlk] at hi2; cases hi2
    | some z =>
    obtain ⟨p, S⟩ := z
    rw [hlk] at hi2
    cases hi2
    have hm : (p, S) ∈ s.looks := List.mem_of_getElem? hlk
    have hil : i < s.looks.length := (List.getElem?_eq_some_iff.mp hlk).1
    have fin : ∀ (D : Ends) G' us' acc', Ul G' ul s (i + 1) us' acc' → Bt ul H0 G' → (∃ x, ([some (.ref lk), some (.ref wt), some (.ref ul), some (.int (p : Int)), none, none, none, none] : L2.St) = [some (.ref lk), some (.ref wt), some (.ref ul), x, none, none, none, none]) ∧ (∃ us acc, Ul G' ul s (i + 1) us acc) ∧ Bt ul H0 G' := fun D G' us' acc' U' b' => ⟨⟨_, rfl⟩, ⟨us', acc', U'⟩, b'⟩
    have tk := take_app hlk
    show gName 3 (.int (p : Int)) _ _ _
    walk_at "rd"
    refine gd b1 hm fun eS => ?_
    walk_at "rd"
    refine r_len (.inr (.inl (.inl eS))) ?_
    rw [nt_len]
    walk_at "rd"
    refine gd b1 hm fun _ => ?_
    walk_at "rd"
    refine r_nT (by show 2 ≤ sizeLine; decide) fun b hb => ?_
    have s2 := same_new (o := .tup [.int (S.length : Int), .ref (ta p)]) hb
    have b2 : Bt ul H0 (upd G b (.tup [.int (S.length : Int), .ref (ta p)])) := b1.trans (Bt.of s2)
    have U2 : Ul (upd G b (.tup [.int (S.length : Int), .ref (ta p)])) ul s i us acc := ⟨s2 _ _ U.at_, U.ea.tsP (TupSame.of s2), U.nd, U.mem, U.few⟩
    have pv : PairV (upd G b (.tup [.int (S.length : Int), .ref (ta p)])) (.ref b) S := ⟨b, ta p, rfl, upd_same, s2 _ _ eS⟩
    generalize upd G b (.tup [.int (S.length : Int), .ref (ta p)]) = G2 at b2 U2 pv ⊢
    walk_at "rd"
    refine ⟨pairD S, acc.map pairD, pv.dp, dp_pairs U2.at_ U2.ea, lay_pair.shaped (by decide), lay_pairs.shaped (by decide), ?_⟩
    rw [any_pairs]
    walk_at "rd"
    refine br_nd (fun c => ?_) fun c => ?_
    · walk_at "rd"
      refine r_bmL U2.at_ ?_
      walk_at "rd"
      refine gd b2 hm fun eS2 => ?_
      walk_at "rd"
      refine r_len (.inr (.inl (.inl eS2))) ?_
      rw [nt_len]
      walk_at "rd"
      refine gd b2 hm fun _ => ?_
      walk_at "rd"
      refine r_nT (by show 2 ≤ sizeLine; decide) fun b3 hb3 => ?_
      have s3 := same_new (o := .tup [.int (S.length : Int), .ref (ta p)]) hb3
      have uf := U2.few
      walk_at "rd"
      refine r_app (s3 _ _ U2.at_) (small_line (by rw [U2.ea.1]; omega)) ?_
      have ts3 : TupSame G2 (upd (upd G2 b3 (.tup [.int (S.length : Int), .ref (ta p)])) ul (.lst (us ++ [.ref b3]))) := TupSame.trans (TupSame.of s3) (tup_upd_l (s3 _ _ U2.at_))
      refine ⟨⟨_, rfl⟩, ⟨us ++ [.ref b3], acc ++ [S], upd_same, each_app (U2.ea.tsP ts3) ⟨b3, ta p, rfl, tup_upd_l (s3 _ _ U2.at_) _ _ upd_same, ts3 _ _ eS2⟩, ?_, fun T => ?_, ?_⟩, ?_⟩
      · rw [List.nodup_append]
        refine ⟨U2.nd, by simp, fun x hx y hy => ?_⟩
        rw [List.mem_singleton] at hy
        rw [hy]
        exact fun e => c (e ▸ hx)
      · rw [tk, List.mem_append, U2.mem T, List.mem_singleton]
        constructor
        · rintro (⟨r, hr⟩ | rfl)
          · exact ⟨r, List.mem_append_left _ hr⟩
          · exact ⟨p, List.mem_append_right _ (by simp)⟩
        · rintro ⟨r, hr⟩
          rw [List.mem_append, List.mem_singleton] at hr
          rcases hr with hr | hr
          · exact .inl ⟨r, hr⟩
          · exact .inr (Prod.mk.inj hr).2
      · rw [List.length_append]
        simp
        omega
      · exact (b2.trans (Bt.of s3)).trans Bt.put
    · walk_at "rd"
      refine ⟨⟨_, rfl⟩, ⟨us, acc, U2.at_, U2.ea, U2.nd, fun T => ?_, by have := U2.few; omega⟩, b2⟩
      rw [tk, U2.mem T]
      constructor
      · rintro ⟨r, hr⟩
        exact ⟨r, List.mem_append_left _ hr⟩
      · rintro ⟨r, hr⟩
        rw [List.mem_append, List.mem_singleton] at hr
        rcases hr with hr | hr
        · exact ⟨r, hr⟩
        · rw [(Prod.mk.inj hr).2]
          exact (U2.mem S).mp c
  obtain ⟨⟨x, rfl⟩, ⟨us, acc, U⟩, b1⟩ := p
  rw [kvs_len] at U
  have Um : ∀ S, S ∈ acc ↔ ∃ p, (p, S) ∈ s.looks := fun S => by
    have := U.mem S
    rwa [List.take_length] at this
  have edG := b1 _ _ (Ne.symm nul) ed
  refine ⟨edG, ?_⟩
  have bG := un b1
  have tsG : TupSame G (upd G lk (.dK (kvs s.looks ta))) := fun b xs e => by
    rw [upd_ne (ne_kind e edG (by intro z; cases z))]
    exact e
  have eu1 : upd G lk (.dK (kvs s.looks ta)) ul = some (.lst us) := by rw [upd_ne nul]; exact U.at_
  have ea1 := U.ea.tsP tsG
  have sG : Same H (upd G lk (.dK (kvs s.looks ta))) := fun b o e => bG b o (ne_of_none e hul) (s1 b o e)
  generalize upd G lk (.dK (kvs s.looks ta)) = G1 at eu1 ea1 sG ⊢
  walk_at "rd"
  refine r_nL (Nat.zero_le _) fun sl hsl => ?_
  walk_at "rd"
  refine r_nL (Nat.zero_le _) fun bl hbl => ?_
  have s3 := Same.new (o := .lst []) (same_new (o := .lst []) hsl) hbl
  have hblH : H bl = none := same_none sG (upd_none hbl)
  have esl : upd (upd G1 sl (.lst [])) bl (.lst []) sl = some (.lst (nt [])) := same_new hbl _ _ upd_same
  have ebl : upd (upd G1 sl (.lst [])) bl (.lst []) bl = some (.lst []) := upd_same
  have slbl : sl ≠ bl := fun e => by rw [← e, upd_same] at hbl; cases hbl
  have eu3 := s3 _ _ eu1
  have ea3 := ea1.tsP (TupSame.of s3)
  have sG3 := sG.trans s3
  generalize upd (upd G1 sl (.lst [])) bl (.lst []) = G3 at s3 esl ebl eu3 ea3 sG3 ⊢
  walk_at "rd"
  obtain ⟨k0, hk0, hkk⟩ := pick (α := V × List Nat) (P := fun i z => us[i]? = some z.1 ∧ acc[i]? = some z.2 ∧ PairV G3 z.1 z.2) (n := us.length) fun i hi => by
    have hi2 : i < acc.length := by rw [← ea3.1]; exact hi
    obtain ⟨y, e1, p1⟩ := ea3.2 i acc[i] (List.getElem?_eq_getElem hi2)
    exact ⟨(y, acc[i]), e1, List.getElem?_eq_getElem hi2, p1⟩
  have eus : us = (k0.map fun z => (z.1, pairD z.2)).map Prod.fst := by
    rw [List.map_map]
    apply List.ext_getElem?
    intro i
    rw [List.getElem?_map]
    cases e : k0[i]? with
    | none =>
      have := List.getElem?_eq_none_iff.mp e
      rw [List.getElem?_eq_none (by omega)]
      rfl
    | some z => rw [(hkk i z e).1]; rfl
  have eac : (k0.map fun z => (z.1, pairD z.2)).map (fun q => und q.2) = acc := by
    rw [List.map_map]
    apply List.ext_getElem?
    intro i
    rw [List.getElem?_map]
    cases e : k0[i]? with
    | none =>
      have h1 := List.getElem?_eq_none_iff.mp e
      rw [List.getElem?_eq_none (by rw [← ea3.1]; omega)]
      rfl
    | some z =>
      rw [(hkk i z e).2.1]
      show some (und (pairD z.2)) = some z.2
      rw [und_pair]
  have kin : ∀ q ∈ k0.map (fun z => (z.1, pairD z.2)), ∃ S, q.2 = pairD S ∧ PairV G3 q.1 S := fun q hq => by
    obtain ⟨z, hz, rfl⟩ := List.mem_map.mp hq
    obtain ⟨i, hi⟩ := List.getElem?_of_mem hz
    exact ⟨z.2, rfl, (hkk i z hi).2.2⟩
  generalize (k0.map fun z => (z.1, pairD z.2)) = bs at eus eac kin
  have hcut := srt_cuts g bs Prod.snd (fun q => und q.2) (fun q hq => by
    obtain ⟨S, e, _⟩ := kin q hq
    rw [e, und_pair]) (by rw [eac]; exact U.nd) (fun T => by rw [eac]; exact Um T)
  refine ⟨ul, bs, rfl, SqL.of (by rw [← eus]; exact eu3), fun q hq => ?_, ?_, ?_, fun q hq => ?_, fun pl hpl => ?_⟩
  · obtain ⟨S, e, p⟩ := kin q hq
    rw [e]
    exact p.dp
  · exact pairs_alike fun d hd => by
      obtain ⟨q, hq, rfl⟩ := List.mem_map.mp hd
      exact (kin q hq).imp fun S h => h.1
  · exact pairs_sortable fun d hd => by
      obtain ⟨q, hq, rfl⟩ := List.mem_map.mp hd
      exact (kin q hq).imp fun S h => h.1
  · obtain ⟨S, e, p⟩ := kin q hq
    rw [e]
    have := (lay_pair (S := S)).2
    omega
  have tin : ∀ q ∈ NwS.srt (Prod.snd : V × PyData → PyData) bs, ∃ S, und q.2 = S ∧ PairV G3 q.1 S := fun q hq => by
    obtain ⟨S, e, p⟩ := kin q ((NwS.srt_perm _ bs).mem_iff.mp hq)
    exact ⟨S, by rw [e, und_pair], p⟩
  generalize NwS.srt (Prod.snd : V × PyData → PyData) bs = T at hcut tin ⊢
  have s5 := same_new (o := .lst (T.map Prod.fst)) hpl
  have nbl : pl ≠ bl := fun e => by rw [e, ebl] at hpl; cases hpl
  have epl : upd G3 pl (.lst (T.map Prod.fst)) pl = some (.lst (T.map Prod.fst)) := upd_same
  have tin5 : ∀ q ∈ T, ∃ S, und q.2 = S ∧ PairV (upd G3 pl (.lst (T.map Prod.fst))) q.1 S := fun q hq => (tin q hq).imp fun S h => ⟨h.1, h.2.ts (TupSame.of s5)⟩
  have sG5 := sG3.trans s5
  have esl5 := s5 _ _ esl
  have ebl5 := s5 _ _ ebl
  generalize upd G3 pl (.lst (T.map Prod.fst)) = H5 at s5 epl tin5 sG5 esl5 ebl5 ⊢
  walk_at "rd"
  refine r_wl (SqL.of epl) ?_
  have cl : (cuts n s).length = T.length := by rw [← hcut, List.length_map]
  have clen := @cuts_len n s
  refine lp_list (xs := T.map Prod.fst) (fun i σ G => (∃ x sd y, σ = [some (.ref lk), some (.ref wt), some (.ref ul), x, some (.ref sd), some (.ref bl), y, none] ∧ sd ≠ bl ∧ G sd = some (.lst (nt (lastS [] ((cuts n s).take i))))) ∧ Bl G bl (blk [] ((cuts n s).take i)) ∧ Bt bl H5 G)
    ⟨⟨_, sl, _, rfl, slbl, esl5⟩, ⟨[], ebl5, rfl, fun i x hx => by simp [blk] at hx⟩, Bt.refl _ _⟩ (fun i τ G _ p => SqL.of (p.2.2 _ _ nbl epl)) (fun i x τ G hi p => ?_) fun τ G p => ?_
  · obtain ⟨⟨x3, sd, x6, rfl, nsd, esd⟩, ⟨bs2, ebs, hbs⟩, bt⟩ := p
    rw [List.getElem?_map] at hi
    cases hq : T[i]? with
    | none => rw [hq] at hi; cases hi
    | some q1 =>
    rw [hq] at hi
    cases hi
    obtain ⟨S, hun, b, u, hqb, hb, hu⟩ := tin5 q1 (List.mem_of_getElem? hq)
    rw [hqb]
    have hcS : (cuts n s)[i]? = some S := by rw [← hcut, List.getElem?_map, hq, ← hun]; rfl
    have nb : ∀ {b : Addr} {us : List V}, H5 b = some (.tup us) → G b = some (.tup us) := fun {b us} e => bt _ _ (ne_kind e ebl5 (by intro z; cases z)) e
    have hS : S.length ≤ n := by
      obtain ⟨p, hp⟩ := g.cuts_mem.mp (List.mem_of_getElem? hcS)
      exact (g.look hp).2.2.2.2
    have hlen : i < (cuts n s).length := (List.getElem?_eq_some_iff.mp hcS).1
    walk_at "rd"
    refine r_bmL ebs ?_
    walk_at "rd"
    refine r_ixT (.inl (.inl (nb hb))) rfl ?_
    refine r_wt (xs := nt S) (.inl (.inl (nb hu))) ?_
    refine lc_outL (nb hu) esd (by omega) (fun _ => rfl) (fun _ => rfl) (fun _ => rfl) fun D2 G2 hD2 sg eg => ?_
    walk_at "rd"
    refine r_tuple eg fun t3 ht3 => ?_
    have sg3 := Same.new (o := .tup (nt (S.filter fun x => !decide (x ∈ lastS [] ((cuts n s).take i))))) sg ht3
    have eg3 : upd G2 t3 (.tup (nt (S.filter fun x => !decide (x ∈ lastS [] ((cuts n s).take i))))) t3 = some (.tup (nt (S.filter fun x => !decide (x ∈ lastS [] ((cuts n s).take i))))) := upd_same
    generalize upd G2 t3 (.tup (nt (S.filter fun x => !decide (x ∈ lastS [] ((cuts n s).take i))))) = G4 at sg3 eg3 ⊢
    have lb : bs2.length ≤ 7 := by
      rw [hbs.1, blk_len, List.length_take]
      omega
    walk_at "rd"
    refine r_app (sg3 _ _ ebs) (small_line (by omega)) ?_
    have tu := tup_upd_l (ys := bs2 ++ [.ref t3]) (sg3 _ _ ebs)
    walk_at "rd"
    refine r_ixT (.inl (.inl (tu _ _ (sg3 _ _ (nb hb))))) rfl ?_
    walk_at "rd"
    refine r_list (.inr (.inl (.inl (tu _ _ (sg3 _ _ (nb hu)))))) fun l5 hl5 => ?_
    have s55 := same_new (o := .lst (nt S)) hl5
    walk_at "rd"
    refine ⟨⟨_, l5, _, rfl, (fun e => by rw [e, upd_same] at hl5; cases hl5), ?_⟩, ?_, fun b o nb2 e => ?_⟩
    · rw [take_app hcS, lastS_app]
      exact upd_same
    · rw [take_app hcS, blk_app]
      exact (Bl.put (sg3 _ _ ebs) (hbs.ts (TupSame.of sg3)) eg3).same s55
    · refine s55 _ _ ?_
      rw [upd_ne nb2]
      exact sg3 _ _ (bt b o nb2 e)
  · obtain ⟨⟨x3, sd, x6, rfl, nsd, esd⟩, hbl2, bt⟩ := p
    rw [List.length_map, ← cl, List.take_length] at esd hbl2
    have nb : ∀ {b : Addr} {us : List V}, H5 b = some (.tup us) → G b = some (.tup us) := fun {b us} e => bt _ _ (ne_kind e ebl5 (by intro z; cases z)) e
    have s0G : Same H G := fun b o e => bt b o (ne_of_none e hblH) (sG5 _ _ e)
    walk_at "rd"
    refine r_wt (xs := nt wr) (.inl (.inl (nb (sG5 _ _ hwt)))) ?_
    refine lc_outL (nb (sG5 _ _ hwt)) esd (by omega) (fun _ => rfl) (fun _ => rfl) (fun _ => rfl) fun D2 G2 hD2 sg eg => ?_
    walk_at "rd"
    refine r_tuple eg fun t3 ht3 => ?_
    rw [show (wr.filter fun x => !decide (x ∈ lastS [] (cuts n s))) = restB wr (cuts n s) from rfl]
    have sg3 := Same.new (o := .tup (nt (restB wr (cuts n s)))) sg ht3
    have eg3 : upd G2 t3 (.tup (nt (restB wr (cuts n s)))) t3 = some (.tup (nt (restB wr (cuts n s)))) := upd_same
    generalize upd G2 t3 (.tup (nt (restB wr (cuts n s)))) = G4 at sg3 eg3 ⊢
    obtain ⟨bs2, ebs, hbs⟩ := hbl2.same sg3
    have s03 := s0G.trans sg3
    have lb : bs2.length ≤ 7 := by
      rw [hbs.1, blk_len]
      omega
    walk_at "rd"
    refine r_len (.inr (.inl (.inl eg3))) ?_
    rw [nt_len]
    walk_at "rd"
    refine br_d (fun c => ?_) fun c => ?_
    · have er : restB wr (cuts n s) ≠ [] := fun e => by rw [e] at c; simp at c
      walk_at "rd"
      refine r_bmL ebs ?_
      walk_at "rd"
      refine r_app ebs (small_line (by omega)) ?_
      have tu := tup_upd_l (ys := bs2 ++ [.ref t3]) ebs
      have e9 : Each (fun y B => ∃ b, y = V.ref b ∧ upd G4 bl (.lst (bs2 ++ [.ref t3])) b = some (.tup (nt B))) (bs2 ++ [.ref t3]) (blk [] (cuts n s) ++ [restB wr (cuts n s)]) := each_app (hbs.ts tu) ⟨t3, rfl, tu _ _ eg3⟩
      have s09 : Same H (upd G4 bl (.lst (bs2 ++ [.ref t3]))) := fun b o e => by
        rw [upd_ne (ne_of_none e hblH)]
        exact s03 _ _ e
      walk_at "rd"
      refine r_tuple upd_same fun t6 ht6 => ?_
      refine q _ _ (s09.trans (same_new ht6)) ⟨t6, _, rfl, upd_same, ?_⟩
      unfold blocksOf
      rw [if_neg er]
      exact e9.ts (TupSame.of (same_new ht6))
    · have er : restB wr (cuts n s) = [] := by
        cases h : restB wr (cuts n s) with
        | nil => rfl
        | cons a l =>
          rw [h] at c
          simp at c
      walk_at "rd"
      refine r_tuple ebs fun t6 ht6 => ?_
      refine q _ _ (s03.trans (same_new ht6)) ⟨t6, bs2, rfl, upd_same, ?_⟩
      unfold blocksOf
      rw [if_pos er, List.append_nil]
      exact hbs.ts (TupSame.of (same_new ht6))
end K07
end
section
set_option Elab.async false
set_option linter.all false
set_option maxRecDepth 100000
set_option maxHeartbeats 4000000
/-! k07: a turn of both, and the finish -/
namespace K07
open PySem PySem.Spec PyProof.Rows L2 Nw
local macro_rules | `(tactic| walk_at "rd") => `(tactic| repeat' (first
  | with_reducible refine r_seq ?_ | with_reducible refine r_asg ?_ | with_reducible refine r_ret ?_ | with_reducible refine r_retN ?_ | with_reducible refine r_drop ?_ | with_reducible refine r_next ?_ | with_reducible refine r_brk ?_ | with_reducible refine r_cont ?_
  | ((with_reducible refine' r_var ?ev ?_); (case ev => rfl)) | with_reducible refine r_c ?_ | with_reducible refine r_op ?_ | with_reducible refine r_un ?_ | with_reducible refine r_ifS ?_ | with_reducible refine r_if ?_
  | with_reducible refine r_T ?_ | with_reducible refine r_isB ?_ | with_reducible refine r_and ?_ | with_reducible refine r_or ?_ | with_reducible refine r_not ?_ | with_reducible refine r_andV ?_ | with_reducible refine r_orV ?_ | with_reducible refine r_notV ?_
  | with_reducible refine r_nil ?_ | with_reducible refine r_cons ?_ | with_reducible refine r_lst ?_ | with_reducible refine r_tup ?_ | with_reducible refine r_ca ?_ | with_reducible refine r_cw ?_ | with_reducible refine r_cb ?_
  | with_reducible refine r_add ?_ | with_reducible refine r_sub ?_ | with_reducible refine r_neg ?_ | with_reducible refine r_lt ?_ | with_reducible refine r_le ?_ | with_reducible refine r_gt ?_ | with_reducible refine r_ge ?_ | with_reducible refine r_eqI ?_ | with_reducible refine r_neI ?_ | with_reducible refine r_eqB ?_ | with_reducible refine r_neB ?_
  | with_reducible refine r_isN ?_ | with_reducible refine r_notN ?_ | with_reducible refine r_min ?_ | with_reducible refine r_max ?_ | with_reducible refine r_int ?_ | with_reducible refine r_gcd ?_ | with_reducible refine r_for ?_ | with_reducible refine r_rg1 ?_ | with_reducible refine r_rg2 ?_ | with_reducible refine r_wlI ?_ | with_reducible refine r_wtI ?_ | with_reducible refine r_gN ?_ | with_reducible refine r_asgS ?_ | with_reducible refine r_bm0 ?_ | with_reducible refine r_bm ?_ | with_reducible refine r_lc ?_ | with_reducible refine r_gf ?_ | with_reducible refine r_sf ?_ | with_reducible refine r_ma ?_ | with_reducible refine r_mw ?_ | with_reducible refine r_pa ?_ | with_reducible refine r_ka ?_ | with_reducible refine r_kw ?_ | with_reducible refine r_chain ?_ | with_reducible refine r_ch ?_ | with_reducible refine r_dget ?_ | with_reducible refine r_din ?_ | with_reducible refine r_dnotin ?_ | with_reducible refine r_dput ?_ | with_reducible refine r_augS ?_ | with_reducible refine r_wsqI ?_ | with_reducible refine r_keysI ?_
  | with_reducible refine br_t ?_ | with_reducible refine br_f ?_ | with_reducible refine br_nt ?_ | with_reducible refine br_nf ?_))
local macro_rules | `(tactic| walk_at "rdt") => `(tactic| repeat' (first
  | with_reducible refine r_seq ?_ | with_reducible refine r_retN ?_ | with_reducible refine r_drop ?_ | with_reducible refine r_next ?_ | with_reducible refine r_brk ?_ | with_reducible refine r_cont ?_
  | ((with_reducible refine' r_var ?ev ?_); (case ev => rfl)) | with_reducible refine r_c ?_ | with_reducible refine r_op ?_ | with_reducible refine r_un ?_ | with_reducible refine r_ifS ?_ | with_reducible refine r_if ?_
  | with_reducible refine r_T ?_ | with_reducible refine r_isB ?_ | with_reducible refine r_and ?_ | with_reducible refine r_or ?_ | with_reducible refine r_not ?_ | with_reducible refine r_andV ?_ | with_reducible refine r_orV ?_ | with_reducible refine r_notV ?_
  | with_reducible refine r_nil ?_ | with_reducible refine r_cons ?_ | with_reducible refine r_lst ?_ | with_reducible refine r_tup ?_ | with_reducible refine r_ca ?_ | with_reducible refine r_cw ?_ | with_reducible refine r_cb ?_
  | with_reducible refine r_add ?_ | with_reducible refine r_sub ?_ | with_reducible refine r_neg ?_ | with_reducible refine r_lt ?_ | with_reducible refine r_le ?_ | with_reducible refine r_gt ?_ | with_reducible refine r_ge ?_ | with_reducible refine r_eqI ?_ | with_reducible refine r_neI ?_ | with_reducible refine r_eqB ?_ | with_reducible refine r_neB ?_
  | with_reducible refine r_isN ?_ | with_reducible refine r_notN ?_ | with_reducible refine r_min ?_ | with_reducible refine r_max ?_ | with_reducible refine r_int ?_ | with_reducible refine r_gcd ?_ | with_reducible refine r_for ?_ | with_reducible refine r_rg1 ?_ | with_reducible refine r_rg2 ?_ | with_reducible refine r_wlI ?_ | with_reducible refine r_wtI ?_ | with_reducible refine r_gN ?_ | with_reducible refine r_asgS ?_ | with_reducible refine r_bm0 ?_ | with_reducible refine r_bm ?_ | with_reducible refine r_lc ?_ | with_reducible refine r_gf ?_ | with_reducible refine r_sf ?_ | with_reducible refine r_ma ?_ | with_reducible refine r_mw ?_ | with_reducible refine r_pa ?_ | with_reducible refine r_ka ?_ | with_reducible refine r_kw ?_ | with_reducible refine r_chain ?_ | with_reducible refine r_ch ?_ | with_reducible refine r_dget ?_ | with_reducible refine r_din ?_ | with_reducible refine r_dnotin ?_ | with_reducible refine r_dput ?_ | with_reducible refine r_augS ?_ | with_reducible refine r_wsqI ?_ | with_reducible refine r_keysI ?_
  | with_reducible refine br_t ?_ | with_reducible refine br_f ?_ | with_reducible refine br_nt ?_ | with_reducible refine br_nf ?_))
local macro_rules | `(tactic| walk_at "rdq") => `(tactic| repeat' (first | ((with_reducible refine' r_var ?ev ?_); (case ev => rfl)) | with_reducible refine r_c ?_ | with_reducible refine r_T ?_ | with_reducible refine r_isB ?_ | with_reducible refine r_op ?_ | with_reducible refine r_eqI ?_ | with_reducible refine r_not ?_ | with_reducible refine br_t ?_ | with_reducible refine br_f ?_ | with_reducible refine br_nt ?_ | with_reducible refine br_nf ?_ | with_reducible refine r_next ?_))
local macro_rules | `(tactic| walk_at "rdv") => `(tactic| repeat' (first | ((with_reducible refine' r_var ?ev ?_); (case ev => rfl)) | with_reducible refine r_T ?_ | with_reducible refine r_isB ?_))
def tTurn (K : Frag) (lv st cs lk nm du : Nat) : TS := (tSeq (tAsg (tCa (sp__law_step K) E0 (tCons (tVar st) (tCons (tVar cs) (tCons (tVar nm) tNil)))) (gName du))
    (tSeq (tIfS (tT (tOp (rNeD K) (tMa (He.ga K "Levels") "step" (sp_Levels_step K) E0 (tVar lv) (tCons (tVar nm) tNil)) (tVar du)))
    (tRet (tC (.bl false)))
    tNext)
    (tIfS (tT (tOp nNotN (tVar du) (tC .non)))
    (sDPut (tVar lk) (tVar nm) (tVar du))
    tNext)))
theorem Dct.some {H : Hp} {d : Addr} {looks : List (Nat × List Nat)} (h : Dct H d looks) : ∃ k, H d = some (.dK k) := by
  obtain ⟨ta, h⟩ := h
  exact ⟨_, h.at_⟩
/-- both, in a heap that grew out of H -/
def Wx (K : Frag) (H : Hp) (F : Addr → Prop) (G : Hp) (a st cs lk : Addr) (n : Nat) (s : Lev) : Prop := ∃ F', Wk K G a st cs lk n s F' ∧ Kp F H G ∧ ∀ b, F' b → F b ∨ H b = none
theorem Wk.same {K : Frag} {H H' : Hp} {a st cs lk : Addr} {n : Nat} {s : Lev} {F : Addr → Prop} (h : Wk K H a st cs lk n s F) (e : Same H H') : Wk K H' a st cs lk n s F := by
  obtain ⟨F1, F2, o1, o2, hc, d, hok, g, x1, x2, hF⟩ := h
  exact ⟨F1, F2, o1.same e, o2.same e, e _ _ hc, d.same e, hok, g, x1, x2, hF⟩
theorem Wx.same {K : Frag} {H G G' : Hp} {a st cs lk : Addr} {n : Nat} {s : Lev} {F : Addr → Prop} (h : Wx K H F G a st cs lk n s) (e : Same G G') : Wx K H F G' a st cs lk n s := by
  obtain ⟨F', w, k, f⟩ := h
  exact ⟨F', w.same e, k.trans (kp_same e), f⟩
theorem Wx.trans {K : Frag} {H G G' : Hp} {a st cs lk : Addr} {n : Nat} {s s' : Lev} {F F1 F2 : Addr → Prop} (k : Kp F H G) (f : ∀ b, F1 b → F b ∨ H b = none) (w : Wk K G' a st cs lk n s' F2) (k2 : Kp F1 G G') (f2 : ∀ b, F2 b → F1 b ∨ G b = none) : Wx K H F G' a st cs lk n s' := by
  refine ⟨F2, w, fun b o nf e => k2 b o (fun z => ?_) (k b o nf e), fun b hb => ?_⟩
  · rcases f b z with z | z
    · exact nf z
    · rw [z] at e; cases e
  · rcases f2 b hb with z | z
    · exact f b z
    · by_cases c : F b
      · exact .inl c
      · exact .inr (k.gone c z)
theorem turn {K : Frag} {H : Hp} {a st cs lk : Addr} {n p : Nat} {s : Lev} {F : Addr → Prop} {lv0 st0 cs0 lk0 nm du : Nat} {σ : L2.St} {D : Ends} (w : Wk K H a st cs lk n s F) (hp : p < n) (hk : p ∉ s.keys)
    (h1 : σ[st0]? = some (some (.ref st))) (h2 : σ[cs0]? = some (some (.ref cs))) (h3 : σ[nm]? = some (some (.int (p : Int))))
    (h4 : ∀ x, (σ.set du (some x))[lv0]? = some (some (.ref a))) (h5 : ∀ x, (σ.set du (some x))[nm]? = some (some (.int (p : Int)))) (h6 : ∀ x, (σ.set du (some x))[du]? = some (some x)) (h7 : ∀ x, (σ.set du (some x))[lk0]? = some (some (.ref lk)))
    (k : ∀ x H' F', Wk K H' a st cs lk n (step n s p).1 F' → Kp F H H' → (∀ b, F' b → F b ∨ H b = none) → D.nx (σ.set du (some x)) H') : tTurn K lv0 st0 cs0 lk0 nm du D σ H := by
  obtain ⟨F1, F2, o1, o2, hc, d, hok, g, x1, x2, hF⟩ := w
  have nc : ¬ F2 cs := fun z => (x2 cs z).1 rfl
  have cl : cs ≠ lk := by
    obtain ⟨kk, e⟩ := d.some
    exact ne_kind hc e (by intro z; cases z)
  unfold tTurn
  with_reducible refine r_seq ?_
  with_reducible refine r_asg ?_
  refine r_ca (r_cons (r_var h1 (r_cons (r_var h2 (r_cons (r_var h3 (r_nil ?_)))))))
  refine ⟨st, cs, p, n, s, F2, rfl, o2, hc, nc, hok, g, hp, fun r H1 F2' l2 c2 nc2 k2 f2 ret => ?_⟩
  have mu2 : Mu (fun b => F2 b ∨ b = cs) H := fun b hb => by
    rcases hb with hb | rfl
    · exact o2.mu b hb
    · exact ⟨_, hc, trivial⟩
  have o1' : LvO K H1 a n s F1 := o1.kp k2 (fun b hb z => by
    rcases z with z | z
    · exact (x1 b hb).1 z
    · exact (x1 b hb).2.1 z) mu2
  have d1 : Dct H1 lk s.looks := d.kp k2 (fun z => by
    rcases z with z | z
    · exact (x2 lk z).2 rfl
    · exact cl z.symm) mu2
  obtain ⟨dx, fs, ei, e1, _, _⟩ := o1'.ins'
  with_reducible refine r_seq ?_
  refine r_ifS (r_T (r_op (r_ma (r_var (h4 r) (r_mtI ei e1 (r_cons (r_var (h5 r) (r_nil ?_))))))))
  have F1F2' : ∀ b, F2' b → ¬ F1 b := fun b hb z => by
    rcases f2 b hb with y | y
    · exact (x1 b z).1 y
    · exact o1.mu.some z y
  have nF1cs : ¬ F1 cs := fun z => (x1 cs z).2.1 rfl
  have nF1lk : ¬ F1 lk := fun z => (x1 lk z).2.2 rfl
  refine ⟨a, _, n, s, F1, rfl, o1', hok, g, .inl ⟨p, hp, rfl, hk, fun r2 H2 F1' l1 k1 f1 ret2 => ?_⟩⟩
  have l2' : LsO H2 st n (step n s p).1 F2' := l2.kp k1 F1F2'
  have c2' := k1 _ _ nF1cs c2
  have d2 : Dct H2 lk s.looks := d1.kp k1 nF1lk o1'.mu
  have kF : Kp F H H2 := (k2.mono fun b hb => (hF b).mpr (by
    rcases hb with hb | hb
    · exact .inr (.inl hb)
    · exact .inr (.inr (.inl hb)))).trans (k1.mono fun b hb => (hF b).mpr (.inl hb))
  have y1 : ∀ b, F1' b → ¬ F2' b ∧ b ≠ cs ∧ b ≠ lk := fun b hb => by
    rcases f1 b hb with z | z
    · exact ⟨fun y => F1F2' b y z, (x1 b z).2⟩
    · refine ⟨fun y => l2.mu.some y z, fun e => ?_, fun e => ?_⟩
      · rw [e, c2] at z; cases z
      · obtain ⟨kk, e2⟩ := d1.some
        rw [e, e2] at z; cases z
  have y2 : ∀ b, F2' b → b ≠ cs ∧ b ≠ lk := fun b hb => by
    refine ⟨fun e => nc2 (e ▸ hb), fun e => ?_⟩
    rcases f2 b hb with z | z
    · exact (x2 b z).2 e
    · obtain ⟨kk, e2⟩ := d.some
      rw [e, e2] at z; cases z
  have yF : ∀ b, (F1' b ∨ F2' b ∨ b = cs ∨ b = lk) → F b ∨ H b = none := fun b hb => by
    rcases hb with hb | hb | hb | hb
    · rcases f1 b hb with z | z
      · exact .inl ((hF b).mpr (.inl z))
      · by_cases c : F2 b ∨ b = cs
        · refine .inl ((hF b).mpr ?_)
          rcases c with c | c
          · exact .inr (.inl c)
          · exact .inr (.inr (.inl c))
        · exact .inr (k2.gone c z)
    · rcases f2 b hb with z | z
      · exact .inl ((hF b).mpr (.inr (.inl z)))
      · exact .inr z
    · exact .inl ((hF b).mpr (.inr (.inr (.inl hb))))
    · exact .inl ((hF b).mpr (.inr (.inr (.inr hb))))
  have gs := g.step hok.1 hp hk
  have lkk := @step_looks n s p
  refine r_var (h6 r) ?_
  cases hres : (step n s p).2 with
  | none =>
    rw [hres] at ret ret2 lkk
    have lkk : (step n s p).1.looks = s.looks := lkk.trans (List.append_nil _)
    cases ret
    cases ret2
    refine r_neSame .non .non lay_non (by decide) ?_
    refine r_isB ?_
    with_reducible refine br_f ?_
    with_reducible refine r_next ?_
    refine r_ifS (r_T (r_op (r_var (h6 _) (r_c (r_notN ?_)))))
    refine r_isB ?_
    refine br_nd (fun c => absurd rfl c) fun _ => ?_
    with_reducible refine r_next ?_
    exact k _ H2 _ ⟨F1', F2', l1, l2', c2', by rw [lkk]; exact d2, hok, gs, y1, y2, fun b => Iff.rfl⟩ kF yF
  | some S =>
    rw [hres] at ret ret2 lkk
    have lkk : (step n s p).1.looks = s.looks ++ [(p, S)] := lkk
    obtain ⟨t, rfl, et⟩ := ret
    obtain ⟨t2, rfl, et2⟩ := ret2
    have et' := k1.fix o1'.mu et fun z => z
    refine r_neSame (dp_nats et2) (dp_nats et') lay_nats (by decide) ?_
    refine r_isB ?_
    with_reducible refine br_f ?_
    with_reducible refine r_next ?_
    refine r_ifS (r_T (r_op (r_var (h6 _) (r_c (r_notN ?_)))))
    refine r_isB ?_
    refine br_nd (fun _ => ?_) fun c => nomatch c
    obtain ⟨tb, dc⟩ := id d2
    have ll := g.looks_len
    have hn6 := hok.2
    refine r_dput (r_var (h6 _) (r_var (h7 _) (r_var (h5 _) (r_dpI dc.at_ (small_line (by rw [kvs_len]; omega)) ?_))))
    refine k _ _ _ ⟨F1', F2', l1.kp (G := (· = lk)) dput_kp (fun b hb e => (y1 b hb).2.2 e) (dct_mu d2), l2'.kp (G := (· = lk)) dput_kp (fun b hb e => (y2 b hb).2 e), by rw [upd_ne cl]; exact c2', by rw [lkk]; exact Dct.put dc hk et', hok, gs, y1, y2, fun b => Iff.rfl⟩ (kF.put ((hF lk).mpr (.inr (.inr (.inr rfl))))) yF
end K07
end
section
set_option Elab.async false
set_option linter.all false
set_option maxRecDepth 100000
set_option maxHeartbeats 4000000
/-! k07: the finish -/
namespace K07
open PySem PySem.Spec PyProof.Rows L2 Nw
local macro_rules | `(tactic| walk_at "rd") => `(tactic| repeat' (first
  | with_reducible refine r_seq ?_ | with_reducible refine r_asg ?_ | with_reducible refine r_ret ?_ | with_reducible refine r_retN ?_ | with_reducible refine r_drop ?_ | with_reducible refine r_next ?_ | with_reducible refine r_brk ?_ | with_reducible refine r_cont ?_
  | ((with_reducible refine' r_var ?ev ?_); (case ev => rfl)) | with_reducible refine r_c ?_ | with_reducible refine r_op ?_ | with_reducible refine r_un ?_ | with_reducible refine r_ifS ?_ | with_reducible refine r_if ?_
  | with_reducible refine r_T ?_ | with_reducible refine r_isB ?_ | with_reducible refine r_and ?_ | with_reducible refine r_or ?_ | with_reducible refine r_not ?_ | with_reducible refine r_andV ?_ | with_reducible refine r_orV ?_ | with_reducible refine r_notV ?_
  | with_reducible refine r_nil ?_ | with_reducible refine r_cons ?_ | with_reducible refine r_lst ?_ | with_reducible refine r_tup ?_ | with_reducible refine r_ca ?_ | with_reducible refine r_cw ?_ | with_reducible refine r_cb ?_
  | with_reducible refine r_add ?_ | with_reducible refine r_sub ?_ | with_reducible refine r_neg ?_ | with_reducible refine r_lt ?_ | with_reducible refine r_le ?_ | with_reducible refine r_gt ?_ | with_reducible refine r_ge ?_ | with_reducible refine r_eqI ?_ | with_reducible refine r_neI ?_ | with_reducible refine r_eqB ?_ | with_reducible refine r_neB ?_
  | with_reducible refine r_isN ?_ | with_reducible refine r_notN ?_ | with_reducible refine r_min ?_ | with_reducible refine r_max ?_ | with_reducible refine r_int ?_ | with_reducible refine r_gcd ?_ | with_reducible refine r_for ?_ | with_reducible refine r_rg1 ?_ | with_reducible refine r_rg2 ?_ | with_reducible refine r_wlI ?_ | with_reducible refine r_wtI ?_ | with_reducible refine r_gN ?_ | with_reducible refine r_asgS ?_ | with_reducible refine r_bm0 ?_ | with_reducible refine r_bm ?_ | with_reducible refine r_lc ?_ | with_reducible refine r_gf ?_ | with_reducible refine r_sf ?_ | with_reducible refine r_ma ?_ | with_reducible refine r_mw ?_ | with_reducible refine r_pa ?_ | with_reducible refine r_ka ?_ | with_reducible refine r_kw ?_ | with_reducible refine r_chain ?_ | with_reducible refine r_ch ?_ | with_reducible refine r_dget ?_ | with_reducible refine r_din ?_ | with_reducible refine r_dnotin ?_ | with_reducible refine r_dput ?_ | with_reducible refine r_augS ?_ | with_reducible refine r_wsqI ?_ | with_reducible refine r_keysI ?_
  | with_reducible refine br_t ?_ | with_reducible refine br_f ?_ | with_reducible refine br_nt ?_ | with_reducible refine br_nf ?_))
local macro_rules | `(tactic| walk_at "rdt") => `(tactic| repeat' (first
  | with_reducible refine r_seq ?_ | with_reducible refine r_retN ?_ | with_reducible refine r_drop ?_ | with_reducible refine r_next ?_ | with_reducible refine r_brk ?_ | with_reducible refine r_cont ?_
  | ((with_reducible refine' r_var ?ev ?_); (case ev => rfl)) | with_reducible refine r_c ?_ | with_reducible refine r_op ?_ | with_reducible refine r_un ?_ | with_reducible refine r_ifS ?_ | with_reducible refine r_if ?_
  | with_reducible refine r_T ?_ | with_reducible refine r_isB ?_ | with_reducible refine r_and ?_ | with_reducible refine r_or ?_ | with_reducible refine r_not ?_ | with_reducible refine r_andV ?_ | with_reducible refine r_orV ?_ | with_reducible refine r_notV ?_
  | with_reducible refine r_nil ?_ | with_reducible refine r_cons ?_ | with_reducible refine r_lst ?_ | with_reducible refine r_tup ?_ | with_reducible refine r_ca ?_ | with_reducible refine r_cw ?_ | with_reducible refine r_cb ?_
  | with_reducible refine r_add ?_ | with_reducible refine r_sub ?_ | with_reducible refine r_neg ?_ | with_reducible refine r_lt ?_ | with_reducible refine r_le ?_ | with_reducible refine r_gt ?_ | with_reducible refine r_ge ?_ | with_reducible refine r_eqI ?_ | with_reducible refine r_neI ?_ | with_reducible refine r_eqB ?_ | with_reducible refine r_neB ?_
  | with_reducible refine r_isN ?_ | with_reducible refine r_notN ?_ | with_reducible refine r_min ?_ | with_reducible refine r_max ?_ | with_reducible refine r_int ?_ | with_reducible refine r_gcd ?_ | with_reducible refine r_for ?_ | with_reducible refine r_rg1 ?_ | with_reducible refine r_rg2 ?_ | with_reducible refine r_wlI ?_ | with_reducible refine r_wtI ?_ | with_reducible refine r_gN ?_ | with_reducible refine r_asgS ?_ | with_reducible refine r_bm0 ?_ | with_reducible refine r_bm ?_ | with_reducible refine r_lc ?_ | with_reducible refine r_gf ?_ | with_reducible refine r_sf ?_ | with_reducible refine r_ma ?_ | with_reducible refine r_mw ?_ | with_reducible refine r_pa ?_ | with_reducible refine r_ka ?_ | with_reducible refine r_kw ?_ | with_reducible refine r_chain ?_ | with_reducible refine r_ch ?_ | with_reducible refine r_dget ?_ | with_reducible refine r_din ?_ | with_reducible refine r_dnotin ?_ | with_reducible refine r_dput ?_ | with_reducible refine r_augS ?_ | with_reducible refine r_wsqI ?_ | with_reducible refine r_keysI ?_
  | with_reducible refine br_t ?_ | with_reducible refine br_f ?_ | with_reducible refine br_nt ?_ | with_reducible refine br_nf ?_))
local macro_rules | `(tactic| walk_at "rdq") => `(tactic| repeat' (first | ((with_reducible refine' r_var ?ev ?_); (case ev => rfl)) | with_reducible refine r_c ?_ | with_reducible refine r_T ?_ | with_reducible refine r_isB ?_ | with_reducible refine r_op ?_ | with_reducible refine r_eqI ?_ | with_reducible refine r_not ?_ | with_reducible refine br_t ?_ | with_reducible refine br_f ?_ | with_reducible refine br_nt ?_ | with_reducible refine br_nf ?_ | with_reducible refine r_next ?_))
local macro_rules | `(tactic| walk_at "rdv") => `(tactic| repeat' (first | ((with_reducible refine' r_var ?ev ?_); (case ev => rfl)) | with_reducible refine r_T ?_ | with_reducible refine r_isB ?_))
theorem tk_step {n p q : Nat} {s : Lev} : (step n s p).1.tk q = if q = p then s.tk p + 1 else s.tk q := by
  rw [step_tk]
  rfl
theorem looks_right_ {K : Frag} {H : Hp} {Q : VK} {E : XK} {a st cs lk : Addr} {n : Nat} {s : Lev} {F : Addr → Prop} (w : Wk K H a st cs lk n s F) (q : Back (.bl true) H Q) : sp__law_looks_right K [.ref lk, .ref st, .int (n : Int)] H Q E := by
  obtain ⟨F1, F2, o1, o2, hc, d, hok, g, _⟩ := w
  exact ⟨lk, st, n, s, F2, rfl, d, o2, hok, g, q⟩
theorem same_ {K : Frag} {H : Hp} {Q : VK} {E : XK} {a st cs lk : Addr} {n : Nat} {s : Lev} {F : Addr → Prop} (w : Wk K H a st cs lk n s F) (q : Back (.bl true) H Q) : sp__law_same K [.ref a, .ref st, .ref lk, .int (n : Int)] H Q E := by
  obtain ⟨F1, F2, o1, o2, hc, d, hok, g, _⟩ := w
  exact ⟨a, st, lk, n, s, F1, F2, rfl, o1, o2, d, hok, g, q⟩
theorem rd__law_finish {K : PySem.W.Frag} (vs : List V) (H : Hp) (Q : VK) (E : XK) (h : sp__law_finish K vs H Q E) : t__law_finish K { nx := fun _ H' => Q .non H', rt := Q } (start ["_law_levels", "_law_state", "_law_cells", "_law_looks", "_law_size", "_law_turn", "_law_name", "_law_due"] vs) H := by
  obtain ⟨a, st, cs, lk, n, s, F, rfl, w, q⟩ := h
  have hok : ok n := by
    obtain ⟨F1, F2, o1, o2, hc, d, hok, g, _⟩ := w
    exact hok
  have h6 := hok.2
  unfold t__law_finish
  walk_at "rd"
  refine r_mul (.inl ⟨by omega, by omega⟩) ?_
  rw [show (n : Int) * ((n : Int) + 1) = ((n * (n + 1) : Nat) : Int) by rw [Int.natCast_mul]; rfl]
  walk_at "rd"
  have nn : n * (n + 1) ≤ 6 * 7 := Nat.mul_le_mul h6 (by omega)
  refine r_rgN (by omega) ?_
  refine lp_rng (fun i σ G => (∃ x y z, σ = [some (.ref a), some (.ref st), some (.ref cs), some (.ref lk), some (.int (n : Int)), x, y, z]) ∧ ∃ s', Wx K H F G a st cs lk n s' ∧ ∀ p, p < n → p ∉ s'.keys → i ≤ s'.tk p)
    ⟨⟨_, _, _, rfl⟩, s, ⟨F, w, kp_same (Same.refl _), fun b hb => .inl hb⟩, fun p _ _ => Nat.zero_le _⟩ (fun i σ G hi p => ?_) fun σ G p => ?_
  · obtain ⟨⟨x, y, z, rfl⟩, s', W, ht⟩ := p
    walk_at "rd"
    refine r_rgN (by omega) ?_
    refine lp_rng (fun j σ G => (∃ x y z, σ = [some (.ref a), some (.ref st), some (.ref cs), some (.ref lk), some (.int (n : Int)), x, y, z]) ∧ ∃ s', Wx K H F G a st cs lk n s' ∧ ∀ p, p < n → p ∉ s'.keys → i ≤ s'.tk p ∧ (p < j → i + 1 ≤ s'.tk p))
      ⟨⟨_, _, _, rfl⟩, s', W, fun p hp hk => ⟨ht p hp hk, fun z => absurd z (Nat.not_lt_zero _)⟩⟩ (fun j σ G hj p => ?_) fun σ G p => ?_
    · obtain ⟨⟨x, y, z, rfl⟩, s', ⟨F', w', k', f'⟩, ht⟩ := p
      obtain ⟨ta, dc⟩ : Dct G lk s'.looks := by
        obtain ⟨F1, F2, o1, o2, hc, d, hok, g, _⟩ := id w'
        exact d
      walk_at "rd"
      rw [Int.zero_add]
      refine r_diI (.inl dc.at_) ?_
      rw [if_neg (by decide)]
      by_cases hk : j ∈ s'.keys
      · rw [key_some hk]
        refine r_isB ?_
        refine br_f ?_
        refine r_next ?_
        refine ⟨⟨_, _, _, rfl⟩, s', ⟨F', w', k', f'⟩, fun p hp hkp => ⟨(ht p hp hkp).1, fun hlt => (ht p hp hkp).2 ?_⟩⟩
        by_cases e : p = j
        · exact absurd (e ▸ hk) hkp
        · omega
      · rw [key_none hk]
        refine r_isB ?_
        refine br_t ?_
        refine turn (lv0 := 0) (st0 := 1) (cs0 := 2) (lk0 := 3) (nm := 6) (du := 7) w' hj hk rfl rfl rfl (fun _ => rfl) (fun _ => rfl) (fun _ => rfl) (fun _ => rfl) fun x G' F'' w2 k2 f2 => ?_
        refine ⟨⟨_, _, _, rfl⟩, _, Wx.trans (s := s') k' f' w2 k2 f2, fun p hp hkp => ?_⟩
        have hkp' : p ∉ s'.keys := fun z => hkp (step_keys z)
        obtain ⟨t1, t2⟩ := ht p hp hkp'
        rw [tk_step]
        by_cases e : p = j
        · rw [if_pos e, ← e]
          exact ⟨by omega, fun _ => by omega⟩
        · rw [if_neg e]
          exact ⟨t1, fun hlt => t2 (by omega)⟩
    · obtain ⟨⟨x, y, z, rfl⟩, s', W, ht⟩ := p
      exact ⟨⟨_, _, _, rfl⟩, s', W, fun p hp hk => (ht p hp hk).2 hp⟩
  · obtain ⟨⟨x, y, z, rfl⟩, s', ⟨F', w', k', f'⟩, ht⟩ := p
    obtain ⟨⟨ta, dc⟩, g⟩ : Dct G lk s'.looks ∧ Good n s' := by
      obtain ⟨F1, F2, o1, o2, hc, d, hok, g, _⟩ := id w'
      exact ⟨d, g⟩
    walk_at "rd"
    refine r_lenD dc.at_ ?_
    rw [kvs_len, g.end_ hok.1 ht]
    walk_at "rd"
    rw [decide_eq_true rfl]
    walk_at "rd"
    refine looks_right_ w' fun G1 s1 => ?_
    walk_at "rd"
    refine same_ (w'.same s1) fun G2 s2 => ?_
    refine q G2 fun b o nf e => (s1.trans s2) _ _ (k' b o nf e)
end K07
end
section
set_option Elab.async false
set_option linter.all false
set_option maxRecDepth 100000
set_option maxHeartbeats 4000000
/-! k07: all refused, the law -/
namespace K07
open PySem PySem.Spec PyProof.Rows L2 Nw
local macro_rules | `(tactic| walk_at "rd") => `(tactic| repeat' (first
  | with_reducible refine r_seq ?_ | with_reducible refine r_asg ?_ | with_reducible refine r_ret ?_ | with_reducible refine r_retN ?_ | with_reducible refine r_drop ?_ | with_reducible refine r_next ?_ | with_reducible refine r_brk ?_ | with_reducible refine r_cont ?_
  | ((with_reducible refine' r_var ?ev ?_); (case ev => rfl)) | with_reducible refine r_c ?_ | with_reducible refine r_op ?_ | with_reducible refine r_un ?_ | with_reducible refine r_ifS ?_ | with_reducible refine r_if ?_
  | with_reducible refine r_T ?_ | with_reducible refine r_isB ?_ | with_reducible refine r_and ?_ | with_reducible refine r_or ?_ | with_reducible refine r_not ?_ | with_reducible refine r_andV ?_ | with_reducible refine r_orV ?_ | with_reducible refine r_notV ?_
  | with_reducible refine r_nil ?_ | with_reducible refine r_cons ?_ | with_reducible refine r_lst ?_ | with_reducible refine r_tup ?_ | with_reducible refine r_ca ?_ | with_reducible refine r_cw ?_ | with_reducible refine r_cb ?_
  | with_reducible refine r_add ?_ | with_reducible refine r_sub ?_ | with_reducible refine r_neg ?_ | with_reducible refine r_lt ?_ | with_reducible refine r_le ?_ | with_reducible refine r_gt ?_ | with_reducible refine r_ge ?_ | with_reducible refine r_eqI ?_ | with_reducible refine r_neI ?_ | with_reducible refine r_eqB ?_ | with_reducible refine r_neB ?_
  | with_reducible refine r_isN ?_ | with_reducible refine r_notN ?_ | with_reducible refine r_min ?_ | with_reducible refine r_max ?_ | with_reducible refine r_int ?_ | with_reducible refine r_gcd ?_ | with_reducible refine r_for ?_ | with_reducible refine r_rg1 ?_ | with_reducible refine r_rg2 ?_ | with_reducible refine r_wlI ?_ | with_reducible refine r_wtI ?_ | with_reducible refine r_gN ?_ | with_reducible refine r_asgS ?_ | with_reducible refine r_bm0 ?_ | with_reducible refine r_bm ?_ | with_reducible refine r_lc ?_ | with_reducible refine r_gf ?_ | with_reducible refine r_sf ?_ | with_reducible refine r_ma ?_ | with_reducible refine r_mw ?_ | with_reducible refine r_pa ?_ | with_reducible refine r_ka ?_ | with_reducible refine r_kw ?_ | with_reducible refine r_chain ?_ | with_reducible refine r_ch ?_ | with_reducible refine r_dget ?_ | with_reducible refine r_din ?_ | with_reducible refine r_dnotin ?_ | with_reducible refine r_dput ?_ | with_reducible refine r_augS ?_ | with_reducible refine r_wsqI ?_ | with_reducible refine r_keysI ?_
  | with_reducible refine br_t ?_ | with_reducible refine br_f ?_ | with_reducible refine br_nt ?_ | with_reducible refine br_nf ?_))
local macro_rules | `(tactic| walk_at "rdt") => `(tactic| repeat' (first
  | with_reducible refine r_seq ?_ | with_reducible refine r_retN ?_ | with_reducible refine r_drop ?_ | with_reducible refine r_next ?_ | with_reducible refine r_brk ?_ | with_reducible refine r_cont ?_
  | ((with_reducible refine' r_var ?ev ?_); (case ev => rfl)) | with_reducible refine r_c ?_ | with_reducible refine r_op ?_ | with_reducible refine r_un ?_ | with_reducible refine r_ifS ?_ | with_reducible refine r_if ?_
  | with_reducible refine r_T ?_ | with_reducible refine r_isB ?_ | with_reducible refine r_and ?_ | with_reducible refine r_or ?_ | with_reducible refine r_not ?_ | with_reducible refine r_andV ?_ | with_reducible refine r_orV ?_ | with_reducible refine r_notV ?_
  | with_reducible refine r_nil ?_ | with_reducible refine r_cons ?_ | with_reducible refine r_lst ?_ | with_reducible refine r_tup ?_ | with_reducible refine r_ca ?_ | with_reducible refine r_cw ?_ | with_reducible refine r_cb ?_
  | with_reducible refine r_add ?_ | with_reducible refine r_sub ?_ | with_reducible refine r_neg ?_ | with_reducible refine r_lt ?_ | with_reducible refine r_le ?_ | with_reducible refine r_gt ?_ | with_reducible refine r_ge ?_ | with_reducible refine r_eqI ?_ | with_reducible refine r_neI ?_ | with_reducible refine r_eqB ?_ | with_reducible refine r_neB ?_
  | with_reducible refine r_isN ?_ | with_reducible refine r_notN ?_ | with_reducible refine r_min ?_ | with_reducible refine r_max ?_ | with_reducible refine r_int ?_ | with_reducible refine r_gcd ?_ | with_reducible refine r_for ?_ | with_reducible refine r_rg1 ?_ | with_reducible refine r_rg2 ?_ | with_reducible refine r_wlI ?_ | with_reducible refine r_wtI ?_ | with_reducible refine r_gN ?_ | with_reducible refine r_asgS ?_ | with_reducible refine r_bm0 ?_ | with_reducible refine r_bm ?_ | with_reducible refine r_lc ?_ | with_reducible refine r_gf ?_ | with_reducible refine r_sf ?_ | with_reducible refine r_ma ?_ | with_reducible refine r_mw ?_ | with_reducible refine r_pa ?_ | with_reducible refine r_ka ?_ | with_reducible refine r_kw ?_ | with_reducible refine r_chain ?_ | with_reducible refine r_ch ?_ | with_reducible refine r_dget ?_ | with_reducible refine r_din ?_ | with_reducible refine r_dnotin ?_ | with_reducible refine r_dput ?_ | with_reducible refine r_augS ?_ | with_reducible refine r_wsqI ?_ | with_reducible refine r_keysI ?_
  | with_reducible refine br_t ?_ | with_reducible refine br_f ?_ | with_reducible refine br_nt ?_ | with_reducible refine br_nf ?_))
local macro_rules | `(tactic| walk_at "rdq") => `(tactic| repeat' (first | ((with_reducible refine' r_var ?ev ?_); (case ev => rfl)) | with_reducible refine r_c ?_ | with_reducible refine r_T ?_ | with_reducible refine r_isB ?_ | with_reducible refine r_op ?_ | with_reducible refine r_eqI ?_ | with_reducible refine r_not ?_ | with_reducible refine br_t ?_ | with_reducible refine br_f ?_ | with_reducible refine br_nt ?_ | with_reducible refine br_nf ?_ | with_reducible refine r_next ?_))
local macro_rules | `(tactic| walk_at "rdv") => `(tactic| repeat' (first | ((with_reducible refine' r_var ?ev ?_); (case ev => rfl)) | with_reducible refine r_T ?_ | with_reducible refine r_isB ?_))
theorem pickI {xs : List V} {r : Int} {m : Nat} (hm : xs.length = m) (h0 : 0 ≤ r) (h1 : r < m) : ∃ v, v ∈ xs ∧ atI xs r = some v := by
  obtain ⟨k, rfl⟩ : ∃ k : Nat, r = k := ⟨r.toNat, by omega⟩
  have hk : k < xs.length := by omega
  exact ⟨xs[k], List.getElem_mem hk, atI_nat (List.getElem?_eq_getElem hk)⟩
def flatD : V → PyData
  | .int i => .int i
  | .bl b => .bool b
  | .str x => .str x
  | _ => .none
def flatK : V → Bool
  | .int _ => true
  | .bl _ => true
  | .non => true
  | .str x => PyData.strOk x
  | _ => false
theorem dp_flatD {K : Frag} {H : Hp} {v : V} (h : flatK v = true) : Dp K H v (flatD v) := by
  cases v with
  | int i => exact .int i
  | bl i => exact .bl i
  | non => exact .non
  | str i => exact .str i
  | _ => cases h
theorem lay_flatD {v : V} (h : flatK v = true) : lay 0 (flatD v) := by
  cases v with
  | int i => exact lay_int
  | bl i => exact lay_bl
  | non => exact lay_non
  | str i => exact ⟨by simp only [PyData.canLay0, flatD]; exact h, by simp [PyData.depth, flatD]⟩
  | _ => cases h
theorem dp_kv {K : Frag} {H : Hp} {t : Addr} {k : Str} {v : V} (h : flatK v = true) (e : H t = some (.tup [.str k, v])) : Dp K H (.ref t) (.tuple [.str k, flatD v]) := .tup (.inl (.inl e)) (.cons (.str k) (.cons (dp_flatD h) .nil))
theorem lay_kv {k : Str} {v : V} (hk : PyData.strOk k = true) (h : flatK v = true) : lay 1 (.tuple [.str k, flatD v]) := lay_tup fun d hd => by
  rcases List.mem_cons.mp hd with rfl | hd
  · exact ⟨by simpa [PyData.canLay0] using hk, by simp [PyData.depth]⟩
  · rcases List.mem_cons.mp hd with rfl | hd
    · exact lay_flatD h
    · cases hd
/-- a refusal, compared with what is due -/
theorem refd_ne {K : Frag} {H : Hp} {E : XK} {σ : L2.St} {w k : Str} {x y v : V} {te : TE} {QB : Bool → Hp → Prop} (hR : Refd K H w x y k v) (hk : PyData.strOk k = true) (hv : flatK v = true) (ht : ∀ (H' : Hp) (Q : VK), Q v H' → te σ H' Q) (q : ∀ H', Same H H' → QB false H') :
    sp__law_refused K [.str w, x, y] H (fun x1 H1 => tTup (tCons (tC (.str k)) (tCons te tNil)) σ H1 fun y1 H2 => rNeD K x1 y1 H2 fun z H3 => isB z H3 QB) E := by
  refine ⟨w, x, y, k, v, rfl, hR, fun t H' s e => ?_⟩
  refine r_tup (r_cons (r_c (r_cons (ht _ _ (r_nil (r_nT (by show 2 ≤ sizeLine; decide) fun p hp => ?_))))))
  have s2 := same_new (o := .tup [.str k, v]) hp
  refine r_neSame (dp_kv hv (s2 _ _ e)) (dp_kv hv upd_same) (lay_kv hk hv) (by decide) ?_
  exact r_isB (q _ (s.trans s2))
theorem wrote_new {n : Nat} : wrote n (new n) = [] := by
  unfold wrote
  rw [List.filter_eq_nil_iff]
  intro p _
  simp [new]
theorem gone_new {n : Nat} : goneL n (new n) = [] := by
  unfold goneL
  rw [List.filter_eq_nil_iff]
  intro p _
  simp [new, Lev.keys]
theorem blocks_new {n : Nat} : blocksOf (wrote n (new n)) (cuts n (new n)) = [] := by
  have : cuts n (new n) = [] := by
    unfold cuts
    rw [List.filterMap_eq_nil_iff]
    intro p _
    rfl
  rw [wrote_new, this]
  rfl
theorem Bt.held {l : Addr} {H H' : Hp} (h : Held l H) (s : Same H H') : Bt l H H' ∧ Held l H' := ⟨Bt.of s, h.same s⟩
theorem rd__law_all_refused {K : PySem.W.Frag} (vs : List V) (H : Hp) (Q : VK) (E : XK) (h : sp__law_all_refused K vs H Q E) : t__law_all_refused K { nx := fun _ H' => Q .non H', rt := Q } (start ["_law_found", "_law_size", "_law_schedule_here", "_law_bad", "_law_away", "_law_levels", "_law_word", "_law_row"] vs) H := by
  obtain ⟨l, n, sa, ps, rfl, hl, nsl, esa, hok, hps, hlen, q⟩ := h
  have h6 := hok.2
  unfold t__law_all_refused
  walk_at "rd"
  refine r_nL (by show 6 ≤ sizeLine; decide) fun b1 hb1 => ?_
  have eb1 : upd H b1 (.lst [.int 0, .int (-1), .int 7, .non, .bl true, .str "a"]) b1 = some (.lst [.int 0, .int (-1), .int 7, .non, .bl true, .str "a"]) := upd_same
  have nb1 := hl.ne hb1
  have s1 := same_new (o := .lst [.int 0, .int (-1), .int 7, .non, .bl true, .str "a"]) hb1
  have hl1 := hl.same s1
  have esa1 := s1 _ _ esa
  generalize upd H b1 (.lst [.int 0, .int (-1), .int 7, .non, .bl true, .str "a"]) = H1 at eb1 hl1 esa1 ⊢
  walk_at "rd"
  refine take hl1 (by decide) fun r H2 hr0 hr1 b2 hl2 => ?_
  obtain ⟨bad, hbad, ebad⟩ := pickI (xs := [.int 0, .int (-1), .int 7, .non, .bl true, .str "a"]) (m := 6) rfl hr0 hr1
  refine r_ixL (SqL.of (b2 _ _ nb1 eb1)) ebad ?_
  have hS : badS bad := by
    simp only [List.mem_cons, List.not_mem_nil, or_false] at hbad
    rcases hbad with rfl | rfl | rfl | rfl | rfl | rfl
    · exact .inl ⟨_, rfl, .inl (by decide)⟩
    · exact .inl ⟨_, rfl, .inl (by decide)⟩
    · exact .inl ⟨_, rfl, .inr (by decide)⟩
    · exact .inr rfl
    · exact .inr rfl
    · exact .inr rfl
  have esa2 := b2 _ _ nsl esa1
  clear s1 eb1 hl1 esa1 b2
  walk_at "rd"
  refine r_nL (by show 6 ≤ sizeLine; decide) fun b3 hb3 => ?_
  have eb3 : upd H2 b3 (.lst [.int (-1), .non, .bl true, .int (n : Int), .str "a", .int ((n : Int) + 9)]) b3 = some (.lst [.int (-1), .non, .bl true, .int (n : Int), .str "a", .int ((n : Int) + 9)]) := upd_same
  have nb3 := hl2.ne hb3
  have s3 := same_new (o := .lst [.int (-1), .non, .bl true, .int (n : Int), .str "a", .int ((n : Int) + 9)]) hb3
  have hl3 := hl2.same s3
  have esa3 := s3 _ _ esa2
  generalize upd H2 b3 (.lst [.int (-1), .non, .bl true, .int (n : Int), .str "a", .int ((n : Int) + 9)]) = H3 at eb3 hl3 esa3 ⊢
  walk_at "rd"
  refine take hl3 (by decide) fun r2 H4 hr2 hr3 b4 hl4 => ?_
  obtain ⟨away, haw, eaw⟩ := pickI (xs := [.int (-1), .non, .bl true, .int (n : Int), .str "a", .int ((n : Int) + 9)]) (m := 6) rfl hr2 hr3
  refine r_ixL (SqL.of (b4 _ _ nb3 eb3)) eaw ?_
  have hP : badP n away := by
    simp only [List.mem_cons, List.not_mem_nil, or_false] at haw
    rcases haw with rfl | rfl | rfl | rfl | rfl | rfl
    · exact .inl ⟨_, rfl, by omega⟩
    · exact .inr rfl
    · exact .inr rfl
    · exact .inl ⟨_, rfl, by omega⟩
    · exact .inr rfl
    · exact .inl ⟨_, rfl, by omega⟩
  have hfb : flatK away = true := by
    simp only [List.mem_cons, List.not_mem_nil, or_false] at haw
    rcases haw with rfl | rfl | rfl | rfl | rfl | rfl <;> first | rfl | decide +kernel
  have esa4 := b4 _ _ nsl esa3
  clear s3 eb3 hl3 esa3 b4 esa2 hl2 ebad eaw haw hbad
  walk_at "rd"
  refine make_ hok fun lv H5 F s5 o5 f5 => ?_
  have hl5 := hl4.same s5
  have esa5 := s5 _ _ esa4
  clear s5 f5 esa4 hl4
  walk_at "rd"
  refine refd_ne (.new hS) (by decide +kernel) (by decide +kernel) (fun H' Q' q' => by walk_at "rd"; exact q') fun H6 s6 => ?_
  have hl6 := hl5.same s6
  have esa6 := s6 _ _ esa5
  have o6 := o5.same s6
  clear s6 hl5 esa5 o5
  walk_at "rd"
  refine r_nL (by show 3 ≤ sizeLine; decide) fun b7 hb7 => ?_
  have eb7 : upd H6 b7 (.lst [.str "step", .str "level", .str "taken"]) b7 = some (.lst [.str "step", .str "level", .str "taken"]) := upd_same
  have s7 := same_new (o := .lst [.str "step", .str "level", .str "taken"]) hb7
  have hl7 := hl6.same s7
  have esa7 := s7 _ _ esa6
  have o7 := o6.same s7
  generalize upd H6 b7 (.lst [.str "step", .str "level", .str "taken"]) = H7 at eb7 hl7 esa7 o7 ⊢
  clear s7 hl6 esa6 o6
  walk_at "rd"
  refine r_wl (SqL.of eb7) ?_
  refine lp_list (xs := [.str "step", .str "level", .str "taken"]) (fun i σ G => (∃ x, σ = [some (.ref l), some (.int (n : Int)), some (.ref sa), some bad, some away, some (.ref lv), x, none]) ∧ Same H7 G) ⟨⟨_, rfl⟩, Same.refl _⟩ (fun i σ G _ p => SqL.of (p.2 _ _ eb7)) (fun i x σ G hi p => ?_) fun σ G p => ?_
  · obtain ⟨⟨x0, rfl⟩, sG⟩ := p
    have o8 := o7.same sG
    walk_at "rd"
    have gn : Good n (new n) := Good.new n
    have fin : ∀ (x : V) H', Same G H' → (∃ x', ([some (.ref l), some (.int (n : Int)), some (.ref sa), some bad, some away, some (.ref lv), some x, none] : L2.St) = [some (.ref l), some (.int (n : Int)), some (.ref sa), some bad, some away, some (.ref lv), x', none]) ∧ Same H7 H' := fun x H' s => ⟨⟨_, rfl⟩, sG.trans s⟩
    match i, hi with
    | 0, hi =>
      cases hi
      exact refd_ne (.step o8 hok gn (.inl hP)) (by decide +kernel) hfb (fun H' Q' q' => by walk_at "rd"; exact q') fun H6 s6 => br_f (fin _ _ s6)
    | 1, hi =>
      cases hi
      exact refd_ne (.level o8 hP) (by decide +kernel) hfb (fun H' Q' q' => by walk_at "rd"; exact q') fun H6 s6 => br_f (fin _ _ s6)
    | 2, hi =>
      cases hi
      exact refd_ne (.taken o8 hP) (by decide +kernel) hfb (fun H' Q' q' => by walk_at "rd"; exact q') fun H6 s6 => br_f (fin _ _ s6)
    | i + 3, hi => cases hi
  obtain ⟨⟨x0, rfl⟩, sG⟩ := p
  have hl8 := hl7.same sG
  have esa8 := sG _ _ esa7
  have o8 := o7.same sG
  clear sG hl7 esa7 eb7
  obtain ⟨dx, L, pk, ei⟩ := o8.ins
  walk_at "rd"
  refine r_prI ei ⟨lv, n, _, F, rfl, o8, hok, fun t9 H9 s9 e9 => ?_⟩
  rw [wrote_new] at e9
  walk_at "rd"
  refine r_nT (Nat.zero_le _) fun p9 hp9 => ?_
  have s10 := same_new (o := .tup []) hp9
  refine r_neSame (dp_nats (l := []) (s10 _ _ e9)) (dp_nats (l := []) upd_same) lay_nats (by decide) ?_
  have s11 := s9.trans s10
  generalize upd H9 p9 (.tup []) = H10 at s11 ⊢
  have hl10 := hl8.same s11
  have esa10 := s11 _ _ esa8
  have o10 := o8.same s11
  have ei10 := s11 _ _ ei
  clear s11 s9 s10 hl8 esa8 o8 ei e9
  walk_at "rd"
  refine r_prI ei10 ⟨lv, n, _, F, rfl, o10, hok, fun t11 H11 s11 e11 => ?_⟩
  rw [gone_new] at e11
  walk_at "rd"
  refine r_nT (Nat.zero_le _) fun p11 hp11 => ?_
  have s12 := same_new (o := .tup []) hp11
  refine r_neSame (dp_nats (l := []) (s12 _ _ e11)) (dp_nats (l := []) upd_same) lay_nats (by decide) ?_
  have s13 := s11.trans s12
  generalize upd H11 p11 (.tup []) = H12 at s13 ⊢
  have hl12 := hl10.same s13
  have esa12 := s13 _ _ esa10
  clear s13 s11 s12 hl10 esa10 o10 ei10 e11
  walk_at "rd"
  have lnt : (nt ps).length = ps.length := nt_len
  refine r_list (.inl (SqL.of esa12)) fun c1 hc1 => ?_
  have t1 := same_new (o := .lst (nt ps)) hc1
  have ec1 : upd H12 c1 (.lst (nt ps)) c1 = some (.lst (nt ps)) := upd_same
  generalize upd H12 c1 (.lst (nt ps)) = H13 at t1 ec1 ⊢
  walk_at "rd"
  refine r_nL (by show 2 ≤ sizeLine; decide) fun c2 hc2 => ?_
  have t2 := same_new (o := .lst [away, .int (-7)]) hc2
  have ec2 : upd H13 c2 (.lst [away, .int (-7)]) c2 = some (.lst [away, .int (-7)]) := upd_same
  generalize upd H13 c2 (.lst [away, .int (-7)]) = H14 at t2 ec2 ⊢
  refine ⟨c1, c2, nt ps, [away, .int (-7)], rfl, rfl, t2 _ _ ec1, ec2, Nat.le_of_lt (small_line (by rw [lnt]; show ps.length + 2 ≤ 10000; omega)), fun c3 hc3 => ?_⟩
  have t3 := same_new (o := .lst (nt ps ++ [away, .int (-7)])) hc3
  have ec3 : upd H14 c3 (.lst (nt ps ++ [away, .int (-7)])) c3 = some (.lst (nt ps ++ [away, .int (-7)])) := upd_same
  generalize upd H14 c3 (.lst (nt ps ++ [away, .int (-7)])) = H15 at t3 ec3 ⊢
  walk_at "rd"
  refine r_list (.inl (SqL.of (t3 _ _ (t2 _ _ (t1 _ _ esa12))))) fun c4 hc4 => ?_
  have t4 := same_new (o := .lst (nt ps)) hc4
  have ec4 : upd H15 c4 (.lst (nt ps)) c4 = some (.lst (nt ps)) := upd_same
  generalize upd H15 c4 (.lst (nt ps)) = H16 at t4 ec4 ⊢
  refine ⟨c3, c4, _, nt ps, rfl, rfl, t4 _ _ ec3, ec4, Nat.le_of_lt (small_line (by rw [List.length_append, lnt]; show ps.length + 2 + ps.length ≤ 10000; omega)), fun c5 hc5 => ?_⟩
  have t5 := same_new (o := .lst ((nt ps ++ [away, .int (-7)]) ++ nt ps)) hc5
  have ec5 : upd H16 c5 (.lst ((nt ps ++ [away, .int (-7)]) ++ nt ps)) c5 = some (.lst ((nt ps ++ [away, .int (-7)]) ++ nt ps)) := upd_same
  generalize upd H16 c5 (.lst ((nt ps ++ [away, .int (-7)]) ++ nt ps)) = H17 at t5 ec5 ⊢
  have hl17 := hl12.same ((((t1.trans t2).trans t3).trans t4).trans t5)
  have nc5 : c5 ≠ l := (((hl12.same t1).same t2).same t3).same t4 |>.ne hc5
  clear t1 t2 t3 t4 t5 ec1 ec2 ec3 ec4 hl12 esa12
  have hbs : ∀ {G : Hp}, G c5 = some (.lst ((nt ps ++ [away, .int (-7)]) ++ nt ps)) → badSched K G n (.ref c5) away := fun {G} e => by
    refine .inr ⟨c5, _, ps.length, rfl, .inl (SqL.of e), ?_, hP, fun j hj => ?_⟩
    · rw [List.append_assoc, List.getElem?_append_right (by rw [lnt]; exact Nat.le_refl _), lnt, Nat.sub_self]
      rfl
    · refine ⟨ps[j], hps _ (List.getElem_mem hj), ?_⟩
      rw [List.append_assoc, List.getElem?_append_left (by rw [lnt]; exact hj), List.getElem?_map, List.getElem?_eq_getElem hj]
      rfl
  walk_at "rd"
  refine r_nL (by show 2 ≤ sizeLine; decide) fun b8 hb8 => ?_
  have nb8 := hl17.ne hb8
  have eb8 : upd H17 b8 (.lst [.str "run", .str "blocks"]) b8 = some (.lst [.str "run", .str "blocks"]) := upd_same
  have s18 := same_new (o := .lst [.str "run", .str "blocks"]) hb8
  have hl18 := hl17.same s18
  have ec18 := s18 _ _ ec5
  generalize upd H17 b8 (.lst [.str "run", .str "blocks"]) = H18 at eb8 hl18 ec18 ⊢
  clear s18 hl17 ec5
  walk_at "rd"
  refine r_wl (SqL.of eb8) ?_
  refine lp_list (xs := [.str "run", .str "blocks"]) (fun i σ G => (∃ x, σ = [some (.ref l), some (.int (n : Int)), some (.ref sa), some bad, some away, some (.ref lv), x, some (.ref c5)]) ∧ Bt l H18 G ∧ Held l G) ⟨⟨_, rfl⟩, Bt.refl _ _, hl18⟩ (fun i σ G _ p => SqL.of (p.2.1 _ _ nb8 eb8)) (fun i x σ G hi p => ?_) fun σ G p => ?_
  · obtain ⟨⟨x0, rfl⟩, bG, hG⟩ := p
    have body : ∀ w : Str, (w = "run" ∨ w = "blocks") → x = .str w → gName 6 x [some (.ref l), some (.int (n : Int)), some (.ref sa), some bad, some away, some (.ref lv), x0, some (.ref c5)] G fun σ2 H2 => (tSeq (tIfS (tOr (tT (tOp (rNeD K) (tCa (sp__law_refused K) E0 (tCons (tVar 6) (tCons (tVar 1) (tCons (tVar 7) tNil)))) (tTup (tCons (tC (.str "name")) (tCons (tVar 4) tNil))))) (tT (tOp (rNeD K) (tCa (sp__law_refused K) E0 (tCons (tVar 6) (tCons (tVar 3) (tCons (tVar 7) tNil)))) (tTup (tCons (tC (.str "number")) (tCons (tC (.str "size")) tNil))))))
    (tRet (tC (.bl false)))
    tNext)
    (tSeq (tIfS (tT (tOp (rNeD K) (tCa (sp__law_refused K) E0 (tCons (tVar 6) (tCons (tVar 1) (tCons (tOp (rIx K) (tLst (tCons (tC .non) (tCons (tC (.int 5)) (tCons (tC (.str "a")) tNil)))) (tCa (sp__law_take K) E0 (tCons (tVar 0) (tCons (tC (.int 3)) tNil)))) tNil)))) (tTup (tCons (tC (.str "name")) (tCons (tUn nNeg (tC (.int 1))) tNil)))))
    (tRet (tC (.bl false)))
    tNext)
    (tIfS (tT (tOp (rNeD K) (tCa (sp__law_refused K) E0 (tCons (tVar 6) (tCons (tVar 3) (tCons (tC .non) tNil)))) (tTup (tCons (tC (.str "number")) (tCons (tC (.str "size")) tNil)))))
    (tRet (tC (.bl false)))
    tNext))) { nx := fun σ G => (∃ x, σ = [some (.ref l), some (.int (n : Int)), some (.ref sa), some bad, some away, some (.ref lv), x, some (.ref c5)]) ∧ Bt l H18 G ∧ Held l G, rt := Q, bk := fun _ _ => False, ct := fun σ G => (∃ x, σ = [some (.ref l), some (.int (n : Int)), some (.ref sa), some bad, some away, some (.ref lv), x, some (.ref c5)]) ∧ Bt l H18 G ∧ Held l G } σ2 H2 := fun w hw e => by
      subst e
      walk_at "rd"
      refine refd_ne (.sched hw hok (hbs (bG _ _ nc5 ec18))) (by decide +kernel) hfb (fun H' Q' q' => by walk_at "rd"; exact q') fun G1 g1 => ?_
      walk_at "rd"
      refine refd_ne (.size hw hS) (by decide +kernel) (by decide +kernel) (fun H' Q' q' => by walk_at "rd"; exact q') fun G2 g2 => ?_
      walk_at "rd"
      refine r_nL (by show 3 ≤ sizeLine; decide) fun b9 hb9 => ?_
      have hG2 := (hG.same g1).same g2
      have nb9 := hG2.ne hb9
      have eb9 : upd G2 b9 (.lst [.non, .int 5, .str "a"]) b9 = some (.lst [.non, .int 5, .str "a"]) := upd_same
      have g3 := same_new (o := .lst [.non, .int 5, .str "a"]) hb9
      have hG3 := hG2.same g3
      have bG3 := bG.trans (Bt.of ((g1.trans g2).trans g3))
      generalize upd G2 b9 (.lst [.non, .int 5, .str "a"]) = G3 at eb9 hG3 bG3 ⊢
      walk_at "rd"
      refine take hG3 (by decide) fun r G4 hr0 hr1 b4 hG4 => ?_
      obtain ⟨sv, hsv, esv⟩ := pickI (xs := [.non, .int 5, .str "a"]) (m := 3) rfl hr0 hr1
      refine r_ixL (SqL.of (b4 _ _ nb9 eb9)) esv ?_
      have hf : ∃ b, intB sv = some b := by
        simp only [List.mem_cons, List.not_mem_nil, or_false] at hsv
        rcases hsv with rfl | rfl | rfl
        · exact ⟨_, rfl⟩
        · exact ⟨_, rfl⟩
        · exact ⟨_, rfl⟩
      obtain ⟨fb, hf⟩ := hf
      walk_at "rd"
      refine refd_ne (v := .int (-1)) (.sched hw hok (.inl ⟨fb, hf, rfl⟩)) (by decide +kernel) rfl (fun H' Q' q' => by walk_at "rd"; exact q') fun G5 g5 => ?_
      walk_at "rd"
      refine refd_ne (.size hw hS) (by decide +kernel) (by decide +kernel) (fun H' Q' q' => by walk_at "rd"; exact q') fun G6 g6 => ?_
      walk_at "rd"
      exact ⟨⟨_, rfl⟩, (bG3.trans b4).trans (Bt.of (g5.trans g6)), hG4.same (g5.trans g6)⟩
    match i, hi with
    | 0, hi =>
      cases hi
      exact body _ (.inl rfl) rfl
    | 1, hi =>
      cases hi
      exact body _ (.inr rfl) rfl
    | i + 2, hi => cases hi
  · obtain ⟨⟨x0, rfl⟩, bG, hG⟩ := p
    walk_at "rd"
    refine r_nL (Nat.zero_le _) fun b9 hb9 => ?_
    have eb9 : upd G b9 (.lst []) b9 = some (.lst (nt [])) := upd_same
    generalize upd G b9 (.lst []) = G1 at eb9 ⊢
    walk_at "rd"
    refine ⟨_, _, rfl, .inl ⟨n, b9, [], rfl, hok, rfl, .inl (SqL.of eb9), (fun p hp => nomatch hp), fun r G2 g2 hr => ?_⟩⟩
    obtain ⟨t, tw, tl, ys, rfl, et, ew, el, hys⟩ := hr
    have ew : G2 tw = some (.tup (nt [])) := by
      rw [ew]
      exact congrArg (fun x => some (HO.tup (nt x))) wrote_new
    have hy : ys = [] := by
      have := hys.1
      rw [show goneL n (runs n (new n) []) = [] from gone_new] at this
      exact List.length_eq_zero_iff.mp this
    subst hy
    walk_at "rd"
    refine r_nT (Nat.zero_le _) fun p1 hp1 => ?_
    walk_at "rd"
    refine r_nT (Nat.zero_le _) fun p2 hp2 => ?_
    walk_at "rd"
    refine r_nT (by show 2 ≤ sizeLine; decide) fun p3 hp3 => ?_
    have k1 := same_new (o := .tup []) hp1
    have k2 := same_new (o := .tup []) hp2
    have k3 := same_new (o := .tup [.ref p1, .ref p2]) hp3
    have ep1 := k3 _ _ (k2 _ _ (upd_same (H := G2) (a := p1) (o := .tup [])))
    have ep2 := k3 _ _ (upd_same (H := upd G2 p1 (.tup [])) (a := p2) (o := .tup []))
    have k := (k1.trans k2).trans k3
    refine r_eqSame (d := .tuple [natsD [], natsD []]) (k := 2) (.tup (.inl (.inl (k _ _ et))) (.cons (dp_nats (k _ _ ew)) (.cons (dp_nats (l := []) (k _ _ el)) .nil))) (.tup (.inl (.inl upd_same)) (.cons (dp_nats (l := []) ep1) (.cons (dp_nats (l := []) ep2) .nil))) (lay_tup fun d hd => by
      rcases List.mem_cons.mp hd with rfl | hd
      · exact lay_nats
      · rcases List.mem_cons.mp hd with rfl | hd
        · exact lay_nats
        · cases hd) (by decide) ?_
    generalize upd (upd (upd G2 p1 (.tup [])) p2 (.tup [])) p3 (.tup [.ref p1, .ref p2]) = G3
    walk_at "rd"
    refine r_nT (Nat.zero_le _) fun p4 hp4 => ?_
    have e4 : upd G3 p4 (.tup []) p4 = some (.tup (nt [])) := upd_same
    generalize upd G3 p4 (.tup []) = G4 at e4 ⊢
    walk_at "rd"
    refine ⟨_, _, rfl, .inl ⟨n, p4, [], rfl, hok, rfl, .inr (.inl (.inl e4)), (fun p hp => nomatch hp), fun r G5 g5 hr => ?_⟩⟩
    obtain ⟨t, ys, rfl, et, hys⟩ := hr
    have hy : ys = [] := by
      have := hys.1
      rw [show blocksOf (wrote n (runs n (new n) [])) (cuts n (runs n (new n) [])) = [] from blocks_new] at this
      exact List.length_eq_zero_iff.mp this
    subst hy
    walk_at "rd"
    refine r_nT (Nat.zero_le _) fun p5 hp5 => ?_
    refine r_eqSame (dp_nats (l := []) (same_new hp5 _ _ et)) (dp_nats (l := []) upd_same) lay_nats (by decide) ?_
    exact q _
theorem rd_law {K : PySem.W.Frag} (vs : List V) (H : Hp) (Q : VK) (E : XK) (h : sp_law K vs H Q E) : t_law K { nx := fun _ H' => Q .non H', rt := Q } (start ["_law_script", "_law_found", "_law_size", "_law_schedule_here"] vs) H := by
  obtain ⟨a, ns, rfl, hS, hlen, q⟩ := h
  unfold t_law
  walk_at "rd"
  refine ⟨a, ns, rfl, hS, hlen, fun l H1 h0 s1 hl1 => ?_⟩
  walk_at "rd"
  refine take hl1 (by decide) fun r H2 hr0 hr1 b2 hl2 => ?_
  refine r_add ?_
  obtain ⟨n0, e0, ok0⟩ : ∃ n : Nat, 1 + r = (n : Int) ∧ ok n := ⟨(1 + r).toNat, by omega, by unfold ok; omega⟩
  rw [e0]
  with_reducible refine r_cut (fun σ G => ∃ n : Nat, ok n ∧ σ = [some (.ref a), some (.ref l), some (.int (n : Int)), none] ∧ Held l G) (fun N hN => ?_) ?_
  · walk_at "rd"
    refine br_d (fun _ => ?_) fun _ => ?_
    · walk_at "rd"
      refine take hl2 (by decide) fun r2 H3 _ _ b3 hl3 => ?_
      walk_at "rd"
      refine br_d (fun _ => ?_) fun _ => ?_
      · walk_at "rd"
        refine take hl3 (by decide) fun r3 H4 hr4 hr5 b4 hl4 => ?_
        refine r_add ?_
        exact hN _ _ ⟨(5 + r3).toNat, by unfold ok; omega, by rw [show (((5 + r3).toNat : Nat) : Int) = 5 + r3 by omega]; rfl, hl4⟩
      · exact hN _ _ ⟨n0, ok0, rfl, hl3⟩
    · walk_at "rd"
      exact hN _ _ ⟨n0, ok0, rfl, hl2⟩
  · rintro σ G ⟨n, hok, rfl, hl⟩
    walk_at "rd"
    refine ⟨l, n, rfl, hl, hok, fun ps sa G2 hps hlen2 b2 hl2 nsl esa => ?_⟩
    walk_at "rd"
    refine ⟨n, sa, ps, rfl, esa, hok, hps, hlen2, fun G3 g3 => ?_⟩
    walk_at "rd"
    exact ⟨l, n, sa, ps, rfl, hl2.same g3, nsl, g3 _ _ esa, hok, hps, hlen2, fun H' => q H'⟩
end K07
end
section
set_option Elab.async false
set_option linter.all false
set_option maxRecDepth 100000
set_option maxHeartbeats 4000000
set_option pp.maxSteps 60
/-! k07: the walk of a schedule -/
namespace K07
open PySem PySem.Spec PyProof.Rows L2 Nw
local macro_rules | `(tactic| walk_at "rd") => `(tactic| repeat' (first
  | with_reducible refine r_seq ?_ | with_reducible refine r_asg ?_ | with_reducible refine r_ret ?_ | with_reducible refine r_retN ?_ | with_reducible refine r_drop ?_ | with_reducible refine r_next ?_ | with_reducible refine r_brk ?_ | with_reducible refine r_cont ?_
  | ((with_reducible refine' r_var ?ev ?_); (case ev => rfl)) | with_reducible refine r_c ?_ | with_reducible refine r_op ?_ | with_reducible refine r_un ?_ | with_reducible refine r_ifS ?_ | with_reducible refine r_if ?_
  | with_reducible refine r_T ?_ | with_reducible refine r_isB ?_ | with_reducible refine r_and ?_ | with_reducible refine r_or ?_ | with_reducible refine r_not ?_ | with_reducible refine r_andV ?_ | with_reducible refine r_orV ?_ | with_reducible refine r_notV ?_
  | with_reducible refine r_nil ?_ | with_reducible refine r_cons ?_ | with_reducible refine r_lst ?_ | with_reducible refine r_tup ?_ | with_reducible refine r_ca ?_ | with_reducible refine r_cw ?_ | with_reducible refine r_cb ?_
  | with_reducible refine r_add ?_ | with_reducible refine r_sub ?_ | with_reducible refine r_neg ?_ | with_reducible refine r_lt ?_ | with_reducible refine r_le ?_ | with_reducible refine r_gt ?_ | with_reducible refine r_ge ?_ | with_reducible refine r_eqI ?_ | with_reducible refine r_neI ?_ | with_reducible refine r_eqB ?_ | with_reducible refine r_neB ?_
  | with_reducible refine r_isN ?_ | with_reducible refine r_notN ?_ | with_reducible refine r_min ?_ | with_reducible refine r_max ?_ | with_reducible refine r_int ?_ | with_reducible refine r_gcd ?_ | with_reducible refine r_for ?_ | with_reducible refine r_rg1 ?_ | with_reducible refine r_rg2 ?_ | with_reducible refine r_wlI ?_ | with_reducible refine r_wtI ?_ | with_reducible refine r_gN ?_ | with_reducible refine r_asgS ?_ | with_reducible refine r_bm0 ?_ | with_reducible refine r_bm ?_ | with_reducible refine r_lc ?_ | with_reducible refine r_gf ?_ | with_reducible refine r_sf ?_ | with_reducible refine r_ma ?_ | with_reducible refine r_mw ?_ | with_reducible refine r_pa ?_ | with_reducible refine r_ka ?_ | with_reducible refine r_kw ?_ | with_reducible refine r_chain ?_ | with_reducible refine r_ch ?_ | with_reducible refine r_dget ?_ | with_reducible refine r_din ?_ | with_reducible refine r_dnotin ?_ | with_reducible refine r_dput ?_ | with_reducible refine r_augS ?_ | with_reducible refine r_wsqI ?_ | with_reducible refine r_keysI ?_
  | with_reducible refine br_t ?_ | with_reducible refine br_f ?_ | with_reducible refine br_nt ?_ | with_reducible refine br_nf ?_))
local macro_rules | `(tactic| walk_at "rdt") => `(tactic| repeat' (first
  | with_reducible refine r_seq ?_ | with_reducible refine r_retN ?_ | with_reducible refine r_drop ?_ | with_reducible refine r_next ?_ | with_reducible refine r_brk ?_ | with_reducible refine r_cont ?_
  | ((with_reducible refine' r_var ?ev ?_); (case ev => rfl)) | with_reducible refine r_c ?_ | with_reducible refine r_op ?_ | with_reducible refine r_un ?_ | with_reducible refine r_ifS ?_ | with_reducible refine r_if ?_
  | with_reducible refine r_T ?_ | with_reducible refine r_isB ?_ | with_reducible refine r_and ?_ | with_reducible refine r_or ?_ | with_reducible refine r_not ?_ | with_reducible refine r_andV ?_ | with_reducible refine r_orV ?_ | with_reducible refine r_notV ?_
  | with_reducible refine r_nil ?_ | with_reducible refine r_cons ?_ | with_reducible refine r_lst ?_ | with_reducible refine r_tup ?_ | with_reducible refine r_ca ?_ | with_reducible refine r_cw ?_ | with_reducible refine r_cb ?_
  | with_reducible refine r_add ?_ | with_reducible refine r_sub ?_ | with_reducible refine r_neg ?_ | with_reducible refine r_lt ?_ | with_reducible refine r_le ?_ | with_reducible refine r_gt ?_ | with_reducible refine r_ge ?_ | with_reducible refine r_eqI ?_ | with_reducible refine r_neI ?_ | with_reducible refine r_eqB ?_ | with_reducible refine r_neB ?_
  | with_reducible refine r_isN ?_ | with_reducible refine r_notN ?_ | with_reducible refine r_min ?_ | with_reducible refine r_max ?_ | with_reducible refine r_int ?_ | with_reducible refine r_gcd ?_ | with_reducible refine r_for ?_ | with_reducible refine r_rg1 ?_ | with_reducible refine r_rg2 ?_ | with_reducible refine r_wlI ?_ | with_reducible refine r_wtI ?_ | with_reducible refine r_gN ?_ | with_reducible refine r_asgS ?_ | with_reducible refine r_bm0 ?_ | with_reducible refine r_bm ?_ | with_reducible refine r_lc ?_ | with_reducible refine r_gf ?_ | with_reducible refine r_sf ?_ | with_reducible refine r_ma ?_ | with_reducible refine r_mw ?_ | with_reducible refine r_pa ?_ | with_reducible refine r_ka ?_ | with_reducible refine r_kw ?_ | with_reducible refine r_chain ?_ | with_reducible refine r_ch ?_ | with_reducible refine r_dget ?_ | with_reducible refine r_din ?_ | with_reducible refine r_dnotin ?_ | with_reducible refine r_dput ?_ | with_reducible refine r_augS ?_ | with_reducible refine r_wsqI ?_ | with_reducible refine r_keysI ?_
  | with_reducible refine br_t ?_ | with_reducible refine br_f ?_ | with_reducible refine br_nt ?_ | with_reducible refine br_nf ?_))
local macro_rules | `(tactic| walk_at "rdq") => `(tactic| repeat' (first | ((with_reducible refine' r_var ?ev ?_); (case ev => rfl)) | with_reducible refine r_c ?_ | with_reducible refine r_T ?_ | with_reducible refine r_isB ?_ | with_reducible refine r_op ?_ | with_reducible refine r_eqI ?_ | with_reducible refine r_not ?_ | with_reducible refine br_t ?_ | with_reducible refine br_f ?_ | with_reducible refine br_nt ?_ | with_reducible refine br_nf ?_ | with_reducible refine r_next ?_))
local macro_rules | `(tactic| walk_at "rdv") => `(tactic| repeat' (first | ((with_reducible refine' r_var ?ev ?_); (case ev => rfl)) | with_reducible refine r_T ?_ | with_reducible refine r_isB ?_))
theorem Wk.mu {K : Frag} {H : Hp} {a st cs lk : Addr} {n : Nat} {s : Lev} {F : Addr → Prop} (w : Wk K H a st cs lk n s F) : Mu F H := fun b hb => by
  obtain ⟨F1, F2, o1, o2, hc, d, hok, g, x1, x2, hF⟩ := w
  rcases (hF b).mp hb with z | z | rfl | rfl
  · exact o1.mu b z
  · exact o2.mu b z
  · exact ⟨_, hc, trivial⟩
  · obtain ⟨k, e⟩ := d.some
    exact ⟨_, e, trivial⟩
def lookOf (s : Lev) (p : Nat) : List Nat := (s.looks.lookup p).getD []
theorem lookup_of : ∀ {l : List (Nat × List Nat)} {p : Nat} {S : List Nat}, (l.map Prod.fst).Nodup → (p, S) ∈ l → l.lookup p = some S
  | [], _, _, _, h => nomatch h
  | (q, T) :: r, p, S, nd, h => by
    rw [List.map_cons, List.nodup_cons] at nd
    rcases List.mem_cons.mp h with e | h
    · cases e
      simp
    · have ne : p ≠ q := fun e => nd.1 (List.mem_map.mpr ⟨(p, S), h, e⟩)
      have e2 : (p == q) = false := by simpa using ne
      rw [List.lookup_cons, e2]
      exact lookup_of nd.2 h
theorem Good.lookOf {n : Nat} {s : Lev} (g : Good n s) {p : Nat} {S : List Nat} (h : (p, S) ∈ s.looks) : K07.lookOf s p = S := by
  unfold K07.lookOf
  rw [lookup_of g.nd h]
  rfl
def runD (n : Nat) (s : Lev) : PyData := .tuple [natsD (wrote n s), .tuple ((goneL n s).map fun p => .tuple [.int (p : Nat), natsD (lookOf s p)])]
theorem dp_run {K : Frag} {H : Hp} {r : V} {n : Nat} {s : Lev} (g : Good n s) (h : RunR H r n s) : Dp K H r (runD n s) := by
  obtain ⟨t, tw, tl, ys, rfl, et, ew, el, hl, hy⟩ := h
  refine .tup (.inl (.inl et)) (.cons (dp_nats ew) (.cons (.tup (.inl (.inl el)) (dpAll_of (by rw [hl, List.length_map]) fun i d hd => ?_)) .nil))
  rw [List.getElem?_map] at hd
  cases hz : (goneL n s)[i]? with
  | none => rw [hz] at hd; cases hd
  | some p =>
    rw [hz] at hd
    cases hd
    obtain ⟨y, e1, b, u, S, rfl, eb, hm, eu⟩ := hy i p hz
    show ∃ y, ys[i]? = some y ∧ Dp K H y (.tuple [.int (p : Nat), natsD (lookOf s p)])
    rw [g.lookOf hm]
    exact ⟨_, e1, .tup (.inl (.inl eb)) (.cons (.int _) (.cons (dp_nats eu) .nil))⟩
theorem lay_two {k : Nat} {a b : PyData} (h1 : lay k a) (h2 : lay k b) : lay (k + 1) (.tuple [a, b]) := lay_tup fun d hd => by
  rcases List.mem_cons.mp hd with rfl | hd
  · exact h1
  · rcases List.mem_cons.mp hd with rfl | hd
    · exact h2
    · cases hd
theorem lay_run {n : Nat} {s : Lev} : lay 4 (runD n s) := lay_two (lay_nats.le (by decide)) (lay_tup (k := 2) fun d hd => by
  obtain ⟨p, _, rfl⟩ := List.mem_map.mp hd
  exact lay_two (lay_int.le (by decide)) lay_nats)
theorem dp_blk {K : Frag} {H : Hp} {r : V} {bs : List (List Nat)} (h : BlkR H r bs) : Dp K H r (.tuple (bs.map natsD)) := by
  obtain ⟨t, ys, rfl, et, hl, hy⟩ := h
  refine .tup (.inl (.inl et)) (dpAll_of (by rw [hl, List.length_map]) fun i d hd => ?_)
  rw [List.getElem?_map] at hd
  cases hz : bs[i]? with
  | none => rw [hz] at hd; cases hd
  | some B =>
    rw [hz] at hd
    cases hd
    obtain ⟨y, e1, b, rfl, eb⟩ := hy i B hz
    exact ⟨_, e1, dp_nats eb⟩
theorem lay_blk {bs : List (List Nat)} : lay 2 (.tuple (bs.map natsD)) := lay_tup fun d hd => by
  obtain ⟨p, _, rfl⟩ := List.mem_map.mp hd
  exact lay_nats
theorem BlkR.same {H H' : Hp} {r : V} {bs : List (List Nat)} (h : BlkR H r bs) (s : Same H H') : BlkR H' r bs := by
  obtain ⟨t, ys, e, et, hy⟩ := h
  exact ⟨t, ys, e, s _ _ et, hy.ts (TupSame.of s)⟩
theorem RunR.same {H H' : Hp} {r : V} {n : Nat} {s : Lev} (h : RunR H r n s) (e : Same H H') : RunR H' r n s := by
  obtain ⟨t, tw, tl, ys, hr, et, ew, el, hl, hy⟩ := h
  refine ⟨t, tw, tl, ys, hr, e _ _ et, e _ _ ew, e _ _ el, hl, fun i p hp => ?_⟩
  obtain ⟨y, e1, b, u, S, h1, h2, h3, h4⟩ := hy i p hp
  exact ⟨y, e1, b, u, S, h1, e _ _ h2, h3, e _ _ h4⟩
theorem blocks_len {n : Nat} {s : Lev} {wr : List Nat} : (blocksOf wr (cuts n s)).length ≤ n + 2 := by
  unfold blocksOf
  have := @cuts_len n s
  rw [List.length_append, blk_len]
  split
  · simp; omega
  · simp; omega
theorem r_slP {r : V → Option Int → Option Int → Hp → VK → Prop} {te t : TE} {σ : L2.St} {H : Hp} {Q : VK} (h : te σ H fun x H1 => t σ H1 fun z H2 => ∃ i, z = .int i ∧ r x none (some i) H2 Q) : tSl r te tNoPart (tPart t) σ H Q := h
theorem cutV_take {xs : List V} {m : Nat} : cutV xs none (some (m : Int)) = xs.take m := by
  unfold cutV
  rw [HT.sIx_none, HT.sIx_nat, List.drop_zero, Nat.sub_zero]
  by_cases h : m ≤ xs.length
  · rw [Nat.min_eq_left h]
  · rw [Nat.min_eq_right (by omega), List.take_of_length_le (Nat.le_refl _), List.take_of_length_le (by omega)]
theorem r_slA {K : Frag} {H : Hp} {Q : VK} {a : Addr} {xs : List V} {m : Nat} (h : SqT K H a xs) (q : ∀ p H', Same H H' → SqT K H' p (xs.take m) → Q (.ref p) H') : rSlA K (.ref a) none (some (m : Int)) H Q := by
  refine ⟨a, xs, rfl, h, fun w => q a H (Same.refl _) ?_, fun _ p hp => q p _ (same_new hp) ?_⟩
  · have := w.2
    rw [HT.sIx_nat] at this
    rw [List.take_of_length_le (by omega)]
    exact h
  · rw [cutV_take]
    exact .inl (.inl upd_same)
theorem blk_small {n : Nat} : ∀ {cs : List (List Nat)} {seen : List Nat}, (∀ S ∈ cs, S.length ≤ n) → ∀ B ∈ blk seen cs, B.length ≤ n
  | [], _, _, _, h => nomatch h
  | S :: r, seen, hc, B, h => by
    rcases List.mem_cons.mp h with rfl | h
    · exact Nat.le_trans (List.length_filter_le _ _) (hc S List.mem_cons_self)
    · exact blk_small (fun T hT => hc T (List.mem_cons_of_mem _ hT)) B h
theorem Good.blocks_small {n : Nat} {s : Lev} (g : Good n s) : ∀ B ∈ blocksOf (wrote n s) (cuts n s), B.length ≤ n := fun B hB => by
  unfold blocksOf at hB
  rcases List.mem_append.mp hB with h | h
  · exact blk_small (fun S hS => by
      obtain ⟨p, hp⟩ := g.cuts_mem.mp hS
      exact (g.look hp).2.2.2.2) B h
  · split at h
    · cases h
    · rw [List.mem_singleton] at h
      subst h
      unfold restB
      refine Nat.le_trans (List.length_filter_le _ _) ?_
      unfold wrote
      have := List.length_filter_le (fun p => decide (0 < s.tk p)) (List.range n)
      rwa [List.length_range] at this
theorem flat_small {n : Nat} : ∀ {l : List (List Nat)}, (∀ B ∈ l, B.length ≤ n) → l.flatten.length ≤ l.length * n
  | [], _ => by simp
  | B :: r, h => by
    have := flat_small (l := r) fun C hC => h C (List.mem_cons_of_mem _ hC)
    have := h B List.mem_cons_self
    rw [List.flatten_cons, List.length_append, List.length_cons, Nat.add_mul]
    omega
/-- what the two hold at the start -/
theorem Wk.start {K : Frag} {H H1 H2 H3 H4 H5 : Hp} {lv st cs lk : Addr} {n : Nat} {F1 F3 : Addr → Prop} (hok : ok n) (s1 : Same H H1) (o1 : LvO K H1 lv n (new n) F1) (f1 : ∀ b, F1 b → H b = none)
    (s2 : Same H1 H2) (s3 : Same H2 H3) (l3 : LsO H3 st n (new n) F3) (f3 : ∀ b, F3 b → H2 b = none) (s4 : Same H3 H4) (h4 : H3 cs = none) (e4 : H4 cs = some (.lst (vI n (new n).low))) (h5 : H4 lk = none) (e5 : H5 = upd H4 lk (.dK [])) :
    Wk K H5 lv st cs lk n (new n) (fun b => F1 b ∨ F3 b ∨ b = cs ∨ b = lk) ∧ ∀ b, (F1 b ∨ F3 b ∨ b = cs ∨ b = lk) → H b = none := by
  subst e5
  have s5 := same_new (o := .dK []) h5
  have ncl : cs ≠ lk := fun e => by rw [e, h5] at e4; cases e4
  have n1 : ∀ {b}, F1 b → ∀ {G}, Same H1 G → G b = none → False := fun {b} hb {G} sG e => by
    obtain ⟨o, eo, _⟩ := o1.mu b hb
    rw [sG _ _ eo] at e
    cases e
  refine ⟨⟨F1, F3, o1.same (((s2.trans s3).trans s4).trans s5), l3.same (s4.trans s5), s5 _ _ e4, ⟨fun _ => 0, upd_same, fun p hp => nomatch hp⟩, hok, Good.new n, fun b hb => ⟨fun z => n1 hb s2 (f3 b z), fun e => n1 hb (s2.trans s3) (e ▸ h4), fun e => n1 hb ((s2.trans s3).trans s4) (e ▸ h5)⟩, fun b hb => ⟨fun e => l3.mu.some hb (e ▸ h4), fun e => (l3.same s4).mu.some hb (e ▸ h5)⟩, fun b => Iff.rfl⟩, fun b hb => ?_⟩
  rcases hb with hb | hb | rfl | rfl
  · exact f1 b hb
  · exact same_none (s1.trans s2) (f3 b hb)
  · exact same_none ((s1.trans s2).trans s3) h4
  · exact same_none (((s1.trans s2).trans s3).trans s4) h5
theorem rd__law_walked {K : PySem.W.Frag} (vs : List V) (H : Hp) (Q : VK) (E : XK) (h : sp__law_walked K vs H Q E) : t__law_walked K { nx := fun _ H' => Q .non H', rt := Q } (start ["_law_size", "_law_schedule_here", "_law_levels", "_law_other", "_law_state", "_law_name", "_law_cells", "_law_looks", "_law_due", "_law_wrote", "_law_kept", "_law_told", "_law_blocks", "_law_k", "_law_ahead", "_law_block"] vs) H := by
  obtain ⟨n, sa, ps, rfl, esa, hok, hps, hlen, q⟩ := h
  have h6 := hok.2
  unfold t__law_walked
  walk_at "rd"
  refine make_ hok fun lv H1 F1 s1 o1 f1 => ?_
  walk_at "rd"
  refine make_ hok fun ot H2 F2 s2 o2 f2 => ?_
  walk_at "rd"
  refine ⟨n, rfl, hok, fun st H3 F3 s3 l3 f3 => ?_⟩
  walk_at "rd"
  refine r_rgN (by omega) ?_
  refine lc_rng (fun _ => .int ((n : Int) + 1)) (by omega) (fun _ => rfl) (fun i H' Q' hi s' q' => by walk_at "rd"; exact q' H' (Same.refl _)) fun cs H4 h4 s4 e4 => ?_
  walk_at "rd"
  refine r_dnew fun lk h5 => ?_
  obtain ⟨w0, fF⟩ := Wk.start hok s1 o1 f1 s2 s3 l3 f3 s4 h4 e4 h5 rfl
  have s05 : Same H (upd H4 lk (.dK [])) := ((((s1.trans s2).trans s3).trans s4)).trans (same_new h5)
  have o5 := o2.same ((s3.trans s4).trans (same_new (o := .dK []) h5))
  have x5 : ∀ b, F2 b → ¬ (F1 b ∨ F3 b ∨ b = cs ∨ b = lk) := fun b hb z => by
    rcases z with z | z | rfl | rfl
    · exact o1.mu.some z (f2 b hb)
    · exact o2.mu.some hb (f3 b z)
    · exact (o2.same s3).mu.some hb h4
    · exact ((o2.same s3).same s4).mu.some hb h5
  obtain ⟨F, w0, fF, x5⟩ : ∃ F : Addr → Prop, Wk K (upd H4 lk (.dK [])) lv st cs lk n (new n) F ∧ (∀ b, F b → H b = none) ∧ ∀ b, F2 b → ¬ F b := ⟨_, w0, fF, x5⟩
  generalize upd H4 lk (.dK []) = H5 at w0 s05 o5 ⊢
  have esa5 := s05 _ _ esa
  have x0 : ¬ F sa := fun z => by rw [fF sa z] at esa; cases esa
  have muF := w0.mu
  clear s1 s2 s3 s4 o1 o2 f1 f2 f3 l3 h4 h5 e4
  walk_at "rd"
  refine r_wl (SqL.of esa5) ?_
  refine lp_list (xs := nt ps) (fun i σ G => (∃ x5 x8, σ = [some (.int (n : Int)), some (.ref sa), some (.ref lv), some (.ref ot), some (.ref st), x5, some (.ref cs), some (.ref lk), x8, none, none, none, none, none, none, none]) ∧ Wx K H5 F G lv st cs lk n (runs n (new n) (ps.take i)))
    ⟨⟨_, _, rfl⟩, F, w0, kp_same (Same.refl _), fun b hb => .inl hb⟩ (fun i σ G _ p => ?_) (fun i x σ G hi p => ?_) fun σ G p => ?_
  · obtain ⟨_, F', w', k', f'⟩ := p
    exact SqL.of (k' _ _ x0 esa5)
  · obtain ⟨⟨x5', x8', rfl⟩, F', w', k', f'⟩ := p
    rw [List.getElem?_map] at hi
    cases hz : ps[i]? with
    | none => rw [hz] at hi; cases hi
    | some p =>
    rw [hz] at hi
    cases hi
    have hp := hps p (List.mem_of_getElem? hz)
    rw [run_take hz]
    generalize runs n (new n) (ps.take i) = s at w' ⊢
    obtain ⟨⟨ta, dc⟩, g⟩ : Dct G lk s.looks ∧ Good n s := by
      obtain ⟨F1, F2, o1, o2, hc, d, hok, g, _⟩ := id w'
      exact ⟨d, g⟩
    show gName 5 (.int (p : Int)) _ _ _
    with_reducible refine r_gN ?_
    with_reducible refine r_cut (fun σ G => (∃ x8, σ = [some (.int (n : Int)), some (.ref sa), some (.ref lv), some (.ref ot), some (.ref st), some (.int (p : Int)), some (.ref cs), some (.ref lk), x8, none, none, none, none, none, none, none]) ∧ Wx K H5 F G lv st cs lk n (sched n s p)) (fun N hN => ?_) fun σ G p' => ?_
    · walk_at "rd"
      refine r_diI (.inl dc.at_) ?_
      rw [if_pos rfl]
      by_cases hk : p ∈ s.keys
      · rw [key_some hk]
        refine r_isB ?_
        refine br_t ?_
        walk_at "rd"
        have w2 := id w'
        obtain ⟨F1, F2, o1, o2, hc, d, _, _, _⟩ := w2
        refine refd_ne (.step o1 hok g (.inr ⟨p, hp, rfl, hk⟩)) (by decide +kernel) rfl (fun H' Q' q' => by walk_at "rd"; exact q') fun G1 g1 => ?_
        refine br_f ?_
        refine hN _ _ ⟨⟨_, rfl⟩, ?_⟩
        rw [sched_in hk]
        exact Wx.same ⟨F', w', k', f'⟩ g1
      · rw [key_none hk]
        refine r_isB ?_
        refine br_f ?_
        refine turn (lv0 := 2) (st0 := 4) (cs0 := 6) (lk0 := 7) (nm := 5) (du := 8) w' hp hk rfl rfl rfl (fun _ => rfl) (fun _ => rfl) (fun _ => rfl) (fun _ => rfl) fun x G' F'' w2 k2 f2 => ?_
        refine hN _ _ ⟨⟨_, rfl⟩, ?_⟩
        rw [sched_out hk]
        exact Wx.trans (s := s) k' f' w2 k2 f2
    · obtain ⟨⟨x8'', rfl⟩, F2', w2, k2, f2⟩ := p'
      walk_at "rd"
      refine same_ w2 fun G1 g1 => ?_
      walk_at "rd"
      exact ⟨⟨_, _, rfl⟩, Wx.same ⟨F2', w2, k2, f2⟩ g1⟩
  obtain ⟨⟨x5', x8', rfl⟩, F', w', k', f'⟩ := p
  rw [nt_len, List.take_length] at w'
  have gr : Good n (runs n (new n) ps) := (Good.new n).runs hok.1 hps
  have esaG := k' _ _ x0 esa5
  have otG := o5.kp k' x5 muF
  have fin : ∀ {G1 H' : Hp}, Same G G1 → Kp F' G1 H' → Q (.bl true) H' := fun {G1 H'} g1 k1 => q H' fun b o e => by
    have nF : ¬ F b := fun z => by rw [fF b z] at e; cases e
    have e5 := s05 _ _ e
    exact k1 b o (fun z => by
      rcases f' b z with z | z
      · exact nF z
      · rw [z] at e5; cases e5) (g1 _ _ (k' b o nF e5))
  clear k' f' o5 x5 muF x0 esa5 fF s05 w0
  walk_at "rd"
  refine ⟨n, rfl, hok, fun st2 G1 F5 g1 l5 f5 => ?_⟩
  walk_at "rd"
  refine r_dnew fun d2 hd2 => ?_
  have g2 := same_new (o := .dK []) hd2
  have ed2 : upd G1 d2 (.dK []) d2 = some (.dK []) := upd_same
  generalize upd G1 d2 (.dK []) = G2 at g2 ed2 ⊢
  have g02 := g1.trans g2
  walk_at "rd"
  refine ⟨ot, st2, d2, n, new n, F2, F5, rfl, otG.same g02, l5.same g2, ⟨fun _ => 0, ed2, fun p hp => nomatch hp⟩, hok, Good.new n, fun G3 g3 => ?_⟩
  have g03 := g02.trans g3
  walk_at "rd"
  refine looks_right_ (w'.same g03) fun G4 g4 => ?_
  have g04 := g03.trans g4
  have w4 := w'.same g04
  have esa4 := g04 _ _ esaG
  clear g1 g2 ed2 g02 g3 g03 g4 l5 f5 otG
  generalize hsr : runs n (new n) ps = s at w' w4 gr
  walk_at "rd"
  refine r_rgN (by omega) ?_
  obtain ⟨⟨ta, dc⟩, L, eL, eR⟩ : Dct G4 lk s.looks ∧ ∃ L, G4 st = some (.lst (vR n L)) ∧ ∀ i, i < n → ∃ q, G4 (L i) = some (.lst [.int (s.low i), .int (s.tk i : Int), q]) := by
    obtain ⟨F1, F2, o1, o2, hc, d, hok, g, _⟩ := id w4
    exact ⟨d, o2.row⟩
  refine lc_rngF (fun p => decide (0 < s.tk p)) (fun i => .int (0 + (i : Int))) (by omega) (fun _ => rfl) (fun i H' QB hi s1 q1 => ?_) (fun i H' Q' hi _ s1 q1 => ?_) fun D G5 hD s1 e1 => ?_
  · obtain ⟨u, eu⟩ := eR i hi
    walk_at "rd"
    refine r_ixL (SqL.of (s1 _ _ eL)) (by rw [Int.zero_add]; exact vR_at hi) ?_
    walk_at "rd"
    refine r_ixL (SqL.of (s1 _ _ eu)) rfl ?_
    walk_at "rd"
    have := q1 H' (Same.refl _)
    rwa [show decide ((0 : Int) < (s.tk i : Int)) = decide (0 < s.tk i) by simp]
  · walk_at "rd"
    exact q1 H' (Same.refl _)
  walk_at "rd"
  refine r_tuple e1 fun wr hwr => ?_
  have s2 := Same.new (o := .tup (((List.range n).filter fun p => decide (0 < s.tk p)).map fun (i : Nat) => V.int (0 + (i : Int)))) s1 hwr
  have ewr : upd G5 wr (.tup (((List.range n).filter fun p => decide (0 < s.tk p)).map fun (i : Nat) => V.int (0 + (i : Int)))) wr = some (.tup (nt (wrote n s))) := by rw [upd_same, nt_filter]; rfl
  generalize upd G5 wr (.tup (((List.range n).filter fun p => decide (0 < s.tk p)).map fun (i : Nat) => V.int (0 + (i : Int)))) = G6 at s2 ewr ⊢
  walk_at "rd"
  refine r_list (.inl (SqL.of (s2 _ _ esa4))) fun kp hkp => ?_
  have s3 := same_new (o := .lst (nt ps)) hkp
  have ekp : upd G6 kp (.lst (nt ps)) kp = some (.lst (nt ps)) := upd_same
  generalize upd G6 kp (.lst (nt ps)) = G7 at s3 ekp ⊢
  have s07 := s2.trans s3
  walk_at "rd"
  refine ⟨_, _, rfl, .inl ⟨n, sa, ps, rfl, hok, rfl, .inl (SqL.of (s07 _ _ esa4)), hps, fun rt G8 s8 hrun => ?_⟩⟩
  rw [hsr] at hrun
  have s08 := s07.trans s8
  have ewr8 := s8 _ _ (s3 _ _ ewr)
  have ekp8 := s8 _ _ ekp
  have dc8 := dc.same s08
  walk_at "rd"
  refine list_keys ⟨ta, dc8⟩ fun l1 hl1 => ?_
  have s9 := same_new (o := .lst (keyI s)) hl1
  have e9 : upd G8 l1 (.lst (keyI s)) l1 = some (.lst (keyI s)) := upd_same
  generalize upd G8 l1 (.lst (keyI s)) = G9 at s9 e9 ⊢
  walk_at "rd"
  refine sort_keys gr e9 fun l2 hl2 => ?_
  have s10 := same_new (o := .lst (nt (goneL n s))) hl2
  have e10 : upd G9 l2 (.lst (nt (goneL n s))) l2 = some (.lst (nt (goneL n s))) := upd_same
  generalize upd G9 l2 (.lst (nt (goneL n s))) = G10 at s10 e10 ⊢
  have s810 := s9.trans s10
  walk_at "rd"
  refine r_wl (SqL.of e10) ?_
  have ln : (goneL n s).length ≤ n := by
    have := gr.goneP.length_eq
    have h2 := gr.looks_len
    unfold Lev.keys at this
    rw [List.length_map] at this
    omega
  refine lc_sqE (K := K) (xs := nt (goneL n s)) (fun i y G => ∀ p, (goneL n s)[i]? = some p → ∃ b u S, y = V.ref b ∧ G b = some (.tup [.int (p : Nat), .ref u]) ∧ (p, S) ∈ s.looks ∧ G u = some (.tup (nt S))) (fun i y G1 G2 ts h p hp => ?_) ⟨l2, .inl ⟨rfl, SqL.of e10⟩⟩ (by rw [nt_len]; omega) (fun i x G' Q' hi s3 q3 => ⟨rfl, ?_⟩) fun D ys G11 hD s11 e11 hl h11 => ?_
  · obtain ⟨b, u, S, e1, e2, e3, e4⟩ := h p hp
    exact ⟨b, u, S, e1, ts _ _ e2, e3, ts _ _ e4⟩
  · rw [List.getElem?_map] at hi
    cases hz : (goneL n s)[i]? with
    | none => rw [hz] at hi; cases hi
    | some p =>
      rw [hz] at hi
      cases hi
      have hk : p ∈ s.keys := gr.goneP.mem_iff.mpr (List.mem_of_getElem? hz)
      obtain ⟨⟨p', S⟩, hm, rfl⟩ := List.mem_map.mp hk
      have s23 := s810.trans s3
      walk_at "rd"
      refine r_dgI (.inl (s23 _ _ dc8.at_)) (key_some hk) ?_
      walk_at "rd"
      refine r_nT (by show 2 ≤ sizeLine; decide) fun b hb => ?_
      refine q3 _ _ (same_new hb) fun p2 hp2 => ?_
      rw [hz] at hp2
      cases hp2
      exact ⟨b, ta p', S, rfl, upd_same, hm, (same_new hb) _ _ (s23 _ _ (dc8.tup (p', S) hm))⟩
  walk_at "rd"
  refine r_tuple e11 fun tl htl => ?_
  have s12 := same_new (o := .tup ys) htl
  have etl : upd G11 tl (.tup ys) tl = some (.tup ys) := upd_same
  generalize upd G11 tl (.tup ys) = G12 at s12 etl ⊢
  walk_at "rd"
  refine r_nT (by show 2 ≤ sizeLine; decide) fun t13 ht13 => ?_
  have s13 := same_new (o := .tup [.ref wr, .ref tl]) ht13
  have e13 : upd G12 t13 (.tup [.ref wr, .ref tl]) t13 = some (.tup [.ref wr, .ref tl]) := upd_same
  generalize upd G12 t13 (.tup [.ref wr, .ref tl]) = G13 at s13 e13 ⊢
  have s813 := ((s810.trans s11).trans s12).trans s13
  have other : RunR G13 (.ref t13) n s := ⟨t13, wr, tl, ys, rfl, e13, s813 _ _ ewr8, s13 _ _ etl, by rw [hl, nt_len], fun i p hp => by
    obtain ⟨y, e1, e2⟩ := h11 i (by rw [nt_len]; exact (List.getElem?_eq_some_iff.mp hp).1)
    obtain ⟨b, u, S, z1, z2, z3, z4⟩ := e2 p hp
    exact ⟨y, e1, b, u, S, z1, s13 _ _ (s12 _ _ z2), z3, s13 _ _ (s12 _ _ z4)⟩⟩
  refine r_neSame (dp_run gr (hrun.same s813)) (dp_run gr other) lay_run (by decide) ?_
  have s013 := s08.trans s813
  walk_at "rd"
  refine r_neSame (dp_list (s013 _ _ esa4)) (dp_list (s813 _ _ ekp8)) lay_list (by decide) ?_
  have ewr13 := s813 _ _ ewr8
  have esa13 := s013 _ _ esa4
  have w13 := w4.same s013
  have dc13 := dc.same s013
  have g013 := g04.trans s013
  clear s1 s2 s3 s07 s8 s08 ewr8 ekp8 dc8 s9 s10 s810 s11 s12 s13 other hrun s813 s013 h11 e11 e13 etl e10 e9 ekp ewr e1 eL eR w4 esa4 dc w' esaG g04
  walk_at "rd"
  refine r_tuple esa13 fun tp htp => ?_
  have s14 := same_new (o := .tup (nt ps)) htp
  have etp : upd G13 tp (.tup (nt ps)) tp = some (.tup (nt ps)) := upd_same
  generalize upd G13 tp (.tup (nt ps)) = G14 at s14 etp ⊢
  walk_at "rd"
  refine ⟨_, _, rfl, .inl ⟨n, tp, ps, rfl, hok, rfl, .inr (.inl (.inl etp)), hps, fun bk G15 s15 hblk => ?_⟩⟩
  rw [hsr] at hblk
  have s1415 := s14.trans s15
  walk_at "rd"
  have wl6 : (wrote n s).length ≤ 6 := by
    have := List.length_filter_le (fun p => decide (0 < s.tk p)) (List.range n)
    rw [List.length_range] at this
    unfold wrote
    omega
  refine ⟨lk, wr, n, s, wrote n s, rfl, ⟨ta, dc13.same s1415⟩, s1415 _ _ ewr13, wl6, hok, gr, fun r16 G16 s16 hb16 => ?_⟩
  refine r_neSame (dp_blk (hblk.same s16)) (dp_blk hb16) lay_blk (by decide) ?_
  have s1316 := s1415.trans s16
  have dc16 := dc13.same s1316
  have w16 := w13.same s1316
  have g016 := g013.trans s1316
  obtain ⟨tb, bys, rfl, etb, hbys⟩ := hblk.same s16
  clear s14 s15 s16 hb16 hblk s1415 s1316 dc13 w13 g013 etp ewr13 esa13
  have bl := @blocks_len n s (wrote n s)
  generalize hBs : blocksOf (wrote n s) (cuts n s) = Bs at hbys bl
  have lby : bys.length = Bs.length := hbys.1
  walk_at "rd"
  refine r_len (.inr (.inl (.inl etb))) ?_
  rw [lby]
  walk_at "rd"
  refine r_rgN (n := Bs.length) (by omega) ?_
  have sm : ∀ B ∈ Bs, B.length ≤ n := fun B hB => gr.blocks_small B (hBs ▸ hB)
  refine lp_rng (fun i σ G => (∃ x5 x13 x14 x15, σ = [some (.int (n : Int)), some (.ref sa), some (.ref lv), some (.ref ot), some (.ref st), x5, some (.ref cs), some (.ref lk), x8', some (.ref wr), some (.ref kp), some rt, some (.ref tb), x13, x14, x15]) ∧ Same G16 G) ⟨⟨_, _, _, _, rfl⟩, Same.refl _⟩ (fun k σ G hk p => ?_) fun σ G p => ?_
  · obtain ⟨⟨x5, x13, x14, x15, rfl⟩, sG⟩ := p
    obtain ⟨b, hb1, hb2⟩ : ∃ b, bys[k]? = some (.ref b) ∧ G16 b = some (.tup (nt Bs[k])) := by
      obtain ⟨y, e1, b, rfl, e2⟩ := hbys.2 k Bs[k] (List.getElem?_eq_getElem hk)
      exact ⟨b, e1, e2⟩
    walk_at "rd"
    refine r_nL (Nat.zero_le _) fun ah hah => ?_
    have q1 := sG.trans (same_new (o := .lst []) hah)
    have eah : upd G ah (.lst []) ah = some (.lst (nt [])) := upd_same
    generalize upd G ah (.lst []) = G1 at q1 eah ⊢
    walk_at "rd"
    refine r_slP (r_var rfl (r_op (r_var rfl (r_c (r_add ⟨_, rfl, ?_⟩)))))
    rw [show (0 : Int) + (k : Int) + 1 = ((k + 1 : Nat) : Int) by omega]
    refine r_slA (.inl (.inl (q1 _ _ etb))) fun ct G2 q2 ect => ?_
    have q02 := q1.trans q2
    refine r_wt ect ?_
    refine lp_tup (xs := bys.take (k + 1)) (fun j σ G => (∃ ah x15, σ = [some (.int (n : Int)), some (.ref sa), some (.ref lv), some (.ref ot), some (.ref st), x5, some (.ref cs), some (.ref lk), x8', some (.ref wr), some (.ref kp), some rt, some (.ref tb), some (.int (0 + (k : Int))), some (.ref ah), x15] ∧ G ah = some (.lst (nt ((Bs.take (k + 1)).take j).flatten))) ∧ Same G2 G)
      ⟨⟨_, _, rfl, q2 _ _ eah⟩, Same.refl _⟩ (fun j σ G _ p => Same.seqT p.2 ect) (fun j x σ G hj p => ?_) fun σ G p => ?_
    · obtain ⟨⟨ah, x15, rfl, eah⟩, q3⟩ := p
      have hjk : j < k + 1 ∧ j < Bs.length := by
        have := (List.getElem?_eq_some_iff.mp hj).1
        rw [List.length_take, lby] at this
        omega
      obtain ⟨c, rfl, hc2⟩ : ∃ c, x = .ref c ∧ G16 c = some (.tup (nt Bs[j])) := by
        obtain ⟨y, e1, c, rfl, e2⟩ := hbys.2 j Bs[j] (List.getElem?_eq_getElem hjk.2)
        rw [List.getElem?_take_of_lt hjk.1, e1] at hj
        exact ⟨c, (Option.some.inj hj).symm, e2⟩
      have q03 := q02.trans q3
      walk_at "rd"
      refine r_list (.inr (.inl (.inl (q03 _ _ hc2)))) fun cl hcl => ?_
      have q4 := same_new (o := .lst (nt Bs[j])) hcl
      have lf : (nt ((Bs.take (k + 1)).take j).flatten).length ≤ 8 * 6 := by
        rw [nt_len]
        refine Nat.le_trans (flat_small (n := n) fun B hB => sm B (List.mem_of_mem_take (List.mem_of_mem_take hB))) ?_
        refine Nat.mul_le_mul ?_ h6
        rw [List.length_take, List.length_take]
        omega
      have lB : (nt Bs[j]).length ≤ 6 := by
        rw [nt_len]
        exact Nat.le_trans (sm _ (List.getElem_mem hjk.2)) h6
      refine ⟨ah, cl, _, _, rfl, rfl, q4 _ _ eah, upd_same, Nat.le_of_lt (small_line (by omega)), fun p hp => ?_⟩
      refine ⟨⟨p, _, rfl, ?_⟩, (q3.trans q4).trans (same_new hp)⟩
      rw [take_app (l := Bs.take (k + 1)) (i := j) (x := Bs[j]) (by rw [List.getElem?_take_of_lt hjk.1]; exact List.getElem?_eq_getElem hjk.2), List.flatten_append, List.flatten_cons, List.flatten_nil, List.append_nil, upd_same]
      unfold nt
      rw [List.map_append]
    · obtain ⟨⟨ah, x15', rfl, eah⟩, q3⟩ := p
      have lk1 : (bys.take (k + 1)).length = (Bs.take (k + 1)).length := by rw [List.length_take, List.length_take, lby]
      rw [lk1, List.take_length] at eah
      have q03 := q02.trans q3
      walk_at "rd"
      refine r_ixT (xs := bys) (v := .ref b) (.inl (.inl (q03 _ _ etb))) (by rw [Int.zero_add]; exact atI_nat hb1) ?_
      refine r_wt (xs := nt Bs[k]) (.inl (.inl (q03 _ _ hb2))) ?_
      refine lp_tup (xs := nt Bs[k]) (fun j σ G' => (∃ x5, σ = [some (.int (n : Int)), some (.ref sa), some (.ref lv), some (.ref ot), some (.ref st), x5, some (.ref cs), some (.ref lk), x8', some (.ref wr), some (.ref kp), some rt, some (.ref tb), some (.int (0 + (k : Int))), some (.ref ah), x15']) ∧ Same G G')
        ⟨⟨_, rfl⟩, Same.refl _⟩ (fun j σ G' _ p => .inl (.inl (p.2 _ _ (q03 _ _ hb2)))) (fun j x σ G' hj p => ?_) fun σ G' p => ?_
      · obtain ⟨⟨x5', rfl⟩, q4⟩ := p
        rw [List.getElem?_map] at hj
        cases hz : Bs[k][j]? with
        | none => rw [hz] at hj; cases hj
        | some p =>
        rw [hz] at hj
        cases hj
        have q04 := q03.trans q4
        have dc4 := dc16.same q04
        walk_at "rd"
        refine r_diI (.inl dc4.at_) ?_
        rw [if_pos rfl]
        by_cases hk' : p ∈ s.keys
        · rw [key_some hk']
          refine r_isB ?_
          refine br_t ?_
          walk_at "rd"
          obtain ⟨⟨p', S⟩, hm, rfl⟩ := List.mem_map.mp hk'
          refine r_dgI (.inl dc4.at_) (key_some hk') ?_
          have eS := dc4.tup (p', S) hm
          have eah4 := q4 _ _ eah
          walk_at "rd"
          have perm : (Bs.take (k + 1)).flatten.Perm S := by
            have := gr.block (wr := wrote n s) (k := k) (B := Bs[k]) (p := p') (S := S) (by rw [hBs]; exact List.getElem?_eq_getElem hk) (List.mem_of_getElem? hz) hm
            rwa [hBs] at this
          refine ⟨ah, (Bs.take (k + 1)).flatten.map fun (z : Nat) => (z : Int), rfl, SqL.of (by rw [eah4, List.map_map]; rfl), fun ns' p5 hp5 hs5 hn5 => ?_⟩
          have ens : ns'.map V.int = nt S := by
            rw [ints_sorted (gr.look_lt hm) (hp5.trans (perm.map _)) hs5, List.map_map]
            rfl
          rw [ens]
          have q5 := same_new (o := .lst (nt S)) hn5
          walk_at "rd"
          refine r_tuple upd_same fun p6 hp6 => ?_
          have q6 := same_new (o := .tup (nt S)) hp6
          refine r_neSame (dp_nats (q6 _ _ (q5 _ _ eS))) (dp_nats upd_same) lay_nats (by decide) ?_
          walk_at "rd"
          exact ⟨⟨_, rfl⟩, (q4.trans q5).trans q6⟩
        · rw [key_none hk']
          refine r_isB ?_
          refine br_f ?_
          walk_at "rd"
          exact ⟨⟨_, rfl⟩, q4⟩
      · obtain ⟨⟨x5', rfl⟩, q4⟩ := p
        exact ⟨⟨_, _, _, _, rfl⟩, q03.trans q4⟩
  · obtain ⟨⟨x5, x13, x14, x15, rfl⟩, sG⟩ := p
    walk_at "rd"
    exact ⟨lv, st, cs, lk, n, s, F', rfl, w16.same sG, fun H' k1 => fin (g016.trans sG) k1⟩
end K07
end
section
set_option Elab.async false
set_option linter.all false
set_option maxRecDepth 100000
/-! the walk, printed by gen.py -/
namespace K07
open PySem PySem.Spec PyProof.Rows L2 Nw
def top (i : Nat) : Stmt := PySem.Challenge.pw_nowaittasks_k07_whole_levels_any_schedul.main.body.getD i (.Pass ⟨0, 0, 0, 0⟩)
theorem bt_isinstance : bootBuiltins "isinstance" = some (.builtin "isinstance") := by first | rfl | decide +kernel | kernel_rfl
theorem bt_int : bootBuiltins "int" = some (.type "int") := by first | rfl | decide +kernel | kernel_rfl
theorem bt_bool : bootBuiltins "bool" = some (.type "bool") := by first | rfl | decide +kernel | kernel_rfl
theorem bt_tuple : bootBuiltins "tuple" = some (.type "tuple") := by first | rfl | decide +kernel | kernel_rfl
theorem bt_list : bootBuiltins "list" = some (.type "list") := by first | rfl | decide +kernel | kernel_rfl
theorem bt_range : bootBuiltins "range" = some (.type "range") := by first | rfl | decide +kernel | kernel_rfl
theorem bt_len : bootBuiltins "len" = some (.builtin "len") := by first | rfl | decide +kernel | kernel_rfl
theorem bt_sorted : bootBuiltins "sorted" = some (.builtin "sorted") := by first | rfl | decide +kernel | kernel_rfl
theorem bt_set : bootBuiltins "set" = some (.type "set") := by first | rfl | decide +kernel | kernel_rfl
theorem bt_min : bootBuiltins "min" = some (.builtin "min") := by first | rfl | decide +kernel | kernel_rfl
theorem bt_all : bootBuiltins "all" = some (.builtin "all") := by first | rfl | decide +kernel | kernel_rfl
abbrev s_is_int : Stmt := top 5
abbrev N_is_int : List Str := ["thing"]
theorem sc_is_int : FnScope N_is_int ["thing"] (defScope s_is_int) := ⟨rfl, rfl, rfl, by decide +kernel, rfl, by decide +kernel, by decide +kernel⟩
abbrev s_is_row : Stmt := top 6
abbrev N_is_row : List Str := ["thing"]
theorem sc_is_row : FnScope N_is_row ["thing"] (defScope s_is_row) := ⟨rfl, rfl, rfl, by decide +kernel, rfl, by decide +kernel, by decide +kernel⟩
abbrev s_check_number : Stmt := top 7
abbrev N_check_number : List Str := ["number", "least", "word"]
theorem sc_check_number : FnScope N_check_number ["number", "least", "word"] (defScope s_check_number) := ⟨rfl, rfl, rfl, by decide +kernel, rfl, by decide +kernel, by decide +kernel⟩
abbrev s_check_levels : Stmt := top 10
abbrev N_check_levels : List Str := ["size"]
theorem sc_check_levels : FnScope N_check_levels ["size"] (defScope s_check_levels) := ⟨rfl, rfl, rfl, by decide +kernel, rfl, by decide +kernel, by decide +kernel⟩
abbrev s_Levels___init__ : Stmt := inClass (top 11) 0
abbrev N_Levels___init__ : List Str := ["self", "size", "_"]
theorem sc_Levels___init__ : FnScope N_Levels___init__ ["self", "size"] (defScope s_Levels___init__) := ⟨rfl, rfl, rfl, by decide +kernel, rfl, by decide +kernel, by decide +kernel⟩
abbrev s_Levels_wrote : Stmt := inClass (top 11) 1
abbrev N_Levels_wrote : List Str := ["self", "name"]
theorem sc_Levels_wrote : FnScope N_Levels_wrote ["self"] (defScope s_Levels_wrote) := ⟨rfl, rfl, rfl, by decide +kernel, rfl, by decide +kernel, by decide +kernel⟩
abbrev s_Levels_gone : Stmt := inClass (top 11) 2
abbrev N_Levels_gone : List Str := ["self", "name"]
theorem sc_Levels_gone : FnScope N_Levels_gone ["self"] (defScope s_Levels_gone) := ⟨rfl, rfl, rfl, by decide +kernel, rfl, by decide +kernel, by decide +kernel⟩
abbrev s_Levels__known : Stmt := inClass (top 11) 6
abbrev N_Levels__known : List Str := ["self", "name"]
theorem sc_Levels__known : FnScope N_Levels__known ["self", "name"] (defScope s_Levels__known) := ⟨rfl, rfl, rfl, by decide +kernel, rfl, by decide +kernel, by decide +kernel⟩
abbrev s_Levels_level : Stmt := inClass (top 11) 3
abbrev N_Levels_level : List Str := ["self", "name"]
theorem sc_Levels_level : FnScope N_Levels_level ["self", "name"] (defScope s_Levels_level) := ⟨rfl, rfl, rfl, by decide +kernel, rfl, by decide +kernel, by decide +kernel⟩
abbrev s_Levels_taken : Stmt := inClass (top 11) 4
abbrev N_Levels_taken : List Str := ["self", "name"]
theorem sc_Levels_taken : FnScope N_Levels_taken ["self", "name"] (defScope s_Levels_taken) := ⟨rfl, rfl, rfl, by decide +kernel, rfl, by decide +kernel, by decide +kernel⟩
abbrev s_Levels_step : Stmt := inClass (top 11) 5
abbrev N_Levels_step : List Str := ["self", "name", "at"]
theorem sc_Levels_step : FnScope N_Levels_step ["self", "name"] (defScope s_Levels_step) := ⟨rfl, rfl, rfl, by decide +kernel, rfl, by decide +kernel, by decide +kernel⟩
abbrev s_check_schedule : Stmt := top 12
abbrev N_check_schedule : List Str := ["schedule", "size", "name"]
theorem sc_check_schedule : FnScope N_check_schedule ["schedule", "size"] (defScope s_check_schedule) := ⟨rfl, rfl, rfl, by decide +kernel, rfl, by decide +kernel, by decide +kernel⟩
abbrev s_levels_run : Stmt := top 13
abbrev N_levels_run : List Str := ["size", "schedule", "levels", "looks", "name", "look"]
theorem sc_levels_run : FnScope N_levels_run ["size", "schedule"] (defScope s_levels_run) := ⟨rfl, rfl, rfl, by decide +kernel, rfl, by decide +kernel, by decide +kernel⟩
abbrev s_levels_blocks : Stmt := top 14
abbrev N_levels_blocks : List Str := ["size", "schedule", "wrote", "looks", "seen", "blocks", "_", "look", "rest", "name"]
theorem sc_levels_blocks : FnScope N_levels_blocks ["size", "schedule"] (defScope s_levels_blocks) := ⟨rfl, rfl, rfl, by decide +kernel, rfl, by decide +kernel, by decide +kernel⟩
abbrev s__law_drawn : Stmt := top 16
abbrev N__law_drawn : List Str := ["_law_script", "_law_found", "_law_place", "_law_cell", "_law_turn", "_law_grain"]
theorem sc__law_drawn : FnScope N__law_drawn ["_law_script"] (defScope s__law_drawn) := ⟨rfl, rfl, rfl, by decide +kernel, rfl, by decide +kernel, by decide +kernel⟩
abbrev s__law_take : Stmt := top 17
abbrev N__law_take : List Str := ["_law_found", "_law_many"]
theorem sc__law_take : FnScope N__law_take ["_law_found", "_law_many"] (defScope s__law_take) := ⟨rfl, rfl, rfl, by decide +kernel, rfl, by decide +kernel, by decide +kernel⟩
abbrev s__law_int : Stmt := top 18
abbrev N__law_int : List Str := ["_law_thing"]
theorem sc__law_int : FnScope N__law_int ["_law_thing"] (defScope s__law_int) := ⟨rfl, rfl, rfl, by decide +kernel, rfl, by decide +kernel, by decide +kernel⟩
abbrev s__law_refused : Stmt := top 19
abbrev N__law_refused : List Str := ["_law_word", "_law_one", "_law_other", "_law_got", "caught"]
theorem sc__law_refused : FnScope N__law_refused ["_law_word", "_law_one", "_law_other"] (defScope s__law_refused) := ⟨rfl, rfl, rfl, by decide +kernel, rfl, by decide +kernel, by decide +kernel⟩
abbrev s__law_schedule : Stmt := top 20
abbrev N__law_schedule : List Str := ["_law_found", "_law_size", "_law_many", "_law_word", "_law_lead", "_law_row", "_law_turn", "_law_name"]
theorem sc__law_schedule : FnScope N__law_schedule ["_law_found", "_law_size"] (defScope s__law_schedule) := ⟨rfl, rfl, rfl, by decide +kernel, rfl, by decide +kernel, by decide +kernel⟩
abbrev s__law_new : Stmt := top 21
abbrev N__law_new : List Str := ["_law_size", "_law_name"]
theorem sc__law_new : FnScope N__law_new ["_law_size"] (defScope s__law_new) := ⟨rfl, rfl, rfl, by decide +kernel, rfl, by decide +kernel, by decide +kernel⟩
abbrev s__law_step : Stmt := top 22
abbrev N__law_step : List Str := ["_law_state", "_law_cells", "_law_name", "_law_size", "_law_held", "_law_at"]
theorem sc__law_step : FnScope N__law_step ["_law_state", "_law_cells", "_law_name"] (defScope s__law_step) := ⟨rfl, rfl, rfl, by decide +kernel, rfl, by decide +kernel, by decide +kernel⟩
abbrev s__law_few_below : Stmt := top 23
abbrev N__law_few_below : List Str := ["_law_levels", "_law_size", "_law_told", "_law_k", "_law_name", "_law_low"]
theorem sc__law_few_below : FnScope N__law_few_below ["_law_levels", "_law_size"] (defScope s__law_few_below) := ⟨rfl, rfl, rfl, by decide +kernel, rfl, by decide +kernel, by decide +kernel⟩
abbrev s__law_same : Stmt := top 24
abbrev N__law_same : List Str := ["_law_levels", "_law_state", "_law_looks", "_law_size", "_law_name", "_law_wrote", "_law_low"]
theorem sc__law_same : FnScope N__law_same ["_law_levels", "_law_state", "_law_looks", "_law_size"] (defScope s__law_same) := ⟨rfl, rfl, rfl, by decide +kernel, rfl, by decide +kernel, by decide +kernel⟩
abbrev s__law_within : Stmt := top 25
abbrev N__law_within : List Str := ["_law_one", "_law_other", "_law_name"]
theorem sc__law_within : FnScope N__law_within ["_law_one", "_law_other"] (defScope s__law_within) := ⟨rfl, rfl, rfl, by decide +kernel, rfl, by decide +kernel, by decide +kernel⟩
abbrev s__law_looks_right : Stmt := top 26
abbrev N__law_looks_right : List Str := ["_law_looks", "_law_state", "_law_size", "_law_name", "_law_look", "_law_other"]
theorem sc__law_looks_right : FnScope N__law_looks_right ["_law_looks", "_law_state", "_law_size"] (defScope s__law_looks_right) := ⟨rfl, rfl, rfl, by decide +kernel, rfl, by decide +kernel, by decide +kernel⟩
abbrev s__law_blocks_due : Stmt := top 27
abbrev N__law_blocks_due : List Str := ["_law_looks", "_law_wrote", "_law_unlike", "_law_name", "_law_seen", "_law_blocks", "_law_pair", "_law_rest"]
theorem sc__law_blocks_due : FnScope N__law_blocks_due ["_law_looks", "_law_wrote"] (defScope s__law_blocks_due) := ⟨rfl, rfl, rfl, by decide +kernel, rfl, by decide +kernel, by decide +kernel⟩
abbrev s__law_finish : Stmt := top 29
abbrev N__law_finish : List Str := ["_law_levels", "_law_state", "_law_cells", "_law_looks", "_law_size", "_law_turn", "_law_name", "_law_due"]
theorem sc__law_finish : FnScope N__law_finish ["_law_levels", "_law_state", "_law_cells", "_law_looks", "_law_size"] (defScope s__law_finish) := ⟨rfl, rfl, rfl, by decide +kernel, rfl, by decide +kernel, by decide +kernel⟩
abbrev s__law_walked : Stmt := top 28
abbrev N__law_walked : List Str := ["_law_size", "_law_schedule_here", "_law_levels", "_law_other", "_law_state", "_law_name", "_law_cells", "_law_looks", "_law_due", "_law_wrote", "_law_kept", "_law_told", "_law_blocks", "_law_k", "_law_ahead", "_law_block"]
theorem sc__law_walked : FnScope N__law_walked ["_law_size", "_law_schedule_here"] (defScope s__law_walked) := ⟨rfl, rfl, rfl, by decide +kernel, rfl, by decide +kernel, by decide +kernel⟩
abbrev s__law_all_refused : Stmt := top 30
abbrev N__law_all_refused : List Str := ["_law_found", "_law_size", "_law_schedule_here", "_law_bad", "_law_away", "_law_levels", "_law_word", "_law_row"]
theorem sc__law_all_refused : FnScope N__law_all_refused ["_law_found", "_law_size", "_law_schedule_here"] (defScope s__law_all_refused) := ⟨rfl, rfl, rfl, by decide +kernel, rfl, by decide +kernel, by decide +kernel⟩
abbrev s_law : Stmt := top 31
abbrev N_law : List Str := ["_law_script", "_law_found", "_law_size", "_law_schedule_here"]
theorem sc_law : FnScope N_law ["_law_script"] (defScope s_law) := ⟨rfl, rfl, rfl, by decide +kernel, rfl, by decide +kernel, by decide +kernel⟩
structure Tx (P : Program) (K : PySem.W.Frag) (mg : Str → Option Value) : Prop where
  b_isinstance : mg "isinstance" = none
  b_int : mg "int" = none
  b_bool : mg "bool" = none
  b_tuple : mg "tuple" = none
  b_list : mg "list" = none
  b_range : mg "range" = none
  b_len : mg "len" = none
  b_sorted : mg "sorted" = none
  b_set : mg "set" = none
  b_min : mg "min" = none
  b_all : mg "all" = none
  x_BadName_BadName : PySem.W.exmOne K (.ref (He.ga K "BadName")) (.ref (He.ga K "BadName")) = some true
  x_BadNumber_BadName : PySem.W.exmOne K (.ref (He.ga K "BadNumber")) (.ref (He.ga K "BadName")) = some false
  x_BadNumber_BadNumber : PySem.W.exmOne K (.ref (He.ga K "BadNumber")) (.ref (He.ga K "BadNumber")) = some true
  i_MOST_SIZE : ∃ t, mg "MOST_SIZE" = some (.int 6 t)
  c_TaskError : mg "TaskError" = some (.ref (He.ga K "TaskError"))
  cl_Levels : Cls K (He.ga K "Levels")
  na_Levels__size : NoAttr K (He.ga K "Levels") "_size"
  na_Levels__cells : NoAttr K (He.ga K "Levels") "_cells"
  na_Levels__low : NoAttr K (He.ga K "Levels") "_low"
  na_Levels__taken : NoAttr K (He.ga K "Levels") "_taken"
  na_Levels__seen : NoAttr K (He.ga K "Levels") "_seen"
  na_Levels__looks : NoAttr K (He.ga K "Levels") "_looks"
  e_BadName : ErrOk P K mg "BadName" (He.ga K "BadName") ps_BadName ok_BadName
  e_BadNumber : ErrOk P K mg "BadNumber" (He.ga K "BadNumber") ps_BadNumber ok_BadNumber
section
variable {P : Program} {w : World} {K : PySem.W.Frag} {mg : Str → Option Value} {base : Heap}
set_option maxHeartbeats 4000000 in
theorem ok_is_int (T : Tx P K mg) {f : Addr} {fd : FuncData} (F : FunD K "is_int" "is_int" (defArgs s_is_int) (defBody s_is_int) (defScope s_is_int) [] [] f fd) : FnOk P w K mg base (L2.CX P w) 1 f fd ["thing"] (sp_is_int K) := by
  refine F.ok sc_is_int (fun vs H Q E h => len_is_int h) (fun cdv A outer s H vs Q E hr h => ⟨t_is_int K, PSs.nox ?_, rd_is_int vs H Q E h⟩)
  exact (pss_one (ps_ret (pe_and (pe_callB call_isi rfl T.b_isinstance bt_isinstance (pa_cons (pv 0) (pa_cons (pe_bltn (v := .ty "int") rfl T.b_int bt_int rfl) pa_nil))) (pe_one (pe_not (pe_callB call_isi rfl T.b_isinstance bt_isinstance (pa_cons (pv 0) (pa_cons (pe_bltn (v := .ty "bool") rfl T.b_bool bt_bool rfl) pa_nil))))))))
set_option maxHeartbeats 4000000 in
theorem ok_is_row (T : Tx P K mg) {f : Addr} {fd : FuncData} (F : FunD K "is_row" "is_row" (defArgs s_is_row) (defBody s_is_row) (defScope s_is_row) [] [] f fd) : FnOk P w K mg base (L2.CX P w) 1 f fd ["thing"] (sp_is_row K) := by
  refine F.ok sc_is_row (fun vs H Q E h => len_is_row h) (fun cdv A outer s H vs Q E hr h => ⟨t_is_row K, PSs.nox ?_, rd_is_row vs H Q E h⟩)
  exact (pss_one (ps_ret (pe_callB call_isiT rfl T.b_isinstance bt_isinstance (pa_cons (pv 0) (pa_cons (pe_tup (pa_cons (pe_bltn (v := .ty "list") rfl T.b_list bt_list rfl) (pa_cons (pe_bltn (v := .ty "tuple") rfl T.b_tuple bt_tuple rfl) pa_nil))) pa_nil)))))
set_option maxHeartbeats 4000000 in
theorem ok_check_number (T : Tx P K mg) (D_is_int : Dok P w K mg base 1 "is_int" ["thing"] (sp_is_int K)) {f : Addr} {fd : FuncData} (F : FunD K "check_number" "check_number" (defArgs s_check_number) (defBody s_check_number) (defScope s_check_number) [] [] f fd) : FnOk P w K mg base (L2.CX P w) 2 f fd ["number", "least", "word"] (sp_check_number K) := by
  refine F.ok sc_check_number (fun vs H Q E h => len_check_number h) (fun cdv A outer s H vs Q E hr h => ⟨t_check_number K E, ?_, rd_check_number vs H Q E h⟩)
  exact (pss_one (ps_if (PW.pt (pw_or (pt_not (pt_e (pe_def D_is_int (hr.mono (by decide)) rfl passL (pa_cons (pv 0) pa_nil)))) (pw_or1 (pt_c o_lt (pv 0) (pv 1) (nomark _)))))
    (pss_one (ps_raiseE rfl T.e_BadNumber (by decide) hr (takes_of rfl rfl rfl rfl) (pa_cons (pv 2) pa_nil)))
    pss_nil))
set_option maxHeartbeats 4000000 in
theorem ok_check_levels (T : Tx P K mg) (D_check_number : Dok P w K mg base 2 "check_number" ["number", "least", "word"] (sp_check_number K)) {f : Addr} {fd : FuncData} (F : FunD K "check_levels" "check_levels" (defArgs s_check_levels) (defBody s_check_levels) (defScope s_check_levels) [] [] f fd) : FnOk P w K mg base (L2.CX P w) 3 f fd ["size"] (sp_check_levels K) := by
  refine F.ok sc_check_levels (fun vs H Q E h => len_check_levels h) (fun cdv A outer s H vs Q E hr h => ⟨t_check_levels K E, ?_, rd_check_levels vs H Q E h⟩)
  exact (pss_cons (ps_expr (pe_def D_check_number (hr.mono (by decide)) rfl (passes_call (takes_of rfl rfl rfl rfl) (fun _ _ _ _ h => h)) (pa_cons (pv 0) (pa_cons pe_int (pa_cons pe_str pa_nil)))))
    (pss_one (ps_if (pt_c o_gt (pv 0) (pe_glob rfl T.i_MOST_SIZE.choose_spec ⟨_, rfl⟩) (nomark _))
    (pss_one (ps_raiseE rfl T.e_BadNumber (by decide) hr (takes_of rfl rfl rfl rfl) (pa_cons pe_str pa_nil)))
    pss_nil)))
set_option maxHeartbeats 4000000 in
theorem ok_Levels___init__ (T : Tx P K mg) (D_check_levels : Dok P w K mg base 3 "check_levels" ["size"] (sp_check_levels K)) {f : Addr} {fd : FuncData} (F : FunD K "__init__" "Levels.__init__" (defArgs s_Levels___init__) (defBody s_Levels___init__) (defScope s_Levels___init__) [] [] f fd) : FnOk P w K mg base (L2.CX P w) 4 f fd ["self", "size"] (sp_Levels___init__ K) := by
  refine F.ok sc_Levels___init__ (fun vs H Q E h => len_Levels___init__ h) (fun cdv A outer s H vs Q E hr h => ⟨t_Levels___init__ K E, ?_, rd_Levels___init__ vs H Q E h⟩)
  exact (pss_cons (ps_expr (pe_def D_check_levels (hr.mono (by decide)) rfl (passes_call (takes_of rfl rfl rfl rfl) (fun _ _ _ _ h => h)) (pa_cons (pv 1) pa_nil)))
    (pss_cons (ps_sf T.cl_Levels T.na_Levels__size (pv 0) (pv 1) rfl)
    (pss_cons (ps_sf T.cl_Levels T.na_Levels__cells (pv 0) (pe_lc (own := [("_", 2)]) (g := (gName 2)) (tt := tYes) rfl sc_Levels___init__.nd (pi_range1 rfl T.b_range (pa_cons (pv 1) pa_nil)) (blkOk_by (own := [("_", 2)]) (N := N_Levels___init__) (sc := defScope s_Levels___init__) (by decide +kernel)) (fun _ _ _ _ _ => (pg_name (i := 2) sc_Levels___init__.nd rfl (Or.inl rfl))) (fun _ _ _ _ _ => pts_nil) (fun _ _ _ _ _ => (pe_op o_add (pv 1) pe_int))) rfl)
    (pss_cons (ps_sf T.cl_Levels T.na_Levels__low (pv 0) (pe_lc (own := [("_", 2)]) (g := (gName 2)) (tt := tYes) rfl sc_Levels___init__.nd (pi_range1 rfl T.b_range (pa_cons (pv 1) pa_nil)) (blkOk_by (own := [("_", 2)]) (N := N_Levels___init__) (sc := defScope s_Levels___init__) (by decide +kernel)) (fun _ _ _ _ _ => (pg_name (i := 2) sc_Levels___init__.nd rfl (Or.inl rfl))) (fun _ _ _ _ _ => pts_nil) (fun _ _ _ _ _ => (pe_op o_add (pv 1) pe_int))) rfl)
    (pss_cons (ps_sf T.cl_Levels T.na_Levels__taken (pv 0) (pe_lc (own := [("_", 2)]) (g := (gName 2)) (tt := tYes) rfl sc_Levels___init__.nd (pi_range1 rfl T.b_range (pa_cons (pv 1) pa_nil)) (blkOk_by (own := [("_", 2)]) (N := N_Levels___init__) (sc := defScope s_Levels___init__) (by decide +kernel)) (fun _ _ _ _ _ => (pg_name (i := 2) sc_Levels___init__.nd rfl (Or.inl rfl))) (fun _ _ _ _ _ => pts_nil) (fun _ _ _ _ _ => pe_int)) rfl)
    (pss_cons (ps_sf T.cl_Levels T.na_Levels__seen (pv 0) (pe_lc (own := [("_", 2)]) (g := (gName 2)) (tt := tYes) rfl sc_Levels___init__.nd (pi_range1 rfl T.b_range (pa_cons (pv 1) pa_nil)) (blkOk_by (own := [("_", 2)]) (N := N_Levels___init__) (sc := defScope s_Levels___init__) (by decide +kernel)) (fun _ _ _ _ _ => (pg_name (i := 2) sc_Levels___init__.nd rfl (Or.inl rfl))) (fun _ _ _ _ _ => pts_nil) (fun _ _ _ _ _ => (pe_lst pa_nil))) rfl)
    (pss_one (ps_sf T.cl_Levels T.na_Levels__looks (pv 0) pe_dnewK rfl))))))))
set_option maxHeartbeats 4000000 in
theorem ok_Levels_wrote (T : Tx P K mg) {f : Addr} {fd : FuncData} (F : FunD K "wrote" "Levels.wrote" (defArgs s_Levels_wrote) (defBody s_Levels_wrote) (defScope s_Levels_wrote) [] [] f fd) : FnOk P w K mg base (L2.CX P w) 1 f fd ["self"] (sp_Levels_wrote K) := by
  refine F.ok sc_Levels_wrote (fun vs H Q E h => len_Levels_wrote h) (fun cdv A outer s H vs Q E hr h => ⟨t_Levels_wrote K, PSs.nox ?_, rd_Levels_wrote vs H Q E h⟩)
  exact (pss_one (ps_ret (pe_callTy c_tuple rfl T.b_tuple bt_tuple (pa_cons (pe_lc (own := [("name", 1)]) (g := (gName 1)) (tt := (tT (tOp nGt (tOp (rIx K) (tGf (He.ga K "Levels") "_taken" (tVar 0)) (tVar 1)) (tC (.int 0))))) rfl sc_Levels_wrote.nd (pi_range1 rfl T.b_range (pa_cons (pe_gf T.cl_Levels T.na_Levels__size (pv 0) rfl) pa_nil)) (blkOk_by (own := [("name", 1)]) (N := N_Levels_wrote) (sc := defScope s_Levels_wrote) (by decide +kernel)) (fun _ _ _ _ _ => (pg_name (i := 1) sc_Levels_wrote.nd rfl (Or.inl rfl))) (fun _ _ _ _ _ => pts_one (pt_c o_gt (pe_ix ix_seq (pe_gf T.cl_Levels T.na_Levels__taken (pv 0) rfl) (pv 1) (fun _ _ => rfl)) pe_int (nomark _))) (fun _ _ _ _ _ => (pv 1))) pa_nil))))
set_option maxHeartbeats 4000000 in
theorem ok_Levels_gone (T : Tx P K mg) {f : Addr} {fd : FuncData} (F : FunD K "gone" "Levels.gone" (defArgs s_Levels_gone) (defBody s_Levels_gone) (defScope s_Levels_gone) [] [] f fd) : FnOk P w K mg base (L2.CX P w) 1 f fd ["self"] (sp_Levels_gone K) := by
  refine F.ok sc_Levels_gone (fun vs H Q E h => len_Levels_gone h) (fun cdv A outer s H vs Q E hr h => ⟨t_Levels_gone K, PSs.nox ?_, rd_Levels_gone vs H Q E h⟩)
  exact (pss_one (ps_ret (pe_callTy c_tuple rfl T.b_tuple bt_tuple (pa_cons (pe_lc (own := [("name", 1)]) (g := (gName 1)) (tt := (tT (tDIn (tVar 1) (tGf (He.ga K "Levels") "_looks" (tVar 0))))) rfl sc_Levels_gone.nd (pi_range1 rfl T.b_range (pa_cons (pe_gf T.cl_Levels T.na_Levels__size (pv 0) rfl) pa_nil)) (blkOk_by (own := [("name", 1)]) (N := N_Levels_gone) (sc := defScope s_Levels_gone) (by decide +kernel)) (fun _ _ _ _ _ => (pg_name (i := 1) sc_Levels_gone.nd rfl (Or.inl rfl))) (fun _ _ _ _ _ => pts_one (pt_cmp (pc_din (hu_of hr) (pv 1) (pe_gf T.cl_Levels T.na_Levels__looks (pv 0) rfl)))) (fun _ _ _ _ _ => (pv 1))) pa_nil))))
set_option maxHeartbeats 4000000 in
theorem ok_Levels__known (T : Tx P K mg) (D_is_int : Dok P w K mg base 1 "is_int" ["thing"] (sp_is_int K)) {f : Addr} {fd : FuncData} (F : FunD K "_known" "Levels._known" (defArgs s_Levels__known) (defBody s_Levels__known) (defScope s_Levels__known) [] [] f fd) : FnOk P w K mg base (L2.CX P w) 2 f fd ["self", "name"] (sp_Levels__known K) := by
  refine F.ok sc_Levels__known (fun vs H Q E h => len_Levels__known h) (fun cdv A outer s H vs Q E hr h => ⟨t_Levels__known K E, ?_, rd_Levels__known vs H Q E h⟩)
  exact (pss_one (ps_if (PW.pt (pw_or (pt_not (pt_e (pe_def D_is_int (hr.mono (by decide)) rfl passL (pa_cons (pv 1) pa_nil)))) (pw_or1 (pt_not (pt_chain o_le o_lt pe_int (pv 1) (pe_gf T.cl_Levels T.na_Levels__size (pv 0) rfl))))))
    (pss_one (ps_raiseE rfl T.e_BadName (by decide) hr (takes_of rfl rfl rfl rfl) (pa_cons (pv 1) pa_nil)))
    pss_nil))
set_option maxHeartbeats 4000000 in
theorem ok_Levels_level (T : Tx P K mg) (D_Levels__known : Mok P w K mg base 2 (He.ga K "Levels") "_known" ["self", "name"] (sp_Levels__known K)) {f : Addr} {fd : FuncData} (F : FunD K "level" "Levels.level" (defArgs s_Levels_level) (defBody s_Levels_level) (defScope s_Levels_level) [] [] f fd) : FnOk P w K mg base (L2.CX P w) 3 f fd ["self", "name"] (sp_Levels_level K) := by
  refine F.ok sc_Levels_level (fun vs H Q E h => len_Levels_level h) (fun cdv A outer s H vs Q E hr h => ⟨t_Levels_level K E, ?_, rd_Levels_level vs H Q E h⟩)
  exact (pss_cons (ps_expr (pe_mt D_Levels__known T.cl_Levels (hr.mono (by decide)) (pv 0) (passes_call (takes_of rfl rfl rfl rfl) (fun _ _ _ _ h => h)) (pa_cons (pv 1) pa_nil)))
    (pss_one (ps_ret (pe_ix ix_seq (pe_gf T.cl_Levels T.na_Levels__low (pv 0) rfl) (pv 1) (fun _ _ => rfl)))))
set_option maxHeartbeats 4000000 in
theorem ok_Levels_taken (T : Tx P K mg) (D_Levels__known : Mok P w K mg base 2 (He.ga K "Levels") "_known" ["self", "name"] (sp_Levels__known K)) {f : Addr} {fd : FuncData} (F : FunD K "taken" "Levels.taken" (defArgs s_Levels_taken) (defBody s_Levels_taken) (defScope s_Levels_taken) [] [] f fd) : FnOk P w K mg base (L2.CX P w) 3 f fd ["self", "name"] (sp_Levels_taken K) := by
  refine F.ok sc_Levels_taken (fun vs H Q E h => len_Levels_taken h) (fun cdv A outer s H vs Q E hr h => ⟨t_Levels_taken K E, ?_, rd_Levels_taken vs H Q E h⟩)
  exact (pss_cons (ps_expr (pe_mt D_Levels__known T.cl_Levels (hr.mono (by decide)) (pv 0) (passes_call (takes_of rfl rfl rfl rfl) (fun _ _ _ _ h => h)) (pa_cons (pv 1) pa_nil)))
    (pss_one (ps_ret (pe_ix ix_seq (pe_gf T.cl_Levels T.na_Levels__taken (pv 0) rfl) (pv 1) (fun _ _ => rfl)))))
set_option maxHeartbeats 4000000 in
theorem ok_Levels_step (T : Tx P K mg) (D_Levels__known : Mok P w K mg base 2 (He.ga K "Levels") "_known" ["self", "name"] (sp_Levels__known K)) {f : Addr} {fd : FuncData} (F : FunD K "step" "Levels.step" (defArgs s_Levels_step) (defBody s_Levels_step) (defScope s_Levels_step) [] [] f fd) : FnOk P w K mg base (L2.CX P w) 3 f fd ["self", "name"] (sp_Levels_step K) := by
  refine F.ok sc_Levels_step (fun vs H Q E h => len_Levels_step h) (fun cdv A outer s H vs Q E hr h => ⟨t_Levels_step K E, ?_, rd_Levels_step vs H Q E h⟩)
  exact (pss_cons (ps_expr (pe_mt D_Levels__known T.cl_Levels (hr.mono (by decide)) (pv 0) (passes_call (takes_of rfl rfl rfl rfl) (fun _ _ _ _ h => h)) (pa_cons (pv 1) pa_nil)))
    (pss_cons (ps_if (pt_cmp (pc_din (hu_of hr) (pv 1) (pe_gf T.cl_Levels T.na_Levels__looks (pv 0) rfl)))
    (pss_one (ps_raiseE rfl T.e_BadName (by decide) hr (takes_of rfl rfl rfl rfl) (pa_cons (pv 1) pa_nil)))
    pss_nil)
    (pss_cons (ps_set (i := 2) sc_Levels_step.nd rfl (Or.inl rfl) (pe_op o_mod (pe_ix ix_seq (pe_gf T.cl_Levels T.na_Levels__taken (pv 0) rfl) (pv 1) (fun _ _ => rfl)) (pe_op o_add (pe_gf T.cl_Levels T.na_Levels__size (pv 0) rfl) pe_int)))
    (pss_cons (ps_augS (pe_gf T.cl_Levels T.na_Levels__taken (pv 0) rfl) (pv 1) get_listN pe_int ip_add set_list)
    (pss_cons (ps_if (pt_c op_eq (pv 2) pe_int (nomark _))
    (pss_cons (ps_augS (pe_gf T.cl_Levels T.na_Levels__low (pv 0) rfl) (pv 1) get_listN pe_int ip_sub set_list)
    (pss_cons (ps_asg (pe_ix ix_seq (pe_gf T.cl_Levels T.na_Levels__low (pv 0) rfl) (pv 1) (fun _ _ => rfl)) (pg_sub (pe_gf T.cl_Levels T.na_Levels__cells (pv 0) rfl) (pv 1) set_list))
    (pss_cons (ps_asg (pe_lst pa_nil) (pg_sub (pe_gf T.cl_Levels T.na_Levels__seen (pv 0) rfl) (pv 1) set_list))
    (pss_one (ps_ret pe_non)))))
    pss_nil)
    (pss_cons (ps_if (pt_c o_le (pe_ix ix_seq (pe_gf T.cl_Levels T.na_Levels__cells (pv 0) rfl) (pe_op o_sub (pv 2) pe_int) (fun _ _ => rfl)) (pe_ix ix_seq (pe_gf T.cl_Levels T.na_Levels__low (pv 0) rfl) (pv 1) (fun _ _ => rfl)) (nomark _))
    (pss_one (ps_expr (pe_bm PySem.F.plainAttrs_list PySem.F.slot_list_append PySem.F.type_list_append mt_append (pe_ix ix_seq (pe_gf T.cl_Levels T.na_Levels__seen (pv 0) rfl) (pv 1) (fun _ _ => rfl)) (pa_cons (pe_op o_sub (pv 2) pe_int) pa_nil))))
    pss_nil)
    (pss_cons (ps_if (PW.pt (pw_or (pt_c o_lt (pv 2) (pe_gf T.cl_Levels T.na_Levels__size (pv 0) rfl) (nomark _)) (pw_or1 (pt_c o_lt (pe_callB c_len rfl T.b_len bt_len (pa_cons (pe_ix ix_seq (pe_gf T.cl_Levels T.na_Levels__seen (pv 0) rfl) (pv 1) (fun _ _ => rfl)) pa_nil)) (pe_ix ix_seq (pe_gf T.cl_Levels T.na_Levels__low (pv 0) rfl) (pv 1) (fun _ _ => rfl)) (nomark _)))))
    (pss_one (ps_ret pe_non))
    pss_nil)
    (pss_cons (ps_dput (hu_of hr) (pe_gf T.cl_Levels T.na_Levels__looks (pv 0) rfl) (pv 1) (pe_callTy c_tuple rfl T.b_tuple bt_tuple (pa_cons (pe_ix ix_seq (pe_gf T.cl_Levels T.na_Levels__seen (pv 0) rfl) (pv 1) (fun _ _ => rfl)) pa_nil)) rfl)
    (pss_one (ps_ret (pe_dget (hu_of hr) (pe_gf T.cl_Levels T.na_Levels__looks (pv 0) rfl) (pv 1) (fun _ _ => rfl))))))))))))
set_option maxHeartbeats 4000000 in
theorem ok_check_schedule (T : Tx P K mg) (D_is_row : Dok P w K mg base 1 "is_row" ["thing"] (sp_is_row K)) (D_is_int : Dok P w K mg base 1 "is_int" ["thing"] (sp_is_int K)) {f : Addr} {fd : FuncData} (F : FunD K "check_schedule" "check_schedule" (defArgs s_check_schedule) (defBody s_check_schedule) (defScope s_check_schedule) [] [] f fd) : FnOk P w K mg base (L2.CX P w) 2 f fd ["schedule", "size"] (sp_check_schedule K) := by
  refine F.ok sc_check_schedule (fun vs H Q E h => len_check_schedule h) (fun cdv A outer s H vs Q E hr h => ⟨t_check_schedule K E, ?_, rd_check_schedule vs H Q E h⟩)
  exact (pss_cons (ps_if (pt_not (pt_e (pe_def D_is_row (hr.mono (by decide)) rfl passL (pa_cons (pv 0) pa_nil))))
    (pss_one (ps_raiseE rfl T.e_BadName (by decide) hr (takes_of rfl rfl rfl rfl) (pa_cons (pe_un u_neg pe_int) pa_nil)))
    pss_nil)
    (pss_one (ps_for (passes_of rfl) rfl (pi_sq (pv 0)) (pg_name (i := 2) sc_check_schedule.nd rfl (Or.inl rfl))
    (pss_one (ps_if (PW.pt (pw_or (pt_not (pt_e (pe_def D_is_int (hr.mono (by decide)) rfl passL (pa_cons (pv 2) pa_nil)))) (pw_or1 (pt_not (pt_chain o_le o_lt pe_int (pv 2) (pv 1))))))
    (pss_one (ps_raiseE rfl T.e_BadName (by decide) hr (takes_of rfl rfl rfl rfl) (pa_cons (pv 2) pa_nil)))
    pss_nil)))))
set_option maxHeartbeats 4000000 in
theorem ok_levels_run (T : Tx P K mg) (D_Levels___init__ : Kok P w K mg base 4 (He.ga K "Levels") "Levels" ["self", "size"] (sp_Levels___init__ K)) (D_check_schedule : Dok P w K mg base 2 "check_schedule" ["schedule", "size"] (sp_check_schedule K)) (D_Levels_step : Mok P w K mg base 3 (He.ga K "Levels") "step" ["self", "name"] (sp_Levels_step K)) (D_Levels_gone : Pok P w K mg base 1 (He.ga K "Levels") "gone" (sp_Levels_gone K)) (D_Levels_wrote : Pok P w K mg base 1 (He.ga K "Levels") "wrote" (sp_Levels_wrote K)) {f : Addr} {fd : FuncData} (F : FunD K "levels_run" "levels_run" (defArgs s_levels_run) (defBody s_levels_run) (defScope s_levels_run) [] [] f fd) : FnOk P w K mg base (L2.CX P w) 6 f fd ["size", "schedule"] (sp_levels_run K) := by
  refine F.ok sc_levels_run (fun vs H Q E h => len_levels_run h) (fun cdv A outer s H vs Q E hr h => ⟨t_levels_run K E, ?_, rd_levels_run vs H Q E h⟩)
  exact (pss_cons (ps_set (i := 2) sc_levels_run.nd rfl (Or.inl rfl) (pe_mk D_Levels___init__ (hr.mono (by decide)) rfl (passes_call (takes_of rfl rfl rfl rfl) (fun _ _ _ _ h => h)) (pa_cons (pv 0) pa_nil)))
    (pss_cons (ps_expr (pe_def D_check_schedule (hr.mono (by decide)) rfl (passes_call (takes_of rfl rfl rfl rfl) (fun _ _ _ _ h => h)) (pa_cons (pv 1) (pa_cons (pv 0) pa_nil))))
    (pss_cons (ps_set (i := 3) sc_levels_run.nd rfl (Or.inr rfl) pe_dnewK)
    (pss_cons (ps_for (passes_of rfl) rfl (pi_sq (pv 1)) (pg_name (i := 4) sc_levels_run.nd rfl (Or.inl rfl))
    (pss_one (ps_if (pt_cmp (pc_dnotin (hu_of hr) (pv 4) (pv 3)))
    (pss_cons (ps_set (i := 5) sc_levels_run.nd rfl (Or.inl rfl) (pe_mt D_Levels_step T.cl_Levels (hr.mono (by decide)) (pv 2) (passes_call (takes_of rfl rfl rfl rfl) (fun _ _ _ _ h => h)) (pa_cons (pv 4) pa_nil)))
    (pss_one (ps_if (pt_c o_notN (pv 5) pe_non (nomark _))
    (pss_one (ps_dput (hu_of hr) (pv 3) (pv 4) (pv 5) rfl))
    pss_nil)))
    pss_nil)))
    (pss_one (ps_ret (pe_tup (pa_cons (pe_pr D_Levels_wrote T.cl_Levels (hr.mono (by decide)) (pv 2) passL rfl) (pa_cons (pe_callTy c_tuple rfl T.b_tuple bt_tuple (pa_cons (pe_lc (own := [("name", 4)]) (g := (gName 4)) (tt := tYes) rfl sc_levels_run.nd (pi_tup (pe_pr D_Levels_gone T.cl_Levels (hr.mono (by decide)) (pv 2) passL rfl)) (blkOk_by (own := [("name", 4)]) (N := N_levels_run) (sc := defScope s_levels_run) (by decide +kernel)) (fun _ _ _ _ _ => (pg_name (i := 4) sc_levels_run.nd rfl (Or.inl rfl))) (fun _ _ _ _ _ => pts_nil) (fun _ _ _ _ _ => (pe_tup (pa_cons (pv 4) (pa_cons (pe_dget (hu_of hr) (pv 3) (pv 4) (fun _ _ => rfl)) pa_nil))))) pa_nil)) pa_nil)))))))))
set_option maxHeartbeats 4000000 in
theorem ok_levels_blocks (T : Tx P K mg) (D_levels_run : Dok P w K mg base 6 "levels_run" ["size", "schedule"] (sp_levels_run K)) {f : Addr} {fd : FuncData} (F : FunD K "levels_blocks" "levels_blocks" (defArgs s_levels_blocks) (defBody s_levels_blocks) (defScope s_levels_blocks) [] [] f fd) : FnOk P w K mg base (L2.CX P w) 7 f fd ["size", "schedule"] (sp_levels_blocks K) := by
  refine F.ok sc_levels_blocks (fun vs H Q E h => len_levels_blocks h) (fun cdv A outer s H vs Q E hr h => ⟨t_levels_blocks K w E, ?_, rd_levels_blocks vs H Q E h⟩)
  exact (pss_cons (ps_asg (pe_def D_levels_run (hr.mono (by decide)) rfl (passes_call (takes_of rfl rfl rfl rfl) (fun _ _ _ _ h => h)) (pa_cons (pv 0) (pa_cons (pv 1) pa_nil))) (pg_tup rfl (pgs_cons (pg_name (i := 2) sc_levels_blocks.nd rfl (Or.inl rfl)) (pgs_cons (pg_name (i := 3) sc_levels_blocks.nd rfl (Or.inl rfl)) pgs_nil))))
    (pss_cons (ps_set (i := 4) sc_levels_blocks.nd rfl (Or.inr rfl) (pe_tup pa_nil))
    (pss_cons (ps_set (i := 5) sc_levels_blocks.nd rfl (Or.inl rfl) (pe_lst pa_nil))
    (pss_cons (ps_for (passes_of rfl) rfl (pi_list (pe_callB (NwS.cr_sortedN rfl hr.units) rfl T.b_sorted bt_sorted (pa_cons (pe_callTy (NwS.cr_setN rfl hr.units) rfl T.b_set bt_set (pa_cons (pe_lc (own := [("_", 6), ("look", 7)]) (g := (gTup K 2 (gCons (gName 6) (gCons (gName 7) gNil)))) (tt := tYes) rfl sc_levels_blocks.nd (pi_tup (pv 3)) (blkOk_by (own := [("_", 6), ("look", 7)]) (N := N_levels_blocks) (sc := defScope s_levels_blocks) (by decide +kernel)) (fun _ _ _ _ _ => (pg_tup rfl (pgs_cons (pg_name (i := 6) sc_levels_blocks.nd rfl (Or.inl rfl)) (pgs_cons (pg_name (i := 7) sc_levels_blocks.nd rfl (Or.inl rfl)) pgs_nil)))) (fun _ _ _ _ _ => pts_nil) (fun _ _ _ _ _ => (pe_tup (pa_cons (pe_callB c_len rfl T.b_len bt_len (pa_cons (pv 7) pa_nil)) (pa_cons (pv 7) pa_nil))))) pa_nil)) pa_nil))) (pg_tup rfl (pgs_cons (pg_name (i := 6) sc_levels_blocks.nd rfl (Or.inl rfl)) (pgs_cons (pg_name (i := 7) sc_levels_blocks.nd rfl (Or.inl rfl)) pgs_nil)))
    (pss_cons (ps_expr (pe_bm PySem.F.plainAttrs_list PySem.F.slot_list_append PySem.F.type_list_append mt_append (pv 5) (pa_cons (pe_callTy c_tuple rfl T.b_tuple bt_tuple (pa_cons (pe_lc (own := [("name", 9)]) (g := (gName 9)) (tt := (tT (tOp (rIn K true) (tVar 9) (tVar 4)))) rfl sc_levels_blocks.nd (pi_tup (pv 7)) (blkOk_by (own := [("name", 9)]) (N := N_levels_blocks) (sc := defScope s_levels_blocks) (by decide +kernel)) (fun _ _ _ _ _ => (pg_name (i := 9) sc_levels_blocks.nd rfl (Or.inl rfl))) (fun _ _ _ _ _ => pts_one (pt_c op_notIn_seq (pv 9) (pv 4) rfl)) (fun _ _ _ _ _ => (pv 9))) pa_nil)) pa_nil)))
    (pss_one (ps_set (i := 4) sc_levels_blocks.nd rfl (Or.inr rfl) (pv 7)))))
    (pss_cons (ps_set (i := 8) sc_levels_blocks.nd rfl (Or.inl rfl) (pe_callTy c_tuple rfl T.b_tuple bt_tuple (pa_cons (pe_lc (own := [("name", 9)]) (g := (gName 9)) (tt := (tT (tOp (rIn K true) (tVar 9) (tVar 4)))) rfl sc_levels_blocks.nd (pi_tup (pv 2)) (blkOk_by (own := [("name", 9)]) (N := N_levels_blocks) (sc := defScope s_levels_blocks) (by decide +kernel)) (fun _ _ _ _ _ => (pg_name (i := 9) sc_levels_blocks.nd rfl (Or.inl rfl))) (fun _ _ _ _ _ => pts_one (pt_c op_notIn_seq (pv 9) (pv 4) rfl)) (fun _ _ _ _ _ => (pv 9))) pa_nil)))
    (pss_one (ps_ret (pe_ifExp (pt_truth (pv 8) (by intro _; rfl)) (pe_callTy c_tuple rfl T.b_tuple bt_tuple (pa_cons (pe_op op_cat (pv 5) (pe_lst (pa_cons (pv 8) pa_nil))) pa_nil)) (pe_callTy c_tuple rfl T.b_tuple bt_tuple (pa_cons (pv 5) pa_nil))))))))))
set_option maxHeartbeats 4000000 in
theorem ok__law_drawn (T : Tx P K mg) {f : Addr} {fd : FuncData} (F : FunD K "_law_drawn" "_law_drawn" (defArgs s__law_drawn) (defBody s__law_drawn) (defScope s__law_drawn) [] [] f fd) : FnOk P w K mg base (L2.CX P w) 1 f fd ["_law_script"] (sp__law_drawn K) := by
  refine F.ok sc__law_drawn (fun vs H Q E h => len__law_drawn h) (fun cdv A outer s H vs Q E hr h => ⟨t__law_drawn K, PSs.nox ?_, rd__law_drawn vs H Q E h⟩)
  exact (pss_cons (ps_set (i := 1) sc__law_drawn.nd rfl (Or.inl rfl) (pe_lst pa_nil))
    (pss_cons (ps_for PassesOwn.never rfl (pi_range1 rfl T.b_range (pa_cons (pe_callB (c_min rfl) rfl T.b_min bt_min (pa_cons (pe_callB c_len rfl T.b_len bt_len (pa_cons (pv 0) pa_nil)) (pa_cons pe_int pa_nil))) pa_nil)) (pg_name (i := 2) sc__law_drawn.nd rfl (Or.inl rfl))
    (pss_cons (ps_set (i := 3) sc__law_drawn.nd rfl (Or.inl rfl) (pe_callTy c_int rfl T.b_int bt_int (pa_cons (pe_ix ix_seq (pv 0) (pv 2) (fun _ _ => rfl)) pa_nil)))
    (pss_cons (ps_if (pt_c o_lt (pv 3) pe_int (nomark _))
    (pss_cons (ps_expr (pe_bm PySem.F.plainAttrs_list PySem.F.slot_list_append PySem.F.type_list_append mt_append (pv 1) (pa_cons pe_int pa_nil)))
    (pss_one (ps_set (i := 3) sc__law_drawn.nd rfl (Or.inl rfl) (pe_op o_sub pe_int (pv 3)))))
    pss_nil)
    (pss_one (ps_if (pt_c o_ge (pv 3) (pe_op o_pow pe_int pe_int) (nomark _))
    (pss_one (ps_for PassesOwn.never rfl (pi_range1 rfl T.b_range (pa_cons pe_int pa_nil)) (pg_name (i := 4) sc__law_drawn.nd rfl (Or.inl rfl))
    (pss_one (ps_if (pt_c o_gt (pv 3) pe_int (nomark _))
    (pss_cons (ps_expr (pe_bm PySem.F.plainAttrs_list PySem.F.slot_list_append PySem.F.type_list_append mt_append (pv 1) (pa_cons (pe_op o_mod (pe_callTy c_int rfl T.b_int bt_int (pa_cons (pv 3) pa_nil)) pe_int) pa_nil)))
    (pss_one (ps_set (i := 3) sc__law_drawn.nd rfl (Or.inl rfl) (pe_op o_div (pv 3) pe_int))))
    pss_nil))))
    (pss_cons (ps_set (i := 5) sc__law_drawn.nd rfl (Or.inl rfl) (pe_op o_mod (pe_callTy c_int rfl T.b_int bt_int (pa_cons (pe_op o_add (pe_op o_add (pe_op o_mul (pv 3) pe_int) (pe_op o_mul (pv 2) pe_int)) pe_int) pa_nil)) pe_int))
    (pss_one (ps_for PassesOwn.never rfl (pi_range1 rfl T.b_range (pa_cons pe_int pa_nil)) (pg_name (i := 4) sc__law_drawn.nd rfl (Or.inl rfl))
    (pss_cons (ps_set (i := 5) sc__law_drawn.nd rfl (Or.inl rfl) (pe_op o_mod (pe_callTy c_int rfl T.b_int bt_int (pa_cons (pe_op o_add (pe_op o_add (pe_op o_add (pe_op o_mul (pv 5) (pv 5)) (pe_op o_mul (pv 4) pe_int)) (pe_op o_mul (pv 2) pe_int)) pe_int) pa_nil)) pe_int))
    (pss_one (ps_expr (pe_bm PySem.F.plainAttrs_list PySem.F.slot_list_append PySem.F.type_list_append mt_append (pv 1) (pa_cons (pe_op o_div (pv 5) pe_int) pa_nil)))))))))))))
    (pss_cons (ps_expr (pe_bm0 PySem.F.plainAttrs_list PySem.F.slot_list_reverse PySem.F.type_list_reverse mt_reverse (pv 1)))
    (pss_one (ps_ret (pv 1))))))
set_option maxHeartbeats 4000000 in
theorem ok__law_take (T : Tx P K mg) {f : Addr} {fd : FuncData} (F : FunD K "_law_take" "_law_take" (defArgs s__law_take) (defBody s__law_take) (defScope s__law_take) [] [] f fd) : FnOk P w K mg base (L2.CX P w) 1 f fd ["_law_found", "_law_many"] (sp__law_take K) := by
  refine F.ok sc__law_take (fun vs H Q E h => len__law_take h) (fun cdv A outer s H vs Q E hr h => ⟨t__law_take K, PSs.nox ?_, rd__law_take vs H Q E h⟩)
  exact (pss_cons (ps_if (pt_c op_eq (pe_callB c_len rfl T.b_len bt_len (pa_cons (pv 0) pa_nil)) pe_int (nomark _))
    (pss_one (ps_ret pe_int))
    pss_nil)
    (pss_one (ps_ret (pe_op o_mod (pe_callTy c_int rfl T.b_int bt_int (pa_cons (pe_bm0 PySem.F.plainAttrs_list PySem.F.slot_list_pop PySem.F.type_list_pop mt_pop (pv 0)) pa_nil)) (pv 1)))))
set_option maxHeartbeats 4000000 in
theorem ok__law_int (T : Tx P K mg) {f : Addr} {fd : FuncData} (F : FunD K "_law_int" "_law_int" (defArgs s__law_int) (defBody s__law_int) (defScope s__law_int) [] [] f fd) : FnOk P w K mg base (L2.CX P w) 1 f fd ["_law_thing"] (sp__law_int K) := by
  refine F.ok sc__law_int (fun vs H Q E h => len__law_int h) (fun cdv A outer s H vs Q E hr h => ⟨t__law_int K, PSs.nox ?_, rd__law_int vs H Q E h⟩)
  exact (pss_one (ps_ret (pe_and (pe_callB call_isi rfl T.b_isinstance bt_isinstance (pa_cons (pv 0) (pa_cons (pe_bltn (v := .ty "int") rfl T.b_int bt_int rfl) pa_nil))) (pe_one (pe_not (pe_callB call_isi rfl T.b_isinstance bt_isinstance (pa_cons (pv 0) (pa_cons (pe_bltn (v := .ty "bool") rfl T.b_bool bt_bool rfl) pa_nil))))))))
set_option maxHeartbeats 4000000 in
theorem ok__law_refused (T : Tx P K mg) (D_Levels___init__ : Kok P w K mg base 4 (He.ga K "Levels") "Levels" ["self", "size"] (sp_Levels___init__ K)) (D_Levels_step : Mok P w K mg base 3 (He.ga K "Levels") "step" ["self", "name"] (sp_Levels_step K)) (D_Levels_level : Mok P w K mg base 3 (He.ga K "Levels") "level" ["self", "name"] (sp_Levels_level K)) (D_Levels_taken : Mok P w K mg base 3 (He.ga K "Levels") "taken" ["self", "name"] (sp_Levels_taken K)) (D_levels_run : Dok P w K mg base 6 "levels_run" ["size", "schedule"] (sp_levels_run K)) (D_levels_blocks : Dok P w K mg base 7 "levels_blocks" ["size", "schedule"] (sp_levels_blocks K)) {f : Addr} {fd : FuncData} (F : FunD K "_law_refused" "_law_refused" (defArgs s__law_refused) (defBody s__law_refused) (defScope s__law_refused) [] [] f fd) : FnOk P w K mg base (L2.CX P w) 8 f fd ["_law_word", "_law_one", "_law_other"] (sp__law_refused K) := by
  refine F.ok sc__law_refused (fun vs H Q E h => len__law_refused h) (fun cdv A outer s H vs Q E hr h => ⟨t__law_refused K, PSs.nox ?_, rd__law_refused T.x_BadName_BadName T.x_BadNumber_BadName T.x_BadNumber_BadNumber vs H Q E h⟩)
  exact (pss_cons (ps_set (i := 3) sc__law_refused.nd rfl (Or.inl rfl) (pe_tup (pa_cons pe_str pa_nil)))
    (pss_cons (ps_tries (tb := fun W => (tSeq (tIfS (tT (tOp rEq (tVar 0) (tC (.str "new"))))
    (tDrop (tKw (He.ga K "Levels") (sp_Levels___init__ K) W (tCons (tVar 1) tNil)))
    tNext)
    (tSeq (tIfS (tT (tOp rEq (tVar 0) (tC (.str "step"))))
    (tDrop (tMw (He.ga K "Levels") "step" (sp_Levels_step K) W (tVar 1) (tCons (tVar 2) tNil)))
    tNext)
    (tSeq (tIfS (tT (tOp rEq (tVar 0) (tC (.str "level"))))
    (tDrop (tMw (He.ga K "Levels") "level" (sp_Levels_level K) W (tVar 1) (tCons (tVar 2) tNil)))
    tNext)
    (tSeq (tIfS (tT (tOp rEq (tVar 0) (tC (.str "taken"))))
    (tDrop (tMw (He.ga K "Levels") "taken" (sp_Levels_taken K) W (tVar 1) (tCons (tVar 2) tNil)))
    tNext)
    (tSeq (tIfS (tT (tOp rEq (tVar 0) (tC (.str "run"))))
    (tDrop (tCw (sp_levels_run K) W (tCons (tVar 1) (tCons (tVar 2) tNil))))
    tNext)
    (tIfS (tT (tOp rEq (tVar 0) (tC (.str "blocks"))))
    (tDrop (tCw (sp_levels_blocks K) W (tCons (tVar 1) (tCons (tVar 2) tNil))))
    tNext))))))) (Wo := fun _ _ _ _ => False) rfl rfl sc__law_refused.nd takes0
    (fun W pn xe tk _ => (pss_cons (ps_if (pt_c op_eq (pv 0) pe_str (nomark _))
    (pss_one (ps_expr (pe_mkW D_Levels___init__ (hr.mono (by decide)) rfl tk (pa_cons (pv 1) pa_nil))))
    pss_nil)
    (pss_cons (ps_if (pt_c op_eq (pv 0) pe_str (nomark _))
    (pss_one (ps_expr (pe_mtW D_Levels_step T.cl_Levels (hr.mono (by decide)) tk (pv 1) (pa_cons (pv 2) pa_nil))))
    pss_nil)
    (pss_cons (ps_if (pt_c op_eq (pv 0) pe_str (nomark _))
    (pss_one (ps_expr (pe_mtW D_Levels_level T.cl_Levels (hr.mono (by decide)) tk (pv 1) (pa_cons (pv 2) pa_nil))))
    pss_nil)
    (pss_cons (ps_if (pt_c op_eq (pv 0) pe_str (nomark _))
    (pss_one (ps_expr (pe_mtW D_Levels_taken T.cl_Levels (hr.mono (by decide)) tk (pv 1) (pa_cons (pv 2) pa_nil))))
    pss_nil)
    (pss_cons (ps_if (pt_c op_eq (pv 0) pe_str (nomark _))
    (pss_one (ps_expr (pe_defW D_levels_run (hr.mono (by decide)) rfl tk (pa_cons (pv 1) (pa_cons (pv 2) pa_nil)))))
    pss_nil)
    (pss_one (ps_if (pt_c op_eq (pv 0) pe_str (nomark _))
    (pss_one (ps_expr (pe_defW D_levels_blocks (hr.mono (by decide)) rfl tk (pa_cons (pv 1) (pa_cons (pv 2) pa_nil)))))
    pss_nil))))))))
    (ClsOk.named (i := 4) (ts := fun a cls d => (tAsg (tTup (tCons (tC (.str "name")) (tCons (tByE (He.ga K "BadName") "name" a cls d (tVar 4)) tNil))) (gName 3))) ⟨rfl, by decide, Or.inl T.e_BadName.gC⟩ rfl rfl (fun a oe cls d pn hz hf => (pss_one (ps_set (i := 3) sc__law_refused.nd rfl (Or.inl rfl) (pe_tup (pa_cons pe_str (pa_cons (pe_byE T.e_BadName (T.e_BadName.hno _ (by unfold ps_BadName; simp)) hz hf (pv 4)) pa_nil)))))) (ClsOk.named (i := 4) (ts := fun a cls d => (tAsg (tTup (tCons (tC (.str "number")) (tCons (tByE (He.ga K "BadNumber") "word" a cls d (tVar 4)) tNil))) (gName 3))) ⟨rfl, by decide, Or.inl T.e_BadNumber.gC⟩ rfl rfl (fun a oe cls d pn hz hf => (pss_one (ps_set (i := 3) sc__law_refused.nd rfl (Or.inl rfl) (pe_tup (pa_cons pe_str (pa_cons (pe_byE T.e_BadNumber (T.e_BadNumber.hno _ (by unfold ps_BadNumber; simp)) hz hf (pv 4)) pa_nil)))))) (ClsOk.bare (ts := fun a cls d => (tAsg (tTup (tCons (tC (.str "other")) tNil)) (gName 3))) ⟨rfl, by decide, Or.inl T.c_TaskError⟩ (fun a oe cls d pn hz hf => (pss_one (ps_set (i := 3) sc__law_refused.nd rfl (Or.inl rfl) (pe_tup (pa_cons pe_str pa_nil))))) ClsOk.nil))))
    (pss_one (ps_ret (pv 3)))))
set_option maxHeartbeats 4000000 in
theorem ok__law_schedule (T : Tx P K mg) (D__law_take : Dok P w K mg base 1 "_law_take" ["_law_found", "_law_many"] (sp__law_take K)) {f : Addr} {fd : FuncData} (F : FunD K "_law_schedule" "_law_schedule" (defArgs s__law_schedule) (defBody s__law_schedule) (defScope s__law_schedule) [] [] f fd) : FnOk P w K mg base (L2.CX P w) 2 f fd ["_law_found", "_law_size"] (sp__law_schedule K) := by
  refine F.ok sc__law_schedule (fun vs H Q E h => len__law_schedule h) (fun cdv A outer s H vs Q E hr h => ⟨t__law_schedule K, PSs.nox ?_, rd__law_schedule vs H Q E h⟩)
  exact (pss_cons (ps_set (i := 2) sc__law_schedule.nd rfl (Or.inl rfl) (pe_op o_add (pe_def D__law_take (hr.mono (by decide)) rfl passL (pa_cons (pv 0) (pa_cons pe_int pa_nil))) (pe_def D__law_take (hr.mono (by decide)) rfl passL (pa_cons (pv 0) (pa_cons pe_int pa_nil)))))
    (pss_cons (ps_set (i := 3) sc__law_schedule.nd rfl (Or.inl rfl) (pe_def D__law_take (hr.mono (by decide)) rfl passL (pa_cons (pv 0) (pa_cons pe_int pa_nil))))
    (pss_cons (ps_set (i := 4) sc__law_schedule.nd rfl (Or.inl rfl) (pe_def D__law_take (hr.mono (by decide)) rfl passL (pa_cons (pv 0) (pa_cons (pv 1) pa_nil))))
    (pss_cons (ps_set (i := 5) sc__law_schedule.nd rfl (Or.inl rfl) (pe_lst pa_nil))
    (pss_cons (ps_for PassesOwn.never rfl (pi_range1 rfl T.b_range (pa_cons (pv 2) pa_nil)) (pg_name (i := 6) sc__law_schedule.nd rfl (Or.inl rfl))
    (pss_cons (ps_set (i := 7) sc__law_schedule.nd rfl (Or.inl rfl) (pe_def D__law_take (hr.mono (by decide)) rfl passL (pa_cons (pv 0) (pa_cons (pv 1) pa_nil))))
    (pss_cons (ps_if (PW.pt (pw_and (pt_c op_eq (pv 3) pe_int (nomark _)) (pw_and1 (pt_c o_gt (pe_def D__law_take (hr.mono (by decide)) rfl passL (pa_cons (pv 0) (pa_cons pe_int pa_nil))) pe_int (nomark _)))))
    (pss_one (ps_set (i := 7) sc__law_schedule.nd rfl (Or.inl rfl) (pv 4)))
    pss_nil)
    (pss_cons (ps_if (PW.pt (pw_and (pt_c op_eq (pv 3) pe_int (nomark _)) (pw_and1 (pt_c o_gt (pe_def D__law_take (hr.mono (by decide)) rfl passL (pa_cons (pv 0) (pa_cons pe_int pa_nil))) pe_int (nomark _)))))
    (pss_one (ps_set (i := 7) sc__law_schedule.nd rfl (Or.inl rfl) (pe_op o_mod (pe_callTy c_int rfl T.b_int bt_int (pa_cons (pe_op o_add (pv 4) (pe_op o_mod (pv 6) pe_int)) pa_nil)) (pv 1))))
    pss_nil)
    (pss_one (ps_expr (pe_bm PySem.F.plainAttrs_list PySem.F.slot_list_append PySem.F.type_list_append mt_append (pv 5) (pa_cons (pv 7) pa_nil))))))))
    (pss_one (ps_ret (pv 5))))))))
set_option maxHeartbeats 4000000 in
theorem ok__law_new (T : Tx P K mg) {f : Addr} {fd : FuncData} (F : FunD K "_law_new" "_law_new" (defArgs s__law_new) (defBody s__law_new) (defScope s__law_new) [] [] f fd) : FnOk P w K mg base (L2.CX P w) 1 f fd ["_law_size"] (sp__law_new K) := by
  refine F.ok sc__law_new (fun vs H Q E h => len__law_new h) (fun cdv A outer s H vs Q E hr h => ⟨t__law_new K, PSs.nox ?_, rd__law_new vs H Q E h⟩)
  exact (pss_one (ps_ret (pe_lc (own := [("_law_name", 1)]) (g := (gName 1)) (tt := tYes) rfl sc__law_new.nd (pi_range1 rfl T.b_range (pa_cons (pv 0) pa_nil)) (blkOk_by (own := [("_law_name", 1)]) (N := N__law_new) (sc := defScope s__law_new) (by decide +kernel)) (fun _ _ _ _ _ => (pg_name (i := 1) sc__law_new.nd rfl (Or.inl rfl))) (fun _ _ _ _ _ => pts_nil) (fun _ _ _ _ _ => (pe_lst (pa_cons (pe_op o_add (pv 0) pe_int) (pa_cons pe_int (pa_cons (pe_lst pa_nil) pa_nil))))))))
set_option maxHeartbeats 4000000 in
theorem ok__law_step (T : Tx P K mg) {f : Addr} {fd : FuncData} (F : FunD K "_law_step" "_law_step" (defArgs s__law_step) (defBody s__law_step) (defScope s__law_step) [] [] f fd) : FnOk P w K mg base (L2.CX P w) 1 f fd ["_law_state", "_law_cells", "_law_name"] (sp__law_step K) := by
  refine F.ok sc__law_step (fun vs H Q E h => len__law_step h) (fun cdv A outer s H vs Q E hr h => ⟨t__law_step K, PSs.nox ?_, rd__law_step vs H Q E h⟩)
  exact (pss_cons (ps_set (i := 3) sc__law_step.nd rfl (Or.inl rfl) (pe_callB c_len rfl T.b_len bt_len (pa_cons (pv 1) pa_nil)))
    (pss_cons (ps_set (i := 4) sc__law_step.nd rfl (Or.inl rfl) (pe_ix ix_seq (pv 0) (pv 2) (fun _ _ => rfl)))
    (pss_cons (ps_set (i := 5) sc__law_step.nd rfl (Or.inl rfl) (pe_op o_mod (pe_ix ix_seq (pv 4) pe_int (fun _ _ => rfl)) (pe_op o_add (pv 3) pe_int)))
    (pss_cons (ps_asg (pe_op o_add (pe_ix ix_seq (pv 4) pe_int (fun _ _ => rfl)) pe_int) (pg_sub (pv 4) pe_int set_list))
    (pss_cons (ps_if (pt_c op_eq (pv 5) pe_int (nomark _))
    (pss_cons (ps_asg (pe_op o_sub (pe_ix ix_seq (pv 4) pe_int (fun _ _ => rfl)) pe_int) (pg_sub (pv 4) pe_int set_list))
    (pss_cons (ps_asg (pe_ix ix_seq (pv 4) pe_int (fun _ _ => rfl)) (pg_sub (pv 1) (pv 2) set_list))
    (pss_cons (ps_asg (pe_lst pa_nil) (pg_sub (pv 4) pe_int set_list))
    (pss_one (ps_ret pe_non)))))
    pss_nil)
    (pss_cons (ps_if (pt_c o_le (pe_ix ix_seq (pv 1) (pe_op o_sub (pv 5) pe_int) (fun _ _ => rfl)) (pe_ix ix_seq (pv 4) pe_int (fun _ _ => rfl)) (nomark _))
    (pss_one (ps_expr (pe_bm PySem.F.plainAttrs_list PySem.F.slot_list_append PySem.F.type_list_append mt_append (pe_ix ix_seq (pv 4) pe_int (fun _ _ => rfl)) (pa_cons (pe_op o_sub (pv 5) pe_int) pa_nil))))
    pss_nil)
    (pss_cons (ps_if (PW.pt (pw_and (pt_c op_eq (pv 5) (pv 3) (nomark _)) (pw_and1 (pt_c o_ge (pe_callB c_len rfl T.b_len bt_len (pa_cons (pe_ix ix_seq (pv 4) pe_int (fun _ _ => rfl)) pa_nil)) (pe_ix ix_seq (pv 4) pe_int (fun _ _ => rfl)) (nomark _)))))
    (pss_one (ps_ret (pe_callTy c_tuple rfl T.b_tuple bt_tuple (pa_cons (pe_ix ix_seq (pv 4) pe_int (fun _ _ => rfl)) pa_nil))))
    pss_nil)
    (pss_one (ps_ret pe_non)))))))))
set_option maxHeartbeats 4000000 in
theorem ok__law_few_below (T : Tx P K mg) (D_Levels_level : Mok P w K mg base 3 (He.ga K "Levels") "level" ["self", "name"] (sp_Levels_level K)) {f : Addr} {fd : FuncData} (F : FunD K "_law_few_below" "_law_few_below" (defArgs s__law_few_below) (defBody s__law_few_below) (defScope s__law_few_below) [] [] f fd) : FnOk P w K mg base (L2.CX P w) 4 f fd ["_law_levels", "_law_size"] (sp__law_few_below K) := by
  refine F.ok sc__law_few_below (fun vs H Q E h => len__law_few_below h) (fun cdv A outer s H vs Q E hr h => ⟨t__law_few_below K, PSs.nox ?_, rd__law_few_below vs H Q E h⟩)
  exact (pss_cons (ps_setLc (i := 2) (own := [("_law_name", 4)]) (g := (gName 4)) (tt := tYes) rfl sc__law_few_below.nd rfl rfl (sw_true rfl rfl rfl (by decide +kernel)) (pi_range1 rfl T.b_range (pa_cons (pv 1) pa_nil)) (blkOk_by (own := [("_law_name", 4)]) (N := N__law_few_below) (sc := defScope s__law_few_below) (by decide +kernel)) (fun _ _ _ _ _ => (pg_name (i := 4) sc__law_few_below.nd rfl (Or.inl rfl))) (fun _ _ _ _ _ => pts_nil) (fun _ _ _ _ _ => (pe_mt D_Levels_level T.cl_Levels (hr.mono (by decide)) (pv 0) passL (pa_cons (pv 4) pa_nil))))
    (pss_cons (ps_for PassesOwn.never rfl (pi_range2 rfl T.b_range (pa_cons pe_int (pa_cons (pe_op o_add (pv 1) pe_int) pa_nil))) (pg_name (i := 3) sc__law_few_below.nd rfl (Or.inr rfl))
    (pss_one (ps_if (pt_c o_gt (pe_callB c_len rfl T.b_len bt_len (pa_cons (pe_lc (own := [("_law_low", 5)]) (g := (gName 5)) (tt := (tT (tOp nLe (tVar 5) (tVar 3)))) rfl sc__law_few_below.nd (pi_list (pv 2)) (blkOk_by (own := [("_law_low", 5)]) (N := N__law_few_below) (sc := defScope s__law_few_below) (by decide +kernel)) (fun _ _ _ _ _ => (pg_name (i := 5) sc__law_few_below.nd rfl (Or.inl rfl))) (fun _ _ _ _ _ => pts_one (pt_c o_le (pv 5) (pv 3) (nomark _))) (fun _ _ _ _ _ => (pv 5))) pa_nil)) (pv 3) (nomark _))
    (pss_one (ps_ret pe_bl))
    pss_nil)))
    (pss_one (ps_ret pe_bl))))
set_option maxHeartbeats 4000000 in
theorem ok__law_same (T : Tx P K mg) (D_Levels_wrote : Pok P w K mg base 1 (He.ga K "Levels") "wrote" (sp_Levels_wrote K)) (D_Levels_gone : Pok P w K mg base 1 (He.ga K "Levels") "gone" (sp_Levels_gone K)) (D_Levels_level : Mok P w K mg base 3 (He.ga K "Levels") "level" ["self", "name"] (sp_Levels_level K)) (D__law_int : Dok P w K mg base 1 "_law_int" ["_law_thing"] (sp__law_int K)) (D_Levels_taken : Mok P w K mg base 3 (He.ga K "Levels") "taken" ["self", "name"] (sp_Levels_taken K)) (D__law_few_below : Dok P w K mg base 4 "_law_few_below" ["_law_levels", "_law_size"] (sp__law_few_below K)) {f : Addr} {fd : FuncData} (F : FunD K "_law_same" "_law_same" (defArgs s__law_same) (defBody s__law_same) (defScope s__law_same) [] [] f fd) : FnOk P w K mg base (L2.CX P w) 5 f fd ["_law_levels", "_law_state", "_law_looks", "_law_size"] (sp__law_same K) := by
  refine F.ok sc__law_same (fun vs H Q E h => len__law_same h) (fun cdv A outer s H vs Q E hr h => ⟨t__law_same K, PSs.nox ?_, rd__law_same vs H Q E h⟩)
  exact (pss_cons (ps_set (i := 5) sc__law_same.nd rfl (Or.inl rfl) (pe_callTy c_tuple rfl T.b_tuple bt_tuple (pa_cons (pe_lc (own := [("_law_name", 4)]) (g := (gName 4)) (tt := (tT (tOp nGt (tOp (rIx K) (tOp (rIx K) (tVar 1) (tVar 4)) (tC (.int 1))) (tC (.int 0))))) rfl sc__law_same.nd (pi_range1 rfl T.b_range (pa_cons (pv 3) pa_nil)) (blkOk_by (own := [("_law_name", 4)]) (N := N__law_same) (sc := defScope s__law_same) (by decide +kernel)) (fun _ _ _ _ _ => (pg_name (i := 4) sc__law_same.nd rfl (Or.inl rfl))) (fun _ _ _ _ _ => pts_one (pt_c o_gt (pe_ix ix_seq (pe_ix ix_seq (pv 1) (pv 4) (fun _ _ => rfl)) pe_int (fun _ _ => rfl)) pe_int (nomark _))) (fun _ _ _ _ _ => (pv 4))) pa_nil)))
    (pss_cons (ps_if (PW.pt (pw_or (pt_c (op_neD hr.units) (pe_pr D_Levels_wrote T.cl_Levels (hr.mono (by decide)) (pv 0) passL rfl) (pv 5) (nomark _)) (pw_or1 (pt_c (op_neD hr.units) (pe_pr D_Levels_gone T.cl_Levels (hr.mono (by decide)) (pv 0) passL rfl) (pe_callTy c_tuple rfl T.b_tuple bt_tuple (pa_cons (pe_callB cr_sortedI rfl T.b_sorted bt_sorted (pa_cons (pe_callTy (call_list_dK rfl) rfl T.b_list bt_list (pa_cons (pv 2) pa_nil)) pa_nil)) pa_nil)) (nomark _)))))
    (pss_one (ps_ret pe_bl))
    pss_nil)
    (pss_cons (ps_for PassesOwn.never rfl (pi_range1 rfl T.b_range (pa_cons (pv 3) pa_nil)) (pg_name (i := 4) sc__law_same.nd rfl (Or.inl rfl))
    (pss_cons (ps_set (i := 6) sc__law_same.nd rfl (Or.inl rfl) (pe_mt D_Levels_level T.cl_Levels (hr.mono (by decide)) (pv 0) passL (pa_cons (pv 4) pa_nil)))
    (pss_one (ps_if (PW.pt (pw_or (pt_c (op_neD hr.units) (pv 6) (pe_ix ix_seq (pe_ix ix_seq (pv 1) (pv 4) (fun _ _ => rfl)) pe_int (fun _ _ => rfl)) (nomark _)) (pw_or (pt_not (pt_e (pe_def D__law_int (hr.mono (by decide)) rfl passL (pa_cons (pv 6) pa_nil)))) (pw_or1 (pt_c (op_neD hr.units) (pe_mt D_Levels_taken T.cl_Levels (hr.mono (by decide)) (pv 0) passL (pa_cons (pv 4) pa_nil)) (pe_ix ix_seq (pe_ix ix_seq (pv 1) (pv 4) (fun _ _ => rfl)) pe_int (fun _ _ => rfl)) (nomark _))))))
    (pss_one (ps_ret pe_bl))
    pss_nil))))
    (pss_one (ps_ret (pe_def D__law_few_below (hr.mono (by decide)) rfl passL (pa_cons (pv 0) (pa_cons (pv 3) pa_nil))))))))
set_option maxHeartbeats 4000000 in
theorem ok__law_within (T : Tx P K mg) {f : Addr} {fd : FuncData} (F : FunD K "_law_within" "_law_within" (defArgs s__law_within) (defBody s__law_within) (defScope s__law_within) [] [] f fd) : FnOk P w K mg base (L2.CX P w) 1 f fd ["_law_one", "_law_other"] (sp__law_within K) := by
  refine F.ok sc__law_within (fun vs H Q E h => len__law_within h) (fun cdv A outer s H vs Q E hr h => ⟨t__law_within K, PSs.nox ?_, rd__law_within vs H Q E h⟩)
  exact (pss_one (ps_ret (pe_callB (cr_all rfl) rfl T.b_all bt_all (pa_cons (pe_lc (own := [("_law_name", 2)]) (g := (gName 2)) (tt := tYes) rfl sc__law_within.nd (pi_tup (pv 0)) (blkOk_by (own := [("_law_name", 2)]) (N := N__law_within) (sc := defScope s__law_within) (by decide +kernel)) (fun _ _ _ _ _ => (pg_name (i := 2) sc__law_within.nd rfl (Or.inl rfl))) (fun _ _ _ _ _ => pts_nil) (fun _ _ _ _ _ => (pe_cmpR op_in_seq (pv 2) (pv 1) rfl))) pa_nil))))
set_option maxHeartbeats 4000000 in
theorem ok__law_looks_right (T : Tx P K mg) (D__law_within : Dok P w K mg base 1 "_law_within" ["_law_one", "_law_other"] (sp__law_within K)) {f : Addr} {fd : FuncData} (F : FunD K "_law_looks_right" "_law_looks_right" (defArgs s__law_looks_right) (defBody s__law_looks_right) (defScope s__law_looks_right) [] [] f fd) : FnOk P w K mg base (L2.CX P w) 2 f fd ["_law_looks", "_law_state", "_law_size"] (sp__law_looks_right K) := by
  refine F.ok sc__law_looks_right (fun vs H Q E h => len__law_looks_right h) (fun cdv A outer s H vs Q E hr h => ⟨t__law_looks_right K, PSs.nox ?_, rd__law_looks_right vs H Q E h⟩)
  exact (pss_cons (ps_lock (ps_for PassesOwn.never rfl (pi_keys (pv 0)) (pg_name (i := 3) sc__law_looks_right.nd rfl (Or.inl rfl))
    (pss_cons (ps_set (i := 4) sc__law_looks_right.nd rfl (Or.inr rfl) (pe_dget (hu_of hr) (pv 0) (pv 3) (fun _ _ => rfl)))
    (pss_cons (ps_if (PW.pt (pw_or (pt_c op_notIn_seq (pv 3) (pv 4) rfl) (pw_or1 (pt_c (op_neD hr.units) (pe_ix ix_seq (pe_ix ix_seq (pv 1) (pv 3) (fun _ _ => rfl)) pe_int (fun _ _ => rfl)) (pe_callB c_len rfl T.b_len bt_len (pa_cons (pv 4) pa_nil)) (nomark _)))))
    (pss_one (ps_ret pe_bl))
    pss_nil)
    (pss_cons (ps_if (pt_c (op_neD hr.units) (pe_ix ix_seq (pe_ix ix_seq (pv 1) (pv 3) (fun _ _ => rfl)) pe_int (fun _ _ => rfl)) (pe_op o_mul (pe_op o_sub (pe_op o_add (pv 2) pe_int) (pe_callB c_len rfl T.b_len bt_len (pa_cons (pv 4) pa_nil))) (pe_op o_add (pv 2) pe_int)) (nomark _))
    (pss_one (ps_ret pe_bl))
    pss_nil)
    (pss_cons (ps_if (pt_c (op_neD hr.units) (pv 4) (pe_callTy c_tuple rfl T.b_tuple bt_tuple (pa_cons (pe_lc (own := [("_law_other", 5)]) (g := (gName 5)) (tt := (tT (tOp nLe (tOp (rIx K) (tOp (rIx K) (tVar 1) (tVar 5)) (tC (.int 0))) (tCB (rcLen K) (tCons (tVar 4) tNil))))) rfl sc__law_looks_right.nd (pi_range1 rfl T.b_range (pa_cons (pv 2) pa_nil)) (blkOk_by (own := [("_law_other", 5)]) (N := N__law_looks_right) (sc := defScope s__law_looks_right) (by decide +kernel)) (fun _ _ _ _ _ => (pg_name (i := 5) sc__law_looks_right.nd rfl (Or.inl rfl))) (fun _ _ _ _ _ => pts_one (pt_c o_le (pe_ix ix_seq (pe_ix ix_seq (pv 1) (pv 5) (fun _ _ => rfl)) pe_int (fun _ _ => rfl)) (pe_callB c_len rfl T.b_len bt_len (pa_cons (pv 4) pa_nil)) (nomark _))) (fun _ _ _ _ _ => (pv 5))) pa_nil)) (nomark _))
    (pss_one (ps_ret pe_bl))
    pss_nil)
    (pss_one (ps_for PassesOwn.never rfl (pi_keys (pv 0)) (pg_name (i := 5) sc__law_looks_right.nd rfl (Or.inl rfl))
    (pss_cons (ps_if (PW.pt (pw_and (pt_not (pt_e (pe_def D__law_within (hr.mono (by decide)) rfl passL (pa_cons (pv 4) (pa_cons (pe_dget (hu_of hr) (pv 0) (pv 5) (fun _ _ => rfl)) pa_nil))))) (pw_and1 (pt_not (pt_e (pe_def D__law_within (hr.mono (by decide)) rfl passL (pa_cons (pe_dget (hu_of hr) (pv 0) (pv 5) (fun _ _ => rfl)) (pa_cons (pv 4) pa_nil))))))))
    (pss_one (ps_ret pe_bl))
    pss_nil)
    (pss_one (ps_if (PW.pt (pw_and (pt_c op_in_seq (pv 5) (pv 4) rfl) (pw_and1 (pt_not (pt_e (pe_def D__law_within (hr.mono (by decide)) rfl passL (pa_cons (pe_dget (hu_of hr) (pv 0) (pv 5) (fun _ _ => rfl)) (pa_cons (pv 4) pa_nil))))))))
    (pss_one (ps_ret pe_bl))
    pss_nil)))))))))))
    (pss_one (ps_ret pe_bl)))
set_option maxHeartbeats 4000000 in
theorem ok__law_blocks_due (T : Tx P K mg) {f : Addr} {fd : FuncData} (F : FunD K "_law_blocks_due" "_law_blocks_due" (defArgs s__law_blocks_due) (defBody s__law_blocks_due) (defScope s__law_blocks_due) [] [] f fd) : FnOk P w K mg base (L2.CX P w) 1 f fd ["_law_looks", "_law_wrote"] (sp__law_blocks_due K) := by
  refine F.ok sc__law_blocks_due (fun vs H Q E h => len__law_blocks_due h) (fun cdv A outer s H vs Q E hr h => ⟨t__law_blocks_due K, PSs.nox ?_, rd__law_blocks_due vs H Q E h⟩)
  exact (pss_cons (ps_set (i := 2) sc__law_blocks_due.nd rfl (Or.inl rfl) (pe_lst pa_nil))
    (pss_cons (ps_lock (ps_for PassesOwn.never rfl (pi_keys (pv 0)) (pg_name (i := 3) sc__law_blocks_due.nd rfl (Or.inl rfl))
    (pss_one (ps_if (pt_c (op_notInD (hu65 hr)) (pe_tup (pa_cons (pe_callB c_len rfl T.b_len bt_len (pa_cons (pe_dget (hu_of hr) (pv 0) (pv 3) (fun _ _ => rfl)) pa_nil)) (pa_cons (pe_dget (hu_of hr) (pv 0) (pv 3) (fun _ _ => rfl)) pa_nil))) (pv 2) rfl)
    (pss_one (ps_expr (pe_bm PySem.F.plainAttrs_list PySem.F.slot_list_append PySem.F.type_list_append mt_append (pv 2) (pa_cons (pe_tup (pa_cons (pe_callB c_len rfl T.b_len bt_len (pa_cons (pe_dget (hu_of hr) (pv 0) (pv 3) (fun _ _ => rfl)) pa_nil)) (pa_cons (pe_dget (hu_of hr) (pv 0) (pv 3) (fun _ _ => rfl)) pa_nil))) pa_nil))))
    pss_nil))))
    (pss_cons (ps_set (i := 4) sc__law_blocks_due.nd rfl (Or.inr rfl) (pe_lst pa_nil))
    (pss_cons (ps_set (i := 5) sc__law_blocks_due.nd rfl (Or.inl rfl) (pe_lst pa_nil))
    (pss_cons (ps_for PassesOwn.never rfl (pi_list (pe_callB (NwS.cr_sortedD hr.units) rfl T.b_sorted bt_sorted (pa_cons (pv 2) pa_nil))) (pg_name (i := 6) sc__law_blocks_due.nd rfl (Or.inl rfl))
    (pss_cons (ps_expr (pe_bm PySem.F.plainAttrs_list PySem.F.slot_list_append PySem.F.type_list_append mt_append (pv 5) (pa_cons (pe_callTy c_tuple rfl T.b_tuple bt_tuple (pa_cons (pe_lc (own := [("_law_name", 3)]) (g := (gName 3)) (tt := (tT (tOp (rNotInD K) (tVar 3) (tVar 4)))) rfl sc__law_blocks_due.nd (pi_tup (pe_ix ix_seq (pv 6) pe_int (fun _ _ => rfl))) (blkOk_by (own := [("_law_name", 3)]) (N := N__law_blocks_due) (sc := defScope s__law_blocks_due) (by decide +kernel)) (fun _ _ _ _ _ => (pg_name (i := 3) sc__law_blocks_due.nd rfl (Or.inl rfl))) (fun _ _ _ _ _ => pts_one (pt_c (op_notInD (hu65 hr)) (pv 3) (pv 4) rfl)) (fun _ _ _ _ _ => (pv 3))) pa_nil)) pa_nil)))
    (pss_one (ps_set (i := 4) sc__law_blocks_due.nd rfl (Or.inr rfl) (pe_callTy c_list rfl T.b_list bt_list (pa_cons (pe_ix ix_seq (pv 6) pe_int (fun _ _ => rfl)) pa_nil))))))
    (pss_cons (ps_set (i := 7) sc__law_blocks_due.nd rfl (Or.inl rfl) (pe_callTy c_tuple rfl T.b_tuple bt_tuple (pa_cons (pe_lc (own := [("_law_name", 3)]) (g := (gName 3)) (tt := (tT (tOp (rNotInD K) (tVar 3) (tVar 4)))) rfl sc__law_blocks_due.nd (pi_tup (pv 1)) (blkOk_by (own := [("_law_name", 3)]) (N := N__law_blocks_due) (sc := defScope s__law_blocks_due) (by decide +kernel)) (fun _ _ _ _ _ => (pg_name (i := 3) sc__law_blocks_due.nd rfl (Or.inl rfl))) (fun _ _ _ _ _ => pts_one (pt_c (op_notInD (hu65 hr)) (pv 3) (pv 4) rfl)) (fun _ _ _ _ _ => (pv 3))) pa_nil)))
    (pss_cons (ps_if (pt_c o_gt (pe_callB c_len rfl T.b_len bt_len (pa_cons (pv 7) pa_nil)) pe_int (nomark _))
    (pss_one (ps_expr (pe_bm PySem.F.plainAttrs_list PySem.F.slot_list_append PySem.F.type_list_append mt_append (pv 5) (pa_cons (pv 7) pa_nil))))
    pss_nil)
    (pss_one (ps_ret (pe_callTy c_tuple rfl T.b_tuple bt_tuple (pa_cons (pv 5) pa_nil)))))))))))
set_option maxHeartbeats 4000000 in
theorem ok__law_finish (T : Tx P K mg) (D__law_step : Dok P w K mg base 1 "_law_step" ["_law_state", "_law_cells", "_law_name"] (sp__law_step K)) (D_Levels_step : Mok P w K mg base 3 (He.ga K "Levels") "step" ["self", "name"] (sp_Levels_step K)) (D__law_looks_right : Dok P w K mg base 2 "_law_looks_right" ["_law_looks", "_law_state", "_law_size"] (sp__law_looks_right K)) (D__law_same : Dok P w K mg base 5 "_law_same" ["_law_levels", "_law_state", "_law_looks", "_law_size"] (sp__law_same K)) {f : Addr} {fd : FuncData} (F : FunD K "_law_finish" "_law_finish" (defArgs s__law_finish) (defBody s__law_finish) (defScope s__law_finish) [] [] f fd) : FnOk P w K mg base (L2.CX P w) 6 f fd ["_law_levels", "_law_state", "_law_cells", "_law_looks", "_law_size"] (sp__law_finish K) := by
  refine F.ok sc__law_finish (fun vs H Q E h => len__law_finish h) (fun cdv A outer s H vs Q E hr h => ⟨t__law_finish K, PSs.nox ?_, rd__law_finish vs H Q E h⟩)
  exact (pss_cons (ps_for PassesOwn.never rfl (pi_range1 rfl T.b_range (pa_cons (pe_op o_mul (pv 4) (pe_op o_add (pv 4) pe_int)) pa_nil)) (pg_name (i := 5) sc__law_finish.nd rfl (Or.inl rfl))
    (pss_one (ps_for PassesOwn.never rfl (pi_range1 rfl T.b_range (pa_cons (pv 4) pa_nil)) (pg_name (i := 6) sc__law_finish.nd rfl (Or.inl rfl))
    (pss_one (ps_if (pt_cmp (pc_dnotin (hu_of hr) (pv 6) (pv 3)))
    (pss_cons (ps_set (i := 7) sc__law_finish.nd rfl (Or.inl rfl) (pe_def D__law_step (hr.mono (by decide)) rfl passL (pa_cons (pv 1) (pa_cons (pv 2) (pa_cons (pv 6) pa_nil)))))
    (pss_cons (ps_if (pt_c (op_neD hr.units) (pe_mt D_Levels_step T.cl_Levels (hr.mono (by decide)) (pv 0) passL (pa_cons (pv 6) pa_nil)) (pv 7) (nomark _))
    (pss_one (ps_ret pe_bl))
    pss_nil)
    (pss_one (ps_if (pt_c o_notN (pv 7) pe_non (nomark _))
    (pss_one (ps_dput (hu_of hr) (pv 3) (pv 6) (pv 7) rfl))
    pss_nil))))
    pss_nil)))))
    (pss_one (ps_ret (pe_and (pe_cmpR op_eq (pe_callB call_lenD rfl T.b_len bt_len (pa_cons (pv 3) pa_nil)) (pv 4) (nomark _)) (pe_and (pe_def D__law_looks_right (hr.mono (by decide)) rfl passL (pa_cons (pv 3) (pa_cons (pv 1) (pa_cons (pv 4) pa_nil)))) (pe_one (pe_def D__law_same (hr.mono (by decide)) rfl passL (pa_cons (pv 0) (pa_cons (pv 1) (pa_cons (pv 3) (pa_cons (pv 4) pa_nil)))))))))))
set_option maxHeartbeats 4000000 in
theorem ok__law_walked (T : Tx P K mg) (D_Levels___init__ : Kok P w K mg base 4 (He.ga K "Levels") "Levels" ["self", "size"] (sp_Levels___init__ K)) (D__law_new : Dok P w K mg base 1 "_law_new" ["_law_size"] (sp__law_new K)) (D__law_refused : Dok P w K mg base 8 "_law_refused" ["_law_word", "_law_one", "_law_other"] (sp__law_refused K)) (D__law_step : Dok P w K mg base 1 "_law_step" ["_law_state", "_law_cells", "_law_name"] (sp__law_step K)) (D_Levels_step : Mok P w K mg base 3 (He.ga K "Levels") "step" ["self", "name"] (sp_Levels_step K)) (D__law_same : Dok P w K mg base 5 "_law_same" ["_law_levels", "_law_state", "_law_looks", "_law_size"] (sp__law_same K)) (D__law_looks_right : Dok P w K mg base 2 "_law_looks_right" ["_law_looks", "_law_state", "_law_size"] (sp__law_looks_right K)) (D_levels_run : Dok P w K mg base 6 "levels_run" ["size", "schedule"] (sp_levels_run K)) (D_levels_blocks : Dok P w K mg base 7 "levels_blocks" ["size", "schedule"] (sp_levels_blocks K)) (D__law_blocks_due : Dok P w K mg base 1 "_law_blocks_due" ["_law_looks", "_law_wrote"] (sp__law_blocks_due K)) (D__law_finish : Dok P w K mg base 6 "_law_finish" ["_law_levels", "_law_state", "_law_cells", "_law_looks", "_law_size"] (sp__law_finish K)) {f : Addr} {fd : FuncData} (F : FunD K "_law_walked" "_law_walked" (defArgs s__law_walked) (defBody s__law_walked) (defScope s__law_walked) [] [] f fd) : FnOk P w K mg base (L2.CX P w) 9 f fd ["_law_size", "_law_schedule_here"] (sp__law_walked K) := by
  refine F.ok sc__law_walked (fun vs H Q E h => len__law_walked h) (fun cdv A outer s H vs Q E hr h => ⟨t__law_walked K, PSs.nox ?_, rd__law_walked vs H Q E h⟩)
  exact (pss_cons (ps_set (i := 2) sc__law_walked.nd rfl (Or.inl rfl) (pe_mk D_Levels___init__ (hr.mono (by decide)) rfl passL (pa_cons (pv 0) pa_nil)))
    (pss_cons (ps_set (i := 3) sc__law_walked.nd rfl (Or.inl rfl) (pe_mk D_Levels___init__ (hr.mono (by decide)) rfl passL (pa_cons (pv 0) pa_nil)))
    (pss_cons (ps_set (i := 4) sc__law_walked.nd rfl (Or.inr rfl) (pe_def D__law_new (hr.mono (by decide)) rfl passL (pa_cons (pv 0) pa_nil)))
    (pss_cons (ps_setLc (i := 6) (own := [("_law_name", 5)]) (g := (gName 5)) (tt := tYes) rfl sc__law_walked.nd rfl rfl (sw_true rfl rfl rfl (by decide +kernel)) (pi_range1 rfl T.b_range (pa_cons (pv 0) pa_nil)) (blkOk_by (own := [("_law_name", 5)]) (N := N__law_walked) (sc := defScope s__law_walked) (by decide +kernel)) (fun _ _ _ _ _ => (pg_name (i := 5) sc__law_walked.nd rfl (Or.inl rfl))) (fun _ _ _ _ _ => pts_nil) (fun _ _ _ _ _ => (pe_op o_add (pv 0) pe_int)))
    (pss_cons (ps_set (i := 7) sc__law_walked.nd rfl (Or.inr rfl) pe_dnewK)
    (pss_cons (ps_for PassesOwn.never rfl (pi_list (pv 1)) (pg_name (i := 5) sc__law_walked.nd rfl (Or.inl rfl))
    (pss_cons (ps_if (pt_cmp (pc_din (hu_of hr) (pv 5) (pv 7)))
    (pss_one (ps_if (pt_c (op_neD hr.units) (pe_def D__law_refused (hr.mono (by decide)) rfl passL (pa_cons pe_str (pa_cons (pv 2) (pa_cons (pv 5) pa_nil)))) (pe_tup (pa_cons pe_str (pa_cons (pv 5) pa_nil))) (nomark _))
    (pss_one (ps_ret pe_bl))
    pss_nil))
    (pss_cons (ps_set (i := 8) sc__law_walked.nd rfl (Or.inl rfl) (pe_def D__law_step (hr.mono (by decide)) rfl passL (pa_cons (pv 4) (pa_cons (pv 6) (pa_cons (pv 5) pa_nil)))))
    (pss_cons (ps_if (pt_c (op_neD hr.units) (pe_mt D_Levels_step T.cl_Levels (hr.mono (by decide)) (pv 2) passL (pa_cons (pv 5) pa_nil)) (pv 8) (nomark _))
    (pss_one (ps_ret pe_bl))
    pss_nil)
    (pss_one (ps_if (pt_c o_notN (pv 8) pe_non (nomark _))
    (pss_one (ps_dput (hu_of hr) (pv 7) (pv 5) (pv 8) rfl))
    pss_nil)))))
    (pss_one (ps_if (pt_not (pt_e (pe_def D__law_same (hr.mono (by decide)) rfl passL (pa_cons (pv 2) (pa_cons (pv 4) (pa_cons (pv 7) (pa_cons (pv 0) pa_nil)))))))
    (pss_one (ps_ret pe_bl))
    pss_nil))))
    (pss_cons (ps_if (PW.pt (pw_or (pt_not (pt_e (pe_def D__law_same (hr.mono (by decide)) rfl passL (pa_cons (pv 3) (pa_cons (pe_def D__law_new (hr.mono (by decide)) rfl passL (pa_cons (pv 0) pa_nil)) (pa_cons pe_dnewK (pa_cons (pv 0) pa_nil))))))) (pw_or1 (pt_not (pt_e (pe_def D__law_looks_right (hr.mono (by decide)) rfl passL (pa_cons (pv 7) (pa_cons (pv 4) (pa_cons (pv 0) pa_nil)))))))))
    (pss_one (ps_ret pe_bl))
    pss_nil)
    (pss_cons (ps_set (i := 9) sc__law_walked.nd rfl (Or.inl rfl) (pe_callTy c_tuple rfl T.b_tuple bt_tuple (pa_cons (pe_lc (own := [("_law_name", 5)]) (g := (gName 5)) (tt := (tT (tOp nGt (tOp (rIx K) (tOp (rIx K) (tVar 4) (tVar 5)) (tC (.int 1))) (tC (.int 0))))) rfl sc__law_walked.nd (pi_range1 rfl T.b_range (pa_cons (pv 0) pa_nil)) (blkOk_by (own := [("_law_name", 5)]) (N := N__law_walked) (sc := defScope s__law_walked) (by decide +kernel)) (fun _ _ _ _ _ => (pg_name (i := 5) sc__law_walked.nd rfl (Or.inl rfl))) (fun _ _ _ _ _ => pts_one (pt_c o_gt (pe_ix ix_seq (pe_ix ix_seq (pv 4) (pv 5) (fun _ _ => rfl)) pe_int (fun _ _ => rfl)) pe_int (nomark _))) (fun _ _ _ _ _ => (pv 5))) pa_nil)))
    (pss_cons (ps_set (i := 10) sc__law_walked.nd rfl (Or.inl rfl) (pe_callTy c_list rfl T.b_list bt_list (pa_cons (pv 1) pa_nil)))
    (pss_cons (ps_set (i := 11) sc__law_walked.nd rfl (Or.inl rfl) (pe_def D_levels_run (hr.mono (by decide)) rfl passL (pa_cons (pv 0) (pa_cons (pv 1) pa_nil))))
    (pss_cons (ps_if (PW.pt (pw_or (pt_c (op_neD hr.units) (pv 11) (pe_tup (pa_cons (pv 9) (pa_cons (pe_callTy c_tuple rfl T.b_tuple bt_tuple (pa_cons (pe_lc (own := [("_law_name", 5)]) (g := (gName 5)) (tt := tYes) rfl sc__law_walked.nd (pi_list (pe_callB cr_sortedI rfl T.b_sorted bt_sorted (pa_cons (pe_callTy (call_list_dK rfl) rfl T.b_list bt_list (pa_cons (pv 7) pa_nil)) pa_nil))) (blkOk_by (own := [("_law_name", 5)]) (N := N__law_walked) (sc := defScope s__law_walked) (by decide +kernel)) (fun _ _ _ _ _ => (pg_name (i := 5) sc__law_walked.nd rfl (Or.inl rfl))) (fun _ _ _ _ _ => pts_nil) (fun _ _ _ _ _ => (pe_tup (pa_cons (pv 5) (pa_cons (pe_dget (hu_of hr) (pv 7) (pv 5) (fun _ _ => rfl)) pa_nil))))) pa_nil)) pa_nil))) (nomark _)) (pw_or1 (pt_c (op_neD hr.units) (pv 1) (pv 10) (nomark _)))))
    (pss_one (ps_ret pe_bl))
    pss_nil)
    (pss_cons (ps_set (i := 12) sc__law_walked.nd rfl (Or.inl rfl) (pe_def D_levels_blocks (hr.mono (by decide)) rfl passL (pa_cons (pv 0) (pa_cons (pe_callTy c_tuple rfl T.b_tuple bt_tuple (pa_cons (pv 1) pa_nil)) pa_nil))))
    (pss_cons (ps_if (pt_c (op_neD hr.units) (pv 12) (pe_def D__law_blocks_due (hr.mono (by decide)) rfl passL (pa_cons (pv 7) (pa_cons (pv 9) pa_nil))) (nomark _))
    (pss_one (ps_ret pe_bl))
    pss_nil)
    (pss_cons (ps_for PassesOwn.never rfl (pi_range1 rfl T.b_range (pa_cons (pe_callB c_len rfl T.b_len bt_len (pa_cons (pv 12) pa_nil)) pa_nil)) (pg_name (i := 13) sc__law_walked.nd rfl (Or.inl rfl))
    (pss_cons (ps_set (i := 14) sc__law_walked.nd rfl (Or.inl rfl) (pe_lst pa_nil))
    (pss_cons (ps_for PassesOwn.never rfl (pi_tup (pe_slice sl_tupA (pv 12) po_none (po_some (pe_op o_add (pv 13) pe_int)))) (pg_name (i := 15) sc__law_walked.nd rfl (Or.inl rfl))
    (pss_one (ps_set (i := 14) sc__law_walked.nd rfl (Or.inl rfl) (pe_op op_cat (pv 14) (pe_callTy c_list rfl T.b_list bt_list (pa_cons (pv 15) pa_nil))))))
    (pss_one (ps_for PassesOwn.never rfl (pi_tup (pe_ix ix_seq (pv 12) (pv 13) (fun _ _ => rfl))) (pg_name (i := 5) sc__law_walked.nd rfl (Or.inl rfl))
    (pss_one (ps_if (PW.pt (pw_and (pt_cmp (pc_din (hu_of hr) (pv 5) (pv 7))) (pw_and1 (pt_c (op_neD hr.units) (pe_dget (hu_of hr) (pv 7) (pv 5) (fun _ _ => rfl)) (pe_callTy c_tuple rfl T.b_tuple bt_tuple (pa_cons (pe_callB cr_sortedI rfl T.b_sorted bt_sorted (pa_cons (pv 14) pa_nil)) pa_nil)) (nomark _)))))
    (pss_one (ps_ret pe_bl))
    pss_nil)))))))
    (pss_one (ps_ret (pe_def D__law_finish (hr.mono (by decide)) rfl passL (pa_cons (pv 2) (pa_cons (pv 4) (pa_cons (pv 6) (pa_cons (pv 7) (pa_cons (pv 0) pa_nil))))))))))))))))))))))
set_option maxHeartbeats 4000000 in
theorem ok__law_all_refused (T : Tx P K mg) (D__law_take : Dok P w K mg base 1 "_law_take" ["_law_found", "_law_many"] (sp__law_take K)) (D_Levels___init__ : Kok P w K mg base 4 (He.ga K "Levels") "Levels" ["self", "size"] (sp_Levels___init__ K)) (D__law_refused : Dok P w K mg base 8 "_law_refused" ["_law_word", "_law_one", "_law_other"] (sp__law_refused K)) (D_Levels_wrote : Pok P w K mg base 1 (He.ga K "Levels") "wrote" (sp_Levels_wrote K)) (D_Levels_gone : Pok P w K mg base 1 (He.ga K "Levels") "gone" (sp_Levels_gone K)) (D_levels_run : Dok P w K mg base 6 "levels_run" ["size", "schedule"] (sp_levels_run K)) (D_levels_blocks : Dok P w K mg base 7 "levels_blocks" ["size", "schedule"] (sp_levels_blocks K)) {f : Addr} {fd : FuncData} (F : FunD K "_law_all_refused" "_law_all_refused" (defArgs s__law_all_refused) (defBody s__law_all_refused) (defScope s__law_all_refused) [] [] f fd) : FnOk P w K mg base (L2.CX P w) 9 f fd ["_law_found", "_law_size", "_law_schedule_here"] (sp__law_all_refused K) := by
  refine F.ok sc__law_all_refused (fun vs H Q E h => len__law_all_refused h) (fun cdv A outer s H vs Q E hr h => ⟨t__law_all_refused K, PSs.nox ?_, rd__law_all_refused vs H Q E h⟩)
  exact (pss_cons (ps_set (i := 3) sc__law_all_refused.nd rfl (Or.inl rfl) (pe_ix ix_seq (pe_lst (pa_cons pe_int (pa_cons (pe_un u_neg pe_int) (pa_cons pe_int (pa_cons pe_non (pa_cons pe_bl (pa_cons pe_str pa_nil))))))) (pe_def D__law_take (hr.mono (by decide)) rfl passL (pa_cons (pv 0) (pa_cons pe_int pa_nil))) (fun _ _ => rfl)))
    (pss_cons (ps_set (i := 4) sc__law_all_refused.nd rfl (Or.inl rfl) (pe_ix ix_seq (pe_lst (pa_cons (pe_un u_neg pe_int) (pa_cons pe_non (pa_cons pe_bl (pa_cons (pv 1) (pa_cons pe_str (pa_cons (pe_op o_add (pv 1) pe_int) pa_nil))))))) (pe_def D__law_take (hr.mono (by decide)) rfl passL (pa_cons (pv 0) (pa_cons pe_int pa_nil))) (fun _ _ => rfl)))
    (pss_cons (ps_set (i := 5) sc__law_all_refused.nd rfl (Or.inl rfl) (pe_mk D_Levels___init__ (hr.mono (by decide)) rfl passL (pa_cons (pv 1) pa_nil)))
    (pss_cons (ps_if (pt_c (op_neD hr.units) (pe_def D__law_refused (hr.mono (by decide)) rfl passL (pa_cons pe_str (pa_cons (pv 3) (pa_cons pe_int pa_nil)))) (pe_tup (pa_cons pe_str (pa_cons pe_str pa_nil))) (nomark _))
    (pss_one (ps_ret pe_bl))
    pss_nil)
    (pss_cons (ps_for PassesOwn.never rfl (pi_list (pe_lst (pa_cons pe_str (pa_cons pe_str (pa_cons pe_str pa_nil))))) (pg_name (i := 6) sc__law_all_refused.nd rfl (Or.inl rfl))
    (pss_one (ps_if (pt_c (op_neD hr.units) (pe_def D__law_refused (hr.mono (by decide)) rfl passL (pa_cons (pv 6) (pa_cons (pv 5) (pa_cons (pv 4) pa_nil)))) (pe_tup (pa_cons pe_str (pa_cons (pv 4) pa_nil))) (nomark _))
    (pss_one (ps_ret pe_bl))
    pss_nil)))
    (pss_cons (ps_if (PW.pt (pw_or (pt_c (op_neD hr.units) (pe_pr D_Levels_wrote T.cl_Levels (hr.mono (by decide)) (pv 5) passL rfl) (pe_tup pa_nil) (nomark _)) (pw_or1 (pt_c (op_neD hr.units) (pe_pr D_Levels_gone T.cl_Levels (hr.mono (by decide)) (pv 5) passL rfl) (pe_tup pa_nil) (nomark _)))))
    (pss_one (ps_ret pe_bl))
    pss_nil)
    (pss_cons (ps_set (i := 7) sc__law_all_refused.nd rfl (Or.inl rfl) (pe_op op_cat (pe_op op_cat (pe_callTy c_list rfl T.b_list bt_list (pa_cons (pv 2) pa_nil)) (pe_lst (pa_cons (pv 4) (pa_cons (pe_un u_neg pe_int) pa_nil)))) (pe_callTy c_list rfl T.b_list bt_list (pa_cons (pv 2) pa_nil))))
    (pss_cons (ps_for PassesOwn.never rfl (pi_list (pe_lst (pa_cons pe_str (pa_cons pe_str pa_nil)))) (pg_name (i := 6) sc__law_all_refused.nd rfl (Or.inl rfl))
    (pss_cons (ps_if (PW.pt (pw_or (pt_c (op_neD hr.units) (pe_def D__law_refused (hr.mono (by decide)) rfl passL (pa_cons (pv 6) (pa_cons (pv 1) (pa_cons (pv 7) pa_nil)))) (pe_tup (pa_cons pe_str (pa_cons (pv 4) pa_nil))) (nomark _)) (pw_or1 (pt_c (op_neD hr.units) (pe_def D__law_refused (hr.mono (by decide)) rfl passL (pa_cons (pv 6) (pa_cons (pv 3) (pa_cons (pv 7) pa_nil)))) (pe_tup (pa_cons pe_str (pa_cons pe_str pa_nil))) (nomark _)))))
    (pss_one (ps_ret pe_bl))
    pss_nil)
    (pss_cons (ps_if (pt_c (op_neD hr.units) (pe_def D__law_refused (hr.mono (by decide)) rfl passL (pa_cons (pv 6) (pa_cons (pv 1) (pa_cons (pe_ix ix_seq (pe_lst (pa_cons pe_non (pa_cons pe_int (pa_cons pe_str pa_nil)))) (pe_def D__law_take (hr.mono (by decide)) rfl passL (pa_cons (pv 0) (pa_cons pe_int pa_nil))) (fun _ _ => rfl)) pa_nil)))) (pe_tup (pa_cons pe_str (pa_cons (pe_un u_neg pe_int) pa_nil))) (nomark _))
    (pss_one (ps_ret pe_bl))
    pss_nil)
    (pss_one (ps_if (pt_c (op_neD hr.units) (pe_def D__law_refused (hr.mono (by decide)) rfl passL (pa_cons (pv 6) (pa_cons (pv 3) (pa_cons pe_non pa_nil)))) (pe_tup (pa_cons pe_str (pa_cons pe_str pa_nil))) (nomark _))
    (pss_one (ps_ret pe_bl))
    pss_nil)))))
    (pss_one (ps_ret (pe_and (pe_cmpR (op_eqD hr.units) (pe_def D_levels_run (hr.mono (by decide)) rfl passL (pa_cons (pv 1) (pa_cons (pe_lst pa_nil) pa_nil))) (pe_tup (pa_cons (pe_tup pa_nil) (pa_cons (pe_tup pa_nil) pa_nil))) (nomark _)) (pe_one (pe_cmpR (op_eqD hr.units) (pe_def D_levels_blocks (hr.mono (by decide)) rfl passL (pa_cons (pv 1) (pa_cons (pe_tup pa_nil) pa_nil))) (pe_tup pa_nil) (nomark _))))))))))))))
set_option maxHeartbeats 4000000 in
theorem ok_law (T : Tx P K mg) (D__law_drawn : Dok P w K mg base 1 "_law_drawn" ["_law_script"] (sp__law_drawn K)) (D__law_take : Dok P w K mg base 1 "_law_take" ["_law_found", "_law_many"] (sp__law_take K)) (D__law_schedule : Dok P w K mg base 2 "_law_schedule" ["_law_found", "_law_size"] (sp__law_schedule K)) (D__law_walked : Dok P w K mg base 9 "_law_walked" ["_law_size", "_law_schedule_here"] (sp__law_walked K)) (D__law_all_refused : Dok P w K mg base 9 "_law_all_refused" ["_law_found", "_law_size", "_law_schedule_here"] (sp__law_all_refused K)) {f : Addr} {fd : FuncData} (F : FunD K "law" "law" (defArgs s_law) (defBody s_law) (defScope s_law) [] [] f fd) : FnOk P w K mg base CX0 10 f fd ["_law_script"] (sp_law K) := by
  refine F.ok sc_law (fun vs H Q E h => len_law h) (fun cdv A outer s H vs Q E hr h => ⟨t_law K, PSs.nox ?_, rd_law vs H Q E h⟩)
  exact (pss_cons (ps_set (i := 1) sc_law.nd rfl (Or.inl rfl) (pe_def D__law_drawn (hr.mono (by decide)) rfl passL (pa_cons (pv 0) pa_nil)))
    (pss_cons (ps_set (i := 2) sc_law.nd rfl (Or.inl rfl) (pe_op o_add pe_int (pe_def D__law_take (hr.mono (by decide)) rfl passL (pa_cons (pv 1) (pa_cons pe_int pa_nil)))))
    (pss_cons (ps_if (PW.pt (pw_and (pt_c op_eq (pv 2) pe_int (nomark _)) (pw_and1 (pt_c op_eq (pe_def D__law_take (hr.mono (by decide)) rfl passL (pa_cons (pv 1) (pa_cons pe_int pa_nil))) pe_int (nomark _)))))
    (pss_one (ps_set (i := 2) sc_law.nd rfl (Or.inl rfl) (pe_op o_add pe_int (pe_def D__law_take (hr.mono (by decide)) rfl passL (pa_cons (pv 1) (pa_cons pe_int pa_nil))))))
    pss_nil)
    (pss_cons (ps_set (i := 3) sc_law.nd rfl (Or.inl rfl) (pe_def D__law_schedule (hr.mono (by decide)) rfl passL (pa_cons (pv 1) (pa_cons (pv 2) pa_nil))))
    (pss_one (ps_ret (pe_and (pe_def D__law_walked (hr.mono (by decide)) rfl passL (pa_cons (pv 2) (pa_cons (pv 3) pa_nil))) (pe_one (pe_def D__law_all_refused (hr.mono (by decide)) rfl passL (pa_cons (pv 1) (pa_cons (pv 2) (pa_cons (pv 3) pa_nil))))))))))))
end
end K07
end
section
set_option Elab.async false
set_option linter.all false
set_option maxRecDepth 100000
set_option maxHeartbeats 0
/-! the head and the end, printed by gen.py -/
namespace K07
open PySem PySem.Spec PyProof.Rows L2 Nw
def dd_is_int : NwH.FnA := { at_ := fun K => He.fAd K ("is_int", none), name := "is_int", qual := "is_int", params := defArgs s_is_int, body := defBody s_is_int, scope := defScope s_is_int }
def dd_is_row : NwH.FnA := { at_ := fun K => He.fAd K ("is_row", none), name := "is_row", qual := "is_row", params := defArgs s_is_row, body := defBody s_is_row, scope := defScope s_is_row }
def dd_check_number : NwH.FnA := { at_ := fun K => He.fAd K ("check_number", none), name := "check_number", qual := "check_number", params := defArgs s_check_number, body := defBody s_check_number, scope := defScope s_check_number }
def dd_check_levels : NwH.FnA := { at_ := fun K => He.fAd K ("check_levels", none), name := "check_levels", qual := "check_levels", params := defArgs s_check_levels, body := defBody s_check_levels, scope := defScope s_check_levels }
def dd_Levels___init__ : NwH.FnA := { at_ := fun K => He.fAd K ("Levels", some "__init__"), name := "__init__", qual := "Levels.__init__", params := defArgs s_Levels___init__, body := defBody s_Levels___init__, scope := defScope s_Levels___init__ }
def dd_Levels_wrote : NwH.FnA := { at_ := fun K => NwH.prGet K "Levels" "wrote", name := "wrote", qual := "Levels.wrote", params := defArgs s_Levels_wrote, body := defBody s_Levels_wrote, scope := defScope s_Levels_wrote }
def dd_Levels_gone : NwH.FnA := { at_ := fun K => NwH.prGet K "Levels" "gone", name := "gone", qual := "Levels.gone", params := defArgs s_Levels_gone, body := defBody s_Levels_gone, scope := defScope s_Levels_gone }
def dd_Levels__known : NwH.FnA := { at_ := fun K => He.fAd K ("Levels", some "_known"), name := "_known", qual := "Levels._known", params := defArgs s_Levels__known, body := defBody s_Levels__known, scope := defScope s_Levels__known }
def dd_Levels_level : NwH.FnA := { at_ := fun K => He.fAd K ("Levels", some "level"), name := "level", qual := "Levels.level", params := defArgs s_Levels_level, body := defBody s_Levels_level, scope := defScope s_Levels_level }
def dd_Levels_taken : NwH.FnA := { at_ := fun K => He.fAd K ("Levels", some "taken"), name := "taken", qual := "Levels.taken", params := defArgs s_Levels_taken, body := defBody s_Levels_taken, scope := defScope s_Levels_taken }
def dd_Levels_step : NwH.FnA := { at_ := fun K => He.fAd K ("Levels", some "step"), name := "step", qual := "Levels.step", params := defArgs s_Levels_step, body := defBody s_Levels_step, scope := defScope s_Levels_step }
def dd_check_schedule : NwH.FnA := { at_ := fun K => He.fAd K ("check_schedule", none), name := "check_schedule", qual := "check_schedule", params := defArgs s_check_schedule, body := defBody s_check_schedule, scope := defScope s_check_schedule }
def dd_levels_run : NwH.FnA := { at_ := fun K => He.fAd K ("levels_run", none), name := "levels_run", qual := "levels_run", params := defArgs s_levels_run, body := defBody s_levels_run, scope := defScope s_levels_run }
def dd_levels_blocks : NwH.FnA := { at_ := fun K => He.fAd K ("levels_blocks", none), name := "levels_blocks", qual := "levels_blocks", params := defArgs s_levels_blocks, body := defBody s_levels_blocks, scope := defScope s_levels_blocks }
def dd__law_drawn : NwH.FnA := { at_ := fun K => He.fAd K ("_law_drawn", none), name := "_law_drawn", qual := "_law_drawn", params := defArgs s__law_drawn, body := defBody s__law_drawn, scope := defScope s__law_drawn }
def dd__law_take : NwH.FnA := { at_ := fun K => He.fAd K ("_law_take", none), name := "_law_take", qual := "_law_take", params := defArgs s__law_take, body := defBody s__law_take, scope := defScope s__law_take }
def dd__law_int : NwH.FnA := { at_ := fun K => He.fAd K ("_law_int", none), name := "_law_int", qual := "_law_int", params := defArgs s__law_int, body := defBody s__law_int, scope := defScope s__law_int }
def dd__law_refused : NwH.FnA := { at_ := fun K => He.fAd K ("_law_refused", none), name := "_law_refused", qual := "_law_refused", params := defArgs s__law_refused, body := defBody s__law_refused, scope := defScope s__law_refused }
def dd__law_schedule : NwH.FnA := { at_ := fun K => He.fAd K ("_law_schedule", none), name := "_law_schedule", qual := "_law_schedule", params := defArgs s__law_schedule, body := defBody s__law_schedule, scope := defScope s__law_schedule }
def dd__law_new : NwH.FnA := { at_ := fun K => He.fAd K ("_law_new", none), name := "_law_new", qual := "_law_new", params := defArgs s__law_new, body := defBody s__law_new, scope := defScope s__law_new }
def dd__law_step : NwH.FnA := { at_ := fun K => He.fAd K ("_law_step", none), name := "_law_step", qual := "_law_step", params := defArgs s__law_step, body := defBody s__law_step, scope := defScope s__law_step }
def dd__law_few_below : NwH.FnA := { at_ := fun K => He.fAd K ("_law_few_below", none), name := "_law_few_below", qual := "_law_few_below", params := defArgs s__law_few_below, body := defBody s__law_few_below, scope := defScope s__law_few_below }
def dd__law_same : NwH.FnA := { at_ := fun K => He.fAd K ("_law_same", none), name := "_law_same", qual := "_law_same", params := defArgs s__law_same, body := defBody s__law_same, scope := defScope s__law_same }
def dd__law_within : NwH.FnA := { at_ := fun K => He.fAd K ("_law_within", none), name := "_law_within", qual := "_law_within", params := defArgs s__law_within, body := defBody s__law_within, scope := defScope s__law_within }
def dd__law_looks_right : NwH.FnA := { at_ := fun K => He.fAd K ("_law_looks_right", none), name := "_law_looks_right", qual := "_law_looks_right", params := defArgs s__law_looks_right, body := defBody s__law_looks_right, scope := defScope s__law_looks_right }
def dd__law_blocks_due : NwH.FnA := { at_ := fun K => He.fAd K ("_law_blocks_due", none), name := "_law_blocks_due", qual := "_law_blocks_due", params := defArgs s__law_blocks_due, body := defBody s__law_blocks_due, scope := defScope s__law_blocks_due }
def dd__law_finish : NwH.FnA := { at_ := fun K => He.fAd K ("_law_finish", none), name := "_law_finish", qual := "_law_finish", params := defArgs s__law_finish, body := defBody s__law_finish, scope := defScope s__law_finish }
def dd__law_walked : NwH.FnA := { at_ := fun K => He.fAd K ("_law_walked", none), name := "_law_walked", qual := "_law_walked", params := defArgs s__law_walked, body := defBody s__law_walked, scope := defScope s__law_walked }
def dd__law_all_refused : NwH.FnA := { at_ := fun K => He.fAd K ("_law_all_refused", none), name := "_law_all_refused", qual := "_law_all_refused", params := defArgs s__law_all_refused, body := defBody s__law_all_refused, scope := defScope s__law_all_refused }
def dd_law : NwH.FnA := { at_ := fun K => He.fAd K ("law", none), name := "law", qual := "law", params := defArgs s_law, body := defBody s_law, scope := defScope s_law }
abbrev s_BadName__init__ : Stmt := inClass (top 2) 0
def de_BadName : NwH.ErrD := ⟨"BadName", "BadName.__init__", defArgs s_BadName__init__, defBody s_BadName__init__, defScope s_BadName__init__, ps_BadName⟩
abbrev s_BadNumber__init__ : Stmt := inClass (top 3) 0
def de_BadNumber : NwH.ErrD := ⟨"BadNumber", "BadNumber.__init__", defArgs s_BadNumber__init__, defBody s_BadNumber__init__, defScope s_BadNumber__init__, ps_BadNumber⟩
def row : NwH.Row := { fb := [fun K => (He.Fa.free "isinstance").ok K, fun K => (He.Fa.free "int").ok K, fun K => (He.Fa.free "bool").ok K, fun K => (He.Fa.free "tuple").ok K, fun K => (He.Fa.free "list").ok K, fun K => (He.Fa.free "range").ok K, fun K => (He.Fa.free "len").ok K, fun K => (He.Fa.free "sorted").ok K, fun K => (He.Fa.free "set").ok K, fun K => (He.Fa.free "min").ok K, fun K => (He.Fa.free "all").ok K, fun K => (He.Fa.glo "is_int").ok K, fun K => (He.Fa.glo "is_row").ok K, fun K => (He.Fa.glo "check_number").ok K, fun K => (He.Fa.glo "check_levels").ok K, fun K => (He.Fa.glo "check_schedule").ok K, fun K => (He.Fa.glo "levels_run").ok K, fun K => (He.Fa.glo "levels_blocks").ok K, fun K => (He.Fa.glo "_law_drawn").ok K, fun K => (He.Fa.glo "_law_take").ok K, fun K => (He.Fa.glo "_law_int").ok K, fun K => (He.Fa.glo "_law_refused").ok K, fun K => (He.Fa.glo "_law_schedule").ok K, fun K => (He.Fa.glo "_law_new").ok K, fun K => (He.Fa.glo "_law_step").ok K, fun K => (He.Fa.glo "_law_few_below").ok K, fun K => (He.Fa.glo "_law_same").ok K, fun K => (He.Fa.glo "_law_within").ok K, fun K => (He.Fa.glo "_law_looks_right").ok K, fun K => (He.Fa.glo "_law_blocks_due").ok K, fun K => (He.Fa.glo "_law_finish").ok K, fun K => (He.Fa.glo "_law_walked").ok K, fun K => (He.Fa.glo "_law_all_refused").ok K, fun K => (He.Fa.glo "law").ok K, fun K => (He.Fa.glo "BadName").ok K, fun K => (He.Fa.glo "BadNumber").ok K, fun K => (He.Fa.free "super").ok K, fun K => decide (PySem.W.exmOne K (.ref (He.ga K "BadName")) (.ref (He.ga K "BadName")) = some true), fun K => decide (PySem.W.exmOne K (.ref (He.ga K "BadNumber")) (.ref (He.ga K "BadName")) = some false), fun K => decide (PySem.W.exmOne K (.ref (He.ga K "BadNumber")) (.ref (He.ga K "BadNumber")) = some true), fun K => (He.Fa.int "MOST_SIZE" 6).ok K, fun K => (He.Fa.glo "TaskError").ok K, fun K => (He.Fa.glo "Levels").ok K, fun K => (He.Fa.cls "Levels").ok K, fun K => (He.Fa.noat "Levels" "_size").ok K, fun K => (He.Fa.noat "Levels" "_cells").ok K, fun K => (He.Fa.noat "Levels" "_low").ok K, fun K => (He.Fa.noat "Levels" "_taken").ok K, fun K => (He.Fa.noat "Levels" "_seen").ok K, fun K => (He.Fa.noat "Levels" "_looks").ok K, fun K => (He.Fa.mkr "Levels").ok K, fun K => NwH.prB K "Levels" "wrote", fun K => NwH.prB K "Levels" "gone", fun K => (He.Fa.meth "Levels" "_known").ok K, fun K => (He.Fa.meth "Levels" "level").ok K, fun K => (He.Fa.meth "Levels" "taken").ok K, fun K => (He.Fa.meth "Levels" "step").ok K], fn := [dd_is_int, dd_is_row, dd_check_number, dd_check_levels, dd_Levels___init__, dd_Levels_wrote, dd_Levels_gone, dd_Levels__known, dd_Levels_level, dd_Levels_taken, dd_Levels_step, dd_check_schedule, dd_levels_run, dd_levels_blocks, dd__law_drawn, dd__law_take, dd__law_int, dd__law_refused, dd__law_schedule, dd__law_new, dd__law_step, dd__law_few_below, dd__law_same, dd__law_within, dd__law_looks_right, dd__law_blocks_due, dd__law_finish, dd__law_walked, dd__law_all_refused, dd_law], er := [de_BadName, de_BadNumber], file := "/claim/cut.py" }
abbrev R : PySem.W.OpenRow := PySem.W.OpenLaw.row PySem.Challenge.rw_nowaittasks_k07_whole_levels_any_schedul
abbrev hk : PySem.W.Hook := row.hook 6
def ob (s : PySem.W.SharedT) : NwH.Al := row.obsG 6 (HandSHeadRun.getT s)
theorem ob_eq (s : PySem.W.SharedT) : ob s = hk.obs s.abs := row.obs_eq (HandSHeadRun.getT_eq s)
def loose : List Str := (["TaskError", "BadName", "BadNumber", "is_int", "is_row", "check_number", "MOST_SIZE", "check_levels", "Levels", "check_schedule", "levels_run", "levels_blocks", "_law_drawn", "_law_take", "_law_int", "_law_refused", "_law_schedule", "_law_new", "_law_step", "_law_few_below", "_law_same", "_law_within", "_law_looks_right", "_law_blocks_due", "_law_walked", "_law_finish", "_law_all_refused"] : List Str)
theorem run (w : World) : HandSHeadRun.RunEq R (PySem.W.view R.prog [31]) hk ob 6000 loose w := by
  intro os
  kernel_rfl
theorem es_BadName : NwX.ErrS "BadName.__init__" (defArgs s_BadName__init__) (defBody s_BadName__init__) (defScope s_BadName__init__) ps_BadName := ⟨by decide +kernel, rfl, rfl, rfl, by decide +kernel, by decide +kernel, by decide +kernel, by decide +kernel, ⟨_, rfl, rfl⟩, by decide +kernel, fun _ _ _ _ _ _ _ us hl => match us, hl with | [_, _], _ => rfl⟩
theorem eo_BadName {K : PySem.W.Frag} {mg : Str → Option Value} (gC : mg "BadName" = some (.ref (He.ga K "BadName"))) (gS : mg "super" = none) (h : NwX.ErrK R.prog K (He.ga K "BadName") (NwH.initAt K "BadName") "BadName.__init__" (defArgs s_BadName__init__) (defBody s_BadName__init__) (defScope s_BadName__init__) ∧ ∀ p ∈ ps_BadName, PySem.W.findIn K (.ref (He.ga K "BadName")) p = some none) :
    ErrOk R.prog K mg "BadName" (He.ga K "BadName") ps_BadName ok_BadName := by
  obtain ⟨e, p0, p1, p2, p3, p4, hb, hc, x, j, p, hm⟩ : ∃ e p0 p1 p2 p3 p4, NwX.BodyIs e p0 p1 p2 p3 p4 (defBody s_BadName__init__) ps_BadName ∧ (∀ fI L cda cc : Addr, NwX.CallOk (PySem.W.envX "BadName.__init__" (defScope s_BadName__init__) L fI (.ref cda) [("__class__", cc)]) e p0 p1 p2 p3 p4) ∧ ∃ x j p, e = .Constant (.str x) j p :=
    ⟨_, _, _, _, _, _, ⟨_, _, _, _, rfl⟩, fun fI L cda cc => ⟨⟨_, rfl⟩, rfl, rfl, rfl⟩, _, _, _, rfl⟩
  refine ⟨gC, gS, by decide +kernel, h.1.ga, h.1.gg, h.1.kC, h.1.exC, h.1.tyC, h.1.hdC, h.2, by decide +kernel, by decide +kernel, by decide, fun vs h => len_ok_BadName h, _, _, _, _, _, _, _, _, _, _, _, h.1, es_BadName, hb, fun L cda cc => hc _ L cda cc, fun vs us ho r y L cc cda => ?_⟩
  rw [hm]
  exact NwX.msg_const
theorem es_BadNumber : NwX.ErrS "BadNumber.__init__" (defArgs s_BadNumber__init__) (defBody s_BadNumber__init__) (defScope s_BadNumber__init__) ps_BadNumber := ⟨by decide +kernel, rfl, rfl, rfl, by decide +kernel, by decide +kernel, by decide +kernel, by decide +kernel, ⟨_, rfl, rfl⟩, by decide +kernel, fun _ _ _ _ _ _ _ us hl => match us, hl with | [_, _], _ => rfl⟩
theorem eo_BadNumber {K : PySem.W.Frag} {mg : Str → Option Value} (gC : mg "BadNumber" = some (.ref (He.ga K "BadNumber"))) (gS : mg "super" = none) (h : NwX.ErrK R.prog K (He.ga K "BadNumber") (NwH.initAt K "BadNumber") "BadNumber.__init__" (defArgs s_BadNumber__init__) (defBody s_BadNumber__init__) (defScope s_BadNumber__init__) ∧ ∀ p ∈ ps_BadNumber, PySem.W.findIn K (.ref (He.ga K "BadNumber")) p = some none) :
    ErrOk R.prog K mg "BadNumber" (He.ga K "BadNumber") ps_BadNumber ok_BadNumber := by
  obtain ⟨e, p0, p1, p2, p3, p4, hb, hc, hm⟩ : ∃ e p0 p1 p2 p3 p4, NwX.BodyIs e p0 p1 p2 p3 p4 (defBody s_BadNumber__init__) ps_BadNumber ∧ (∀ fI L cda cc : Addr, NwX.CallOk (PySem.W.envX "BadNumber.__init__" (defScope s_BadNumber__init__) L fI (.ref cda) [("__class__", cc)]) e p0 p1 p2 p3 p4) ∧
      ∃ x j q1 q2 q3, e = .BinOp (.Constant (.str x) j q1) .Add (.Name "word" q2) q3 ∧ x.length ≤ 100 :=
    ⟨_, _, _, _, _, _, ⟨_, _, _, _, rfl⟩, fun fI L cda cc => ⟨⟨_, rfl⟩, rfl, rfl, rfl⟩, _, _, _, _, _, rfl, by decide⟩
  obtain ⟨xm, j, q1, q2, q3, rfl, hx⟩ := hm
  refine ⟨gC, gS, by decide +kernel, h.1.ga, h.1.gg, h.1.kC, h.1.exC, h.1.tyC, h.1.hdC, h.2, by decide +kernel, by decide +kernel, by decide, fun vs h => len_ok_BadNumber h, _, _, _, _, _, _, _, _, _, _, _, h.1, es_BadNumber, hb, fun L cda cc => hc _ L cda cc, fun vs us ho r x L cc cda => ?_⟩
  exact msgAdd_BadNumber ho r hx rfl rfl
theorem facts {w : World} {K : PySem.W.Frag} {h : Heap} {mg : Str → Option Value} {f : Addr} (X : K.In h) (G : h.Ns mainGlobals mg) (hfa : mg ("law" : Str) = some (.ref f)) (c : row.Says K) :
    ∃ fd : FuncData, (∀ (s : Shared) (v : Value), BindsTo s fd ⟨[v], []⟩ [("_law_script", v)]) ∧ ∀ base : Heap, K.In base → base.Ns mainGlobals mg → FnOk R.prog w K mg base CX0 10 f fd ["_law_script"] (sp_law K) := by
  have T : Tx R.prog K mg := ⟨He.free_ok X G (c.fact 0 (f := fun K => (He.Fa.free "isinstance").ok K) rfl), He.free_ok X G (c.fact 1 (f := fun K => (He.Fa.free "int").ok K) rfl), He.free_ok X G (c.fact 2 (f := fun K => (He.Fa.free "bool").ok K) rfl), He.free_ok X G (c.fact 3 (f := fun K => (He.Fa.free "tuple").ok K) rfl), He.free_ok X G (c.fact 4 (f := fun K => (He.Fa.free "list").ok K) rfl), He.free_ok X G (c.fact 5 (f := fun K => (He.Fa.free "range").ok K) rfl), He.free_ok X G (c.fact 6 (f := fun K => (He.Fa.free "len").ok K) rfl), He.free_ok X G (c.fact 7 (f := fun K => (He.Fa.free "sorted").ok K) rfl), He.free_ok X G (c.fact 8 (f := fun K => (He.Fa.free "set").ok K) rfl), He.free_ok X G (c.fact 9 (f := fun K => (He.Fa.free "min").ok K) rfl), He.free_ok X G (c.fact 10 (f := fun K => (He.Fa.free "all").ok K) rfl), of_decide_eq_true (c.fact 37 (f := fun K => decide (PySem.W.exmOne K (.ref (He.ga K "BadName")) (.ref (He.ga K "BadName")) = some true)) rfl), of_decide_eq_true (c.fact 38 (f := fun K => decide (PySem.W.exmOne K (.ref (He.ga K "BadNumber")) (.ref (He.ga K "BadName")) = some false)) rfl), of_decide_eq_true (c.fact 39 (f := fun K => decide (PySem.W.exmOne K (.ref (He.ga K "BadNumber")) (.ref (He.ga K "BadNumber")) = some true)) rfl), He.int_ok X G (x := "MOST_SIZE") (c.fact 40 (f := fun K => (He.Fa.int "MOST_SIZE" 6).ok K) rfl), He.glo_ok X G (x := "TaskError") (c.fact 41 (f := fun K => (He.Fa.glo "TaskError").ok K) rfl), He.cls_ok (x := "Levels") (c.fact 43 (f := fun K => (He.Fa.cls "Levels").ok K) rfl), He.noat_ok (x := "Levels") (f := "_size") (c.fact 44 (f := fun K => (He.Fa.noat "Levels" "_size").ok K) rfl), He.noat_ok (x := "Levels") (f := "_cells") (c.fact 45 (f := fun K => (He.Fa.noat "Levels" "_cells").ok K) rfl), He.noat_ok (x := "Levels") (f := "_low") (c.fact 46 (f := fun K => (He.Fa.noat "Levels" "_low").ok K) rfl), He.noat_ok (x := "Levels") (f := "_taken") (c.fact 47 (f := fun K => (He.Fa.noat "Levels" "_taken").ok K) rfl), He.noat_ok (x := "Levels") (f := "_seen") (c.fact 48 (f := fun K => (He.Fa.noat "Levels" "_seen").ok K) rfl), He.noat_ok (x := "Levels") (f := "_looks") (c.fact 49 (f := fun K => (He.Fa.noat "Levels" "_looks").ok K) rfl), eo_BadName (He.glo_ok X G (x := "BadName") (c.fact 34 (f := fun K => (He.Fa.glo "BadName").ok K) rfl)) (He.free_ok X G (c.fact 36 (f := fun K => (He.Fa.free "super").ok K) rfl)) (c.err (P := R.prog) rfl 0 (d := de_BadName) rfl), eo_BadNumber (He.glo_ok X G (x := "BadNumber") (c.fact 35 (f := fun K => (He.Fa.glo "BadNumber").ok K) rfl)) (He.free_ok X G (c.fact 36 (f := fun K => (He.Fa.free "super").ok K) rfl)) (c.err (P := R.prog) rfl 1 (d := de_BadNumber) rfl)⟩
  obtain ⟨fd_is_int, F_is_int⟩ := c.def_ 0 (d := dd_is_int) rfl
  obtain ⟨fd_is_row, F_is_row⟩ := c.def_ 1 (d := dd_is_row) rfl
  obtain ⟨fd_check_number, F_check_number⟩ := c.def_ 2 (d := dd_check_number) rfl
  obtain ⟨fd_check_levels, F_check_levels⟩ := c.def_ 3 (d := dd_check_levels) rfl
  obtain ⟨fd_Levels___init__, F_Levels___init__⟩ := c.def_ 4 (d := dd_Levels___init__) rfl
  obtain ⟨fd_Levels_wrote, F_Levels_wrote⟩ := c.def_ 5 (d := dd_Levels_wrote) rfl
  obtain ⟨fd_Levels_gone, F_Levels_gone⟩ := c.def_ 6 (d := dd_Levels_gone) rfl
  obtain ⟨fd_Levels__known, F_Levels__known⟩ := c.def_ 7 (d := dd_Levels__known) rfl
  obtain ⟨fd_Levels_level, F_Levels_level⟩ := c.def_ 8 (d := dd_Levels_level) rfl
  obtain ⟨fd_Levels_taken, F_Levels_taken⟩ := c.def_ 9 (d := dd_Levels_taken) rfl
  obtain ⟨fd_Levels_step, F_Levels_step⟩ := c.def_ 10 (d := dd_Levels_step) rfl
  obtain ⟨fd_check_schedule, F_check_schedule⟩ := c.def_ 11 (d := dd_check_schedule) rfl
  obtain ⟨fd_levels_run, F_levels_run⟩ := c.def_ 12 (d := dd_levels_run) rfl
  obtain ⟨fd_levels_blocks, F_levels_blocks⟩ := c.def_ 13 (d := dd_levels_blocks) rfl
  obtain ⟨fd__law_drawn, F__law_drawn⟩ := c.def_ 14 (d := dd__law_drawn) rfl
  obtain ⟨fd__law_take, F__law_take⟩ := c.def_ 15 (d := dd__law_take) rfl
  obtain ⟨fd__law_int, F__law_int⟩ := c.def_ 16 (d := dd__law_int) rfl
  obtain ⟨fd__law_refused, F__law_refused⟩ := c.def_ 17 (d := dd__law_refused) rfl
  obtain ⟨fd__law_schedule, F__law_schedule⟩ := c.def_ 18 (d := dd__law_schedule) rfl
  obtain ⟨fd__law_new, F__law_new⟩ := c.def_ 19 (d := dd__law_new) rfl
  obtain ⟨fd__law_step, F__law_step⟩ := c.def_ 20 (d := dd__law_step) rfl
  obtain ⟨fd__law_few_below, F__law_few_below⟩ := c.def_ 21 (d := dd__law_few_below) rfl
  obtain ⟨fd__law_same, F__law_same⟩ := c.def_ 22 (d := dd__law_same) rfl
  obtain ⟨fd__law_within, F__law_within⟩ := c.def_ 23 (d := dd__law_within) rfl
  obtain ⟨fd__law_looks_right, F__law_looks_right⟩ := c.def_ 24 (d := dd__law_looks_right) rfl
  obtain ⟨fd__law_blocks_due, F__law_blocks_due⟩ := c.def_ 25 (d := dd__law_blocks_due) rfl
  obtain ⟨fd__law_finish, F__law_finish⟩ := c.def_ 26 (d := dd__law_finish) rfl
  obtain ⟨fd__law_walked, F__law_walked⟩ := c.def_ 27 (d := dd__law_walked) rfl
  obtain ⟨fd__law_all_refused, F__law_all_refused⟩ := c.def_ 28 (d := dd__law_all_refused) rfl
  obtain ⟨fd_law, F_law⟩ := c.def_ 29 (d := dd_law) rfl
  have e := hfa.symm.trans (He.glo_ok X G (x := "law") (c.fact 33 (f := fun K => (He.Fa.glo "law").ok K) rfl))
  cases e
  have b := FunD.bindsA (ps := ["_law_script"]) F_law fun _ _ _ _ _ _ us hl => match us, hl with | [_], _ => rfl
  refine ⟨fd_law, fun s v => b s [v] rfl, fun base _ _ => ?_⟩
  have D_is_int : Dok R.prog w K mg base 1 "is_int" ["thing"] (sp_is_int K) := ⟨_, _, ok_is_int (w := w) (base := base) T F_is_int, He.glo_ok X G (x := "is_int") (c.fact 11 (f := fun K => (He.Fa.glo "is_int").ok K) rfl), F_is_int.kp, F_is_int.bindsN fun _ _ _ _ _ _ us hl => match us, hl with | [_], _ => rfl⟩
  have D_is_row : Dok R.prog w K mg base 1 "is_row" ["thing"] (sp_is_row K) := ⟨_, _, ok_is_row (w := w) (base := base) T F_is_row, He.glo_ok X G (x := "is_row") (c.fact 12 (f := fun K => (He.Fa.glo "is_row").ok K) rfl), F_is_row.kp, F_is_row.bindsN fun _ _ _ _ _ _ us hl => match us, hl with | [_], _ => rfl⟩
  have D_check_number : Dok R.prog w K mg base 2 "check_number" ["number", "least", "word"] (sp_check_number K) := ⟨_, _, ok_check_number (w := w) (base := base) T D_is_int F_check_number, He.glo_ok X G (x := "check_number") (c.fact 13 (f := fun K => (He.Fa.glo "check_number").ok K) rfl), F_check_number.kp, F_check_number.bindsN fun _ _ _ _ _ _ us hl => match us, hl with | [_, _, _], _ => rfl⟩
  have D_check_levels : Dok R.prog w K mg base 3 "check_levels" ["size"] (sp_check_levels K) := ⟨_, _, ok_check_levels (w := w) (base := base) T D_check_number F_check_levels, He.glo_ok X G (x := "check_levels") (c.fact 14 (f := fun K => (He.Fa.glo "check_levels").ok K) rfl), F_check_levels.kp, F_check_levels.bindsN fun _ _ _ _ _ _ us hl => match us, hl with | [_], _ => rfl⟩
  have D_Levels___init__ : Kok R.prog w K mg base 4 (He.ga K "Levels") "Levels" ["self", "size"] (sp_Levels___init__ K) := ⟨_, _, ok_Levels___init__ (w := w) (base := base) T D_check_levels F_Levels___init__, He.mkr_ok (x := "Levels") (c.fact 50 (f := fun K => (He.Fa.mkr "Levels").ok K) rfl), He.glo_ok X G (x := "Levels") (c.fact 42 (f := fun K => (He.Fa.glo "Levels").ok K) rfl), F_Levels___init__.bindsN fun _ _ _ _ _ _ us hl => match us, hl with | [_, _], _ => rfl⟩
  have D_Levels_wrote : Pok R.prog w K mg base 1 (He.ga K "Levels") "wrote" (sp_Levels_wrote K) := ⟨_, _, _, ok_Levels_wrote (w := w) (base := base) T F_Levels_wrote, NwH.prB_ok (c.fact 51 (f := fun K => NwH.prB K "Levels" "wrote") rfl), F_Levels_wrote.bindsN fun _ _ _ _ _ _ us hl => match us, hl with | [_], _ => rfl⟩
  have D_Levels_gone : Pok R.prog w K mg base 1 (He.ga K "Levels") "gone" (sp_Levels_gone K) := ⟨_, _, _, ok_Levels_gone (w := w) (base := base) T F_Levels_gone, NwH.prB_ok (c.fact 52 (f := fun K => NwH.prB K "Levels" "gone") rfl), F_Levels_gone.bindsN fun _ _ _ _ _ _ us hl => match us, hl with | [_], _ => rfl⟩
  have D_Levels__known : Mok R.prog w K mg base 2 (He.ga K "Levels") "_known" ["self", "name"] (sp_Levels__known K) := ⟨_, _, ok_Levels__known (w := w) (base := base) T D_is_int F_Levels__known, He.meth_ok (x := "Levels") (m := "_known") (c.fact 53 (f := fun K => (He.Fa.meth "Levels" "_known").ok K) rfl), F_Levels__known.bindsN fun _ _ _ _ _ _ us hl => match us, hl with | [_, _], _ => rfl⟩
  have D_Levels_level : Mok R.prog w K mg base 3 (He.ga K "Levels") "level" ["self", "name"] (sp_Levels_level K) := ⟨_, _, ok_Levels_level (w := w) (base := base) T D_Levels__known F_Levels_level, He.meth_ok (x := "Levels") (m := "level") (c.fact 54 (f := fun K => (He.Fa.meth "Levels" "level").ok K) rfl), F_Levels_level.bindsN fun _ _ _ _ _ _ us hl => match us, hl with | [_, _], _ => rfl⟩
  have D_Levels_taken : Mok R.prog w K mg base 3 (He.ga K "Levels") "taken" ["self", "name"] (sp_Levels_taken K) := ⟨_, _, ok_Levels_taken (w := w) (base := base) T D_Levels__known F_Levels_taken, He.meth_ok (x := "Levels") (m := "taken") (c.fact 55 (f := fun K => (He.Fa.meth "Levels" "taken").ok K) rfl), F_Levels_taken.bindsN fun _ _ _ _ _ _ us hl => match us, hl with | [_, _], _ => rfl⟩
  have D_Levels_step : Mok R.prog w K mg base 3 (He.ga K "Levels") "step" ["self", "name"] (sp_Levels_step K) := ⟨_, _, ok_Levels_step (w := w) (base := base) T D_Levels__known F_Levels_step, He.meth_ok (x := "Levels") (m := "step") (c.fact 56 (f := fun K => (He.Fa.meth "Levels" "step").ok K) rfl), F_Levels_step.bindsN fun _ _ _ _ _ _ us hl => match us, hl with | [_, _], _ => rfl⟩
  have D_check_schedule : Dok R.prog w K mg base 2 "check_schedule" ["schedule", "size"] (sp_check_schedule K) := ⟨_, _, ok_check_schedule (w := w) (base := base) T D_is_row D_is_int F_check_schedule, He.glo_ok X G (x := "check_schedule") (c.fact 15 (f := fun K => (He.Fa.glo "check_schedule").ok K) rfl), F_check_schedule.kp, F_check_schedule.bindsN fun _ _ _ _ _ _ us hl => match us, hl with | [_, _], _ => rfl⟩
  have D_levels_run : Dok R.prog w K mg base 6 "levels_run" ["size", "schedule"] (sp_levels_run K) := ⟨_, _, ok_levels_run (w := w) (base := base) T D_Levels___init__ D_check_schedule D_Levels_step D_Levels_gone D_Levels_wrote F_levels_run, He.glo_ok X G (x := "levels_run") (c.fact 16 (f := fun K => (He.Fa.glo "levels_run").ok K) rfl), F_levels_run.kp, F_levels_run.bindsN fun _ _ _ _ _ _ us hl => match us, hl with | [_, _], _ => rfl⟩
  have D_levels_blocks : Dok R.prog w K mg base 7 "levels_blocks" ["size", "schedule"] (sp_levels_blocks K) := ⟨_, _, ok_levels_blocks (w := w) (base := base) T D_levels_run F_levels_blocks, He.glo_ok X G (x := "levels_blocks") (c.fact 17 (f := fun K => (He.Fa.glo "levels_blocks").ok K) rfl), F_levels_blocks.kp, F_levels_blocks.bindsN fun _ _ _ _ _ _ us hl => match us, hl with | [_, _], _ => rfl⟩
  have D__law_drawn : Dok R.prog w K mg base 1 "_law_drawn" ["_law_script"] (sp__law_drawn K) := ⟨_, _, ok__law_drawn (w := w) (base := base) T F__law_drawn, He.glo_ok X G (x := "_law_drawn") (c.fact 18 (f := fun K => (He.Fa.glo "_law_drawn").ok K) rfl), F__law_drawn.kp, F__law_drawn.bindsN fun _ _ _ _ _ _ us hl => match us, hl with | [_], _ => rfl⟩
  have D__law_take : Dok R.prog w K mg base 1 "_law_take" ["_law_found", "_law_many"] (sp__law_take K) := ⟨_, _, ok__law_take (w := w) (base := base) T F__law_take, He.glo_ok X G (x := "_law_take") (c.fact 19 (f := fun K => (He.Fa.glo "_law_take").ok K) rfl), F__law_take.kp, F__law_take.bindsN fun _ _ _ _ _ _ us hl => match us, hl with | [_, _], _ => rfl⟩
  have D__law_int : Dok R.prog w K mg base 1 "_law_int" ["_law_thing"] (sp__law_int K) := ⟨_, _, ok__law_int (w := w) (base := base) T F__law_int, He.glo_ok X G (x := "_law_int") (c.fact 20 (f := fun K => (He.Fa.glo "_law_int").ok K) rfl), F__law_int.kp, F__law_int.bindsN fun _ _ _ _ _ _ us hl => match us, hl with | [_], _ => rfl⟩
  have D__law_refused : Dok R.prog w K mg base 8 "_law_refused" ["_law_word", "_law_one", "_law_other"] (sp__law_refused K) := ⟨_, _, ok__law_refused (w := w) (base := base) T D_Levels___init__ D_Levels_step D_Levels_level D_Levels_taken D_levels_run D_levels_blocks F__law_refused, He.glo_ok X G (x := "_law_refused") (c.fact 21 (f := fun K => (He.Fa.glo "_law_refused").ok K) rfl), F__law_refused.kp, F__law_refused.bindsN fun _ _ _ _ _ _ us hl => match us, hl with | [_, _, _], _ => rfl⟩
  have D__law_schedule : Dok R.prog w K mg base 2 "_law_schedule" ["_law_found", "_law_size"] (sp__law_schedule K) := ⟨_, _, ok__law_schedule (w := w) (base := base) T D__law_take F__law_schedule, He.glo_ok X G (x := "_law_schedule") (c.fact 22 (f := fun K => (He.Fa.glo "_law_schedule").ok K) rfl), F__law_schedule.kp, F__law_schedule.bindsN fun _ _ _ _ _ _ us hl => match us, hl with | [_, _], _ => rfl⟩
  have D__law_new : Dok R.prog w K mg base 1 "_law_new" ["_law_size"] (sp__law_new K) := ⟨_, _, ok__law_new (w := w) (base := base) T F__law_new, He.glo_ok X G (x := "_law_new") (c.fact 23 (f := fun K => (He.Fa.glo "_law_new").ok K) rfl), F__law_new.kp, F__law_new.bindsN fun _ _ _ _ _ _ us hl => match us, hl with | [_], _ => rfl⟩
  have D__law_step : Dok R.prog w K mg base 1 "_law_step" ["_law_state", "_law_cells", "_law_name"] (sp__law_step K) := ⟨_, _, ok__law_step (w := w) (base := base) T F__law_step, He.glo_ok X G (x := "_law_step") (c.fact 24 (f := fun K => (He.Fa.glo "_law_step").ok K) rfl), F__law_step.kp, F__law_step.bindsN fun _ _ _ _ _ _ us hl => match us, hl with | [_, _, _], _ => rfl⟩
  have D__law_few_below : Dok R.prog w K mg base 4 "_law_few_below" ["_law_levels", "_law_size"] (sp__law_few_below K) := ⟨_, _, ok__law_few_below (w := w) (base := base) T D_Levels_level F__law_few_below, He.glo_ok X G (x := "_law_few_below") (c.fact 25 (f := fun K => (He.Fa.glo "_law_few_below").ok K) rfl), F__law_few_below.kp, F__law_few_below.bindsN fun _ _ _ _ _ _ us hl => match us, hl with | [_, _], _ => rfl⟩
  have D__law_same : Dok R.prog w K mg base 5 "_law_same" ["_law_levels", "_law_state", "_law_looks", "_law_size"] (sp__law_same K) := ⟨_, _, ok__law_same (w := w) (base := base) T D_Levels_wrote D_Levels_gone D_Levels_level D__law_int D_Levels_taken D__law_few_below F__law_same, He.glo_ok X G (x := "_law_same") (c.fact 26 (f := fun K => (He.Fa.glo "_law_same").ok K) rfl), F__law_same.kp, F__law_same.bindsN fun _ _ _ _ _ _ us hl => match us, hl with | [_, _, _, _], _ => rfl⟩
  have D__law_within : Dok R.prog w K mg base 1 "_law_within" ["_law_one", "_law_other"] (sp__law_within K) := ⟨_, _, ok__law_within (w := w) (base := base) T F__law_within, He.glo_ok X G (x := "_law_within") (c.fact 27 (f := fun K => (He.Fa.glo "_law_within").ok K) rfl), F__law_within.kp, F__law_within.bindsN fun _ _ _ _ _ _ us hl => match us, hl with | [_, _], _ => rfl⟩
  have D__law_looks_right : Dok R.prog w K mg base 2 "_law_looks_right" ["_law_looks", "_law_state", "_law_size"] (sp__law_looks_right K) := ⟨_, _, ok__law_looks_right (w := w) (base := base) T D__law_within F__law_looks_right, He.glo_ok X G (x := "_law_looks_right") (c.fact 28 (f := fun K => (He.Fa.glo "_law_looks_right").ok K) rfl), F__law_looks_right.kp, F__law_looks_right.bindsN fun _ _ _ _ _ _ us hl => match us, hl with | [_, _, _], _ => rfl⟩
  have D__law_blocks_due : Dok R.prog w K mg base 1 "_law_blocks_due" ["_law_looks", "_law_wrote"] (sp__law_blocks_due K) := ⟨_, _, ok__law_blocks_due (w := w) (base := base) T F__law_blocks_due, He.glo_ok X G (x := "_law_blocks_due") (c.fact 29 (f := fun K => (He.Fa.glo "_law_blocks_due").ok K) rfl), F__law_blocks_due.kp, F__law_blocks_due.bindsN fun _ _ _ _ _ _ us hl => match us, hl with | [_, _], _ => rfl⟩
  have D__law_finish : Dok R.prog w K mg base 6 "_law_finish" ["_law_levels", "_law_state", "_law_cells", "_law_looks", "_law_size"] (sp__law_finish K) := ⟨_, _, ok__law_finish (w := w) (base := base) T D__law_step D_Levels_step D__law_looks_right D__law_same F__law_finish, He.glo_ok X G (x := "_law_finish") (c.fact 30 (f := fun K => (He.Fa.glo "_law_finish").ok K) rfl), F__law_finish.kp, F__law_finish.bindsN fun _ _ _ _ _ _ us hl => match us, hl with | [_, _, _, _, _], _ => rfl⟩
  have D__law_walked : Dok R.prog w K mg base 9 "_law_walked" ["_law_size", "_law_schedule_here"] (sp__law_walked K) := ⟨_, _, ok__law_walked (w := w) (base := base) T D_Levels___init__ D__law_new D__law_refused D__law_step D_Levels_step D__law_same D__law_looks_right D_levels_run D_levels_blocks D__law_blocks_due D__law_finish F__law_walked, He.glo_ok X G (x := "_law_walked") (c.fact 31 (f := fun K => (He.Fa.glo "_law_walked").ok K) rfl), F__law_walked.kp, F__law_walked.bindsN fun _ _ _ _ _ _ us hl => match us, hl with | [_, _], _ => rfl⟩
  have D__law_all_refused : Dok R.prog w K mg base 9 "_law_all_refused" ["_law_found", "_law_size", "_law_schedule_here"] (sp__law_all_refused K) := ⟨_, _, ok__law_all_refused (w := w) (base := base) T D__law_take D_Levels___init__ D__law_refused D_Levels_wrote D_Levels_gone D_levels_run D_levels_blocks F__law_all_refused, He.glo_ok X G (x := "_law_all_refused") (c.fact 32 (f := fun K => (He.Fa.glo "_law_all_refused").ok K) rfl), F__law_all_refused.kp, F__law_all_refused.bindsN fun _ _ _ _ _ _ us hl => match us, hl with | [_, _, _], _ => rfl⟩
  exact ok_law (w := w) (base := base) T D__law_drawn D__law_take D__law_schedule D__law_walked D__law_all_refused F_law
end K07
open PySem PySem.W PySem.Calls PyProof.Rows
theorem PySem.Challenge.cw_nowaittasks_k07_whole_levels_any_schedul_holds : PySem.Challenge.rw_nowaittasks_k07_whole_levels_any_schedul.Holds := by
  w_on; o_law
  refine HandSHeadRun.head_any (r := OpenLaw.row PySem.Challenge.rw_nowaittasks_k07_whole_levels_any_schedul) (q := view (OpenLaw.row PySem.Challenge.rw_nowaittasks_k07_whole_levels_any_schedul).prog [31]) (H := K07.hk) (ob := K07.ob) (M := 6000) (loose := K07.loose) (d := HandSHeadRun.topDef (OpenLaw.row PySem.Challenge.rw_nowaittasks_k07_whole_levels_any_schedul).prog 31) (kwd := []) K07.ob_eq
    (by kernel_rfl) (fun s => by kernel_rfl) K07.run (by kernel_rfl) (by kernel_rfl) (by kernel_rfl) (by rfl) (by first | assumption | decide +kernel) (by decide +kernel) ⟨rfl, rfl, rfl, rfl, rfl, by decide +kernel⟩ ?hw ?hc
  case hw => w_witness2
  case hc =>
    refine L2.walk_ofE (l := PySem.Challenge.rw_nowaittasks_k07_whole_levels_any_schedul) (n := 63) (k := 10) (x := "_law_script") (CX := L2.CX0) rfl (by decide) (by kernel_rfl) ⟨rfl, by decide, by decide⟩ ?F (fun _ _ _ _ z => z)
    case F =>
      intro w mg fa h Y G hmg0
      obtain ⟨K, KX, c⟩ := Y
      have hmg : mg ("law" : PySem.Str) = some (.ref fa) := by
        have e : (HandSHeadRun.topDef (OpenLaw.row PySem.Challenge.rw_nowaittasks_k07_whole_levels_any_schedul).prog 31).name = ("law" : PySem.Str) := by kernel_rfl
        rw [← e]
        exact hmg0
      obtain ⟨fd, hb, hF⟩ := K07.facts (w := w) KX G hmg c
      exact ⟨K, fd, K07.sp_law K, KX, hb, fun H a ns hl hO hS => K07.law_end H a ns hl hS, hF⟩
#print axioms PySem.Challenge.cw_nowaittasks_k07_whole_levels_any_schedul_holds
end
