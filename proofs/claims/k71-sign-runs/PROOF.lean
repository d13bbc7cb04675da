import PyProof.Rows.All
import Wide.All
import OpenK.AllK
import Wide.FinOn
import HandS.ForMost
import HandS.More
import PyProof.ReprRoads
import KE.KExcSuper
import HandS.ExcInit
import HandS.Nested
import KE.KOpsOwn
import KE.KCallOwn
import PyProof.InstEq
import HandS.SlotsOwn
import HandS.IsInst
import PyProof.ReprDict
import HandS.FStr
import KE.KExcIs
import HandS.ExcIs
import HandS.ExcField
import HandS.Lambda
import HandS.ExcOwn
import HandS.Star
import HandS.ClsMeth
import HandS.EndTab
import KE.KNest
import HandS.Property
import HandS.Style
import HandS.Wide
import HandS.WideBits
import HandS.TupAny
import HandS.Conv
import KE.KUnpack
import KE.KRevSl
import HandS.TryMany
import HandS.Strs
import HandS.SetFor
import HandS.HotCalls
import PyProof.TupleIter
import PyProof.Rows.ReprOcc
import PyProof.StrLawsRepr
import KE.KxStill
import HandS.Walk
import HandS.Defaults
import HandS.TryOnly
import HandS.AnyAll
import KE.RegKSuper
import PySem.Challenge.RW_slotsums_k71_sign_runs
set_option Elab.async false
set_option linter.all false
set_option maxRecDepth 100000
set_option maxHeartbeats 8000000
/-! Defs that ask what is being shown around them: FnOk where no repr is under way (guards = some []). -/
namespace L2
open PySem PySem.Spec PyProof.Rows
/-- the def keeps its promise wherever no repr is under way -/
structure FnG (P : Program) (w : World) (K : PySem.W.Frag) (mg : Str → Option Value) (base : Heap) (CX : CXT) (k : Nat) (f : Addr) (fd : FuncData) (ps : List Str) (sp : Sp) : Prop where
  len : ∀ vs H Q E, sp vs H Q E → vs.length = ps.length
  run : ∀ (A : Around) (outer : List Env) (s : Shared) (H : Hp) (args : Args) (us : List Value) (vs : List V) (Q : VK) (E : XK), A.guards = some [] → Room k A → Env0 P w K mg base A outer s H → BindsTo s fd args (ps.zip us) → Vals vs us → sp vs H Q E →
    codeAny (model P w) A (.call (.ref f) args) (CR CX outer P w H s Q E) s
section
variable {CX : CXT} {P : Program} {w : World} {K : PySem.W.Frag} {mg : Str → Option Value} {base : Heap} {k : Nat} {f : Addr} {fd : FuncData} {N ps : List Str} {sp : Sp}
theorem FnOk.gd (F : FnOk P w K mg base CX k f fd ps sp) : FnG P w K mg base CX k f fd ps sp := ⟨F.len, fun A outer s H args us vs Q E _ => F.run A outer s H args us vs Q E⟩
theorem FnG.mono {j : Nat} (F : FnG P w K mg base CX j f fd ps sp) (h : j ≤ k) : FnG P w K mg base CX k f fd ps sp := ⟨F.len, fun A outer s H args us vs Q E hg hr => F.run A outer s H args us vs Q E hg (hr.mono h)⟩
/-- a body walked where no repr is under way -/
theorem fn_ofG {name qual : Str} {params : Arguments} {body : List Stmt} {scope : Scope} {dV kV doc pm cdv ct oc : Value} {an od : Option Addr} {osl : Array (Option Value)}
    (lk : K.lookup f = some ⟨oc, od, .func (PySem.W.fnOf name qual params body scope dV kV doc pm an cdv ct), osl⟩) (hcd : PySem.W.codeIn K cdv qual = true) (S : FnScope N ps scope) (len : ∀ vs H Q E, sp vs H Q E → vs.length = ps.length)
    (hbody : ∀ (A : Around) (outer : List Env) (s : Shared) (H : Hp) (vs : List V) (Q : VK) (E : XK), A.guards = some [] → Room k (A.deeper (envOfC qual scope s.heap.objs.size f cdv)) → sp vs H Q E →
      ∃ t, PSs (cxOf CX P w K mg base N qual scope f cdv A outer s H E) body t ∧ t { nx := fun _ H' => Q .non H', rt := Q } (start N vs) H) :
    FnG P w K mg base CX (k + 1) f (PySem.W.fnOf name qual params body scope dV kV doc pm an cdv ct) ps sp := by
  refine ⟨len, fun A outer s H args us vs Q E gd hr e0 hb r hsp => ?_⟩
  have KX : K.In s.heap := e0.mod.kin.keeps fun b o e => (e0.bs b o e).1
  refine codeAny_call_function hr.depth (KX _ _ lk) rfl S.co S.gen rfl (PySem.W.codeRec_of KX hcd) (hb _ _ _ _ ?_)
  refine wpAny_newFunctionEnv_cells S.kind (fun ⟨n, v⟩ hy => (S.par n (List.of_mem_zip hy).1).imp id fun q => ⟨q, PySem.W.cellsFrom_some _ _ _ (.inl q)⟩) fun env he s1 x => ?_
  subst he
  refine ⟨(e0.mod.nolimit.keeps fun b o e => (e0.bs b o e).1).keeps x.toInCall.keep, codeAny_func ?_⟩
  obtain ⟨t, ht, hq⟩ := hbody A outer s H vs Q E gd (hr.deeper _) hsp
  refine wpAny_mono (ht.run [] s1 (start N vs) H _ (inv_start S hr.hd e0 (len _ _ _ _ hsp) r x) hq) (fun fl s' hs => ?_) fun e s' hs => hs
  cases fl with
  | ret u => obtain ⟨v, σ', H', J, rv, q⟩ := hs; exact ⟨v, H', J.os, J.bare, J.base, J.hok, rv, q⟩
  | next => obtain ⟨σ', H', J, q⟩ := hs; exact ⟨V.non, H', J.os, J.bare, J.base, J.hok, rfl, q⟩
  | brk => obtain ⟨_, _, _, q⟩ := hs; exact False.elim q
  | cont => obtain ⟨_, _, _, q⟩ := hs; exact False.elim q
theorem Fun.okG {x qual : Str} {st : Stmt} (F : Fun K x qual st f fd) (S : FnScope N ps (defScope st)) (len : ∀ vs H Q E, sp vs H Q E → vs.length = ps.length)
    (hbody : ∀ (cdv : Value) (A : Around) (outer : List Env) (s : Shared) (H : Hp) (vs : List V) (Q : VK) (E : XK), A.guards = some [] → Room k (A.deeper (envOfC qual (defScope st) s.heap.objs.size f cdv)) → sp vs H Q E →
      ∃ t, PSs (cxOf CX0 P w K mg base N qual (defScope st) f cdv A outer s H E).nox (defBody st) t ∧ t { nx := fun _ H' => Q .non H', rt := Q } (start N vs) H) : FnG P w K mg base CX0 (k + 1) f fd ps sp := by
  obtain ⟨oc, od, kV, doc, pm, an, cdv, ct, osl, rfl, lk, hcd⟩ := F.ex
  refine fn_ofG lk hcd S len fun A outer s H vs Q E gd hr hsp => ?_
  obtain ⟨t, h, q⟩ := hbody cdv A outer s H vs Q E gd hr hsp
  exact ⟨t, h.nox, q⟩
end
section
variable {X : Cx} {CX : CXT} {k : Nat} {f C : Addr} {fd : FuncData} {ps : List Str} {sp : Sp} {dvs : List V} {ds : List Value} {E : XK} {x m : Str} {p pos apos : Pos} {e o : Expr} {es : List Expr} {ta : TE} {t : TA}
theorem run_fnG {pins : List (Addr × Obj)} {σ : St} {H : Hp} {s : Shared} {Q : VK} {us : List Value} {vs : List V} (F : FnG X.prog X.w X.K X.mg X.base CX k f fd ps sp) (gd : X.A.guards = some []) (hr : Room k X.A) (hb : Binds X.K fd ps ds) (hd : Vals dvs ds) (hx : Passes CX X E)
    (I : Inv X pins σ H s) (r : Vals vs us) (h : sp (vs ++ dvs) H Q E) : wpAny (model X.prog X.w) X.A (call (.ref f) us) (EP X pins σ Q) X.xe s := by
  have r2 : Vals (vs ++ dvs) (us ++ ds) := r.append hd
  refine wpAny_call (codeAny_mono (F.run X.A X.stack s H ⟨us, []⟩ (us ++ ds) (vs ++ dvs) Q E gd hr I.env0 (hb s us I.kIn (by rw [← r2.length]; exact F.len _ _ _ _ h)) r2 h) fun r s' hq => ?_)
  cases r with
  | error e => exact hx pins σ H s e s' I hq
  | ok fl =>
    cases fl with
    | ret u => exact I.after hq
    | next => exact False.elim hq
    | brk => exact False.elim hq
    | cont => exact False.elim hq
theorem pe_callG (F : FnG X.prog X.w X.K X.mg X.base CX k f fd ps sp) (gd : X.A.guards = some []) (hr : Room k X.A) (hg : Gl X x) (hm : X.mg x = some (.ref f)) (hk : PySem.W.keepIn X.K (.ref f) = true) (hb : Binds X.K fd ps ds) (hd : Vals dvs ds) (hx : Passes CX X E)
    (ha : PA X (e :: es) t) (hdb : (x == ("__debug__" : Str)) = false := by decide) (he : starEach (e :: es) X.env = (false, eval e X.env) :: starEach es X.env := by rfl) (hpl : (backTo pos (starEach es X.env)).any (·.1) = false := by rfl) :
    PE X (.Call (.Name x p) (e :: es) [] pos) (tCall sp dvs E t) :=
  ⟨fun pins s σ H Q I h => wpAny_Call_Name_kw (ld_glob I hg hm (PySem.W.callWith_K (h₀ := X.base) I.ok.mod.kin hk (thn (ha.run pos pins s σ H _ I h) fun us s1 ⟨vs, H1, I1, r, q⟩ => ⟨I1.kIn, run_fnG F gd hr hb hd hx I1 r q⟩) he hpl) hdb)⟩
/-! ### repr of data -/
theorem call_reprD (gd : X.A.guards = some []) (hu : X.A.units + 70 < cLine) : CallR X (.builtin "repr") (fun xs H Q => ∃ a d, xs = [V.ref a] ∧ Dp X.K H (.ref a) d ∧ d.showable = true ∧ d.hasDict = false ∧ d.depth ≤ 64 ∧ d.shown.length ≤ sizeLine ∧ Q (.str d.shown) H) := by
  intro pins s σ H xs us Q I r h
  obtain ⟨a, d, rfl, hd, hs, hnd, hdp, hz, q⟩ := h
  obtain ⟨u, rfl, ru⟩ := vals1 r
  obtain rfl : u = Value.ref a := ru
  obtain ⟨as, rd⟩ := Dp.reads I d _ _ hd rfl
  refine PySem.repr_of_reads' rd hs (fun z => by rw [hnd] at z; cases z) gd (by omega) (fun _ _ e => e) (fun h' u tk kp => ?_) hz
  exact ⟨.str d.shown, H, I.kept (t' := tk) kp, ⟨_, rfl⟩, q⟩
end
end L2

/-! An own exception's __init__ that begins with super().__init__(e): the def is walked by the layer, its first statement by the library's words for super(). -/
namespace L2
theorem List.getElem?_append_or {α : Type} {l r : List α} {i : Nat} {a : α} (h : (l ++ r)[i]? = some a) : l[i]? = some a ∨ r[i - l.length]? = some a := by
  by_cases z : i < l.length
  · exact .inl (by rw [← List.getElem?_append_left z]; exact h)
  · exact .inr (by rw [← List.getElem?_append_right (Nat.le_of_not_lt z)]; exact h)
open PySem PySem.Spec PyProof.Rows
/-- the context of a def with a captured __class__ -/
def cxS (CX : CXT) (P : Program) (w : World) (K : PySem.W.Frag) (mg : Str → Option Value) (base : Heap) (N : List Str) (fd : FuncData) (f : Addr) (A : Around) (outer : List Env) (s : Shared) (H : Hp) (E : XK) : Cx where
  prog := P
  w := w
  K := K
  mg := mg
  base := base
  A := A.deeper (callEnv fd s.heap.objs.size f)
  N := N
  s_0 := s
  H_0 := H
  env := callEnv fd s.heap.objs.size f
  outer := outer
  stack := callEnv fd s.heap.objs.size f :: outer
  ex := []
  calm := true
  fn := fun _ => false
  pn := []
  xe := fun e s' => wpAny (model P w) (A.deeper (callEnv fd s.heap.objs.size f)) (leaving (callEnv fd s.heap.objs.size f) e) (fun _ s'' => CX outer H s E e s'') (fun e' s'' => CX outer H s E e' s'') s'
/-- what the text says of such a def -/
structure SupScope (N ps : List Str) (fd : FuncData) (cc : Addr) : Prop where
  kind : fd.scope.kind = .function
  co : fd.scope.isCoroutine = false
  gen : fd.scope.isGenerator = false
  nd : N.Nodup
  pre : N.take ps.length = ps
  par : ∀ x ∈ ps, fd.scope.names.lookup x = some .local
  nocell : ∀ y ∈ fd.scope.names, y.2 ≠ .cell
  free : ∀ y ∈ fd.scope.names, y.2 = .free → y.1 = ("__class__" : Str)
  sup : fd.scope.names.lookup ("super" : Str) = some .globalImplicit
  cls : fd.scope.names.lookup ("__class__" : Str) = some .free
  glob : fd.globals = mainGlobals
  blt : fd.builtins = builtinsNs
  clo : fd.closure = [(("__class__" : Str), cc)]
section
variable {CX : CXT} {P : Program} {w : World} {K : PySem.W.Frag} {mg : Str → Option Value} {base : Heap} {N ps : List Str} {fd : FuncData} {f cc C : Addr} {A : Around} {outer : List Env} {s : Shared} {H : Hp} {E : XK} {us : List Value} {vs : List V} {cd1 : Option Addr} {sl1 : Array (Option Value)}
theorem invS_start (S : SupScope N ps fd cc) (hcc : K.lookup cc = some ⟨.type "cell", cd1, .cell (some (.ref C)), sl1⟩) (hd : A.handled = none) (e0 : Env0 P w K mg base A outer s H) (hl : vs.length = ps.length) (r : Vals vs us) {h0 : Heap} {tk : Nat}
    (hns : h0.Ns s.heap.objs.size (fun x => (ps.zip us).reverse.lookup x)) (hk : ∀ b o, s.heap.get? b = some o → h0.get? b = some o) :
    Inv (cxS CX P w K mg base N fd f A outer s H E) [] (start N vs) H { s with heap := h0, toks := tk } := by
  have hpl : ps.length ≤ N.length := by have := congrArg List.length S.pre; rw [List.length_take] at this; omega
  have noA : ∀ b : Addr, b ∉ (cxS CX P w K mg base N fd f A outer s H E).ex := fun b z => by cases z
  have ecl : (cxS CX P w K mg base N fd f A outer s H E).env.cells = [(("__class__" : Str), cc)] := S.clo
  have one : ∀ {x : Str} {c : Addr}, (cxS CX P w K mg base N fd f A outer s H E).env.cells.lookup x = some c → x = ("__class__" : Str) ∧ c = cc := fun {x c} h => by
    rw [ecl, List.lookup_cons] at h
    cases hb : x == ("__class__" : Str) with
    | true => rw [hb] at h; exact ⟨beq_iff_eq.mp hb, (Option.some.inj h).symm⟩
    | false => rw [hb] at h; cases h
  have hb0 := e0.bs cc _ (e0.mod.kin _ _ hcc)
  refine ⟨⟨e0.mod, S.kind, S.glob, S.blt, Nat.le_refl _, fun y z c h1 h2 => (one h1).1.trans (one h2).1.symm, fun y hy => ?_, (fun y c z _ => by cases z), fun _ => hd, Around.frames_deeper e0.frames, .inr ⟨rfl, rfl⟩, fun b z => absurd z (noA b), e0.bs, e0.bsz, fun b _ _ => noA b, fun b z => absurd z (noA b), e0.funs, e0.frf⟩,
    rfl, e0.bare, Un.kept hk, ⟨_, hns, fun i y v h1 h2 h3 => ?_⟩, fun y c h => ?_, e0.hok.fresh (Nat.le_refl _), fun y c h => ?_, (fun p hp => by cases hp), e0.hok.kept hk, ?_⟩
  · rcases hy with hy | hy
    · exact absurd rfl (S.nocell _ (PySem.mem_of_lookup hy))
    · have e : y = ("__class__" : Str) := S.free _ (PySem.mem_of_lookup hy) rfl
      exact ⟨cc, by rw [ecl, e]; rfl⟩
  · have given : vs[i]? = some v := by
      have z : (vs.map some ++ List.replicate (N.length - vs.length) none)[i]? = some (some v) := h2
      rcases List.getElem?_append_or z with z | z
      · simpa using z
      · exact absurd (List.eq_of_mem_replicate (List.mem_of_getElem? z)) (by simp)
    have par : ps[i]? = some y := by
      have lt : i < ps.length := hl ▸ (List.getElem?_eq_some_iff.mp given).1
      have z : N[i]? = some y := h1
      rw [← List.getElem?_take_of_lt lt, S.pre] at z
      exact z
    obtain ⟨u, hu, rv⟩ := r.get given
    exact ⟨u, rv, .inl ⟨S.par y (List.mem_of_getElem? par), NdefX.zip_look (S.pre ▸ S.nd.sublist (List.take_sublist ps.length N)) par hu⟩⟩
  · obtain ⟨_, rfl⟩ := one h
    exact ⟨_, _, hk _ _ hb0.1, rfl⟩
  · obtain ⟨_, rfl⟩ := one h
    exact hb0.2
  · show (start N vs).length = N.length
    unfold start
    rw [List.length_append, List.length_map, List.length_replicate]
    omega
end
end L2

namespace L2
open PySem PySem.Spec PyProof.Rows
/-- own classes, then the tail t -/
def refsTo (t : List Value) : List Value → Bool
  | .ref _ :: r => refsTo t r
  | l => decide (l = t)
theorem refsTo_contains {t : List Value} (Y : String) : ∀ l : List Value, refsTo t l = true → l.contains (.type Y) = t.contains (.type Y)
  | [], h => by
    have e : ([] : List Value) = t := of_decide_eq_true h
    rw [← e]
  | v :: r, h => by
    cases v with
    | ref c =>
      rw [List.contains_cons, refsTo_contains Y r h]
      rfl
    | _ =>
      have e := of_decide_eq_true h
      rw [← e]
/-- what the written part says of the def's surroundings -/
structure SupK (B newId initId : String) (bmB : List Value) (P : Program) (K : PySem.W.Frag) (mg : Str → Option Value) (C f : Addr) (fd : FuncData) (ar : Arg) : Prop where
  fn : ∃ oc od osl, K.lookup f = some ⟨oc, od, .func fd, osl⟩
  hp : (fd.params.posonlyargs ++ fd.params.args).head? = some ar
  loc : fd.scope.names.lookup ar.arg = some .local
  code : ∃ cda k1 k2 vsc k3 file tf, fd.code = .ref cda ∧ K.lookup cda = some ⟨k1, k2, .fields vsc, k3⟩ ∧ vsc[2]? = some (.str file tf) ∧ ((P.main.file : Str) == file) = true
  top : (P.main.scope.names.lookup ("super" : Str)).isSome = false
  ms : mg "super" = none
  cls : ∃ nm q N bs bm sn sub ab col dd k0 k1 k2 k3 k5, K.lookup C = some (excClassObj nm q C N bs bm true sn sub ab col dd k0 k1 k2 k3 k5 newId) ∧ refsTo bmB bm = true
  sup : PySem.W.ks_superIn K C C "__init__" = some (some (.builtin initId))
  sB : PySem.W.subIn K (.ref C) (.type B) = some true
  sC : PySem.W.subIn K (.ref C) (.ref C) = some true
  op : PySem.W.nsIn K cStatics "thirdparty.any" = some none
section
variable {CX : CXT} {P : Program} {w : World} {K : PySem.W.Frag} {mg : Str → Option Value} {base : Heap} {N ps : List Str} {fd : FuncData} {f cc C a : Addr} {A : Around} {outer : List Env} {s0 s : Shared} {H0 H : Hp} {E : XK} {σ : St} {cd1 : Option Addr} {sl1 : Array (Option Value)} {ar : Arg}
  {e : Expr} {ta : TA} {p0 p1 p2 p3 p4 : Pos} {body : List Stmt} {R : Hp → Prop} {B newId initId : String} {bmB : List Value}
theorem boot_super : bootBuiltins ("super" : Str) = some (.type "super") := by decide +kernel
theorem sup_run (S : SupScope N ps fd cc) (hcc : K.lookup cc = some ⟨.type "cell", cd1, .cell (some (.ref C)), sl1⟩) (FB : ExcBaseFacts B newId initId bmB) (KF : PySem.W.KxsFacts B initId) (T : SupK B newId initId bmB P K mg C f fd ar) (h0 : N[0]? = some ar.arg)
    (I : Inv (cxS CX P w K mg base N fd f A outer s0 H0 E) [] σ H s) (hσ : σ[0]? = some (some (.ref a))) (ea : H a = some (exo a C none)) (ha : PA (cxS CX P w K mg base N fd f A outer s0 H0 E) [e] ta)
    (h : ta σ H fun vs H1 => vs.length ≤ 1000 ∧ H1 a = some (exo a C none) ∧ R H1)
    (hst : starEach [e] (callEnv fd s0.heap.objs.size f) = [(false, eval e (callEnv fd s0.heap.objs.size f))] := by rfl)
    {pl : Sem Bool}
    (hcall : eval (.Call (.Attribute (.Call (.Name "super" p0) [] [] p1) "__init__" p2) [e] [] p3) (callEnv fd s0.heap.objs.size f) = (do
      let ov ← attributeBase (.Call (.Name "super" p0) [] [] p1) "__init__" (callEnv fd s0.heap.objs.size f) (eval (.Call (.Name "super" p0) [] [] p1) (callEnv fd s0.heap.objs.size f))
      standAt p2.atName
      let (f', first) ← holding [ov] (getMethod ov "__init__" pl)
      callWith p3 f' first (backTo p3 (starEach [e] (callEnv fd s0.heap.objs.size f))) []) := by rfl) :
    PySem.wpAt (model P w) (A.deeper (callEnv fd s0.heap.objs.size f)) (.func body (callEnv fd s0.heap.objs.size f)) (eval (.Call (.Attribute (.Call (.Name "super" p0) [] [] p1) "__init__" p2) [e] [] p3) (callEnv fd s0.heap.objs.size f))
      (fun _ s' => ∃ H', Inv (cxS CX P w K mg base N fd f A outer s0 H0 E) [] σ H' s' ∧ R H') (cxS CX P w K mg base N fd f A outer s0 H0 E).xe s := by
  obtain ⟨oc, od, osl, lkf⟩ := T.fn
  obtain ⟨cda, k1, k2, vsc, k3, file, tf, hco, hcda, hvs, hfile⟩ := T.code
  have KX : K.In s.heap := I.kIn
  refine ks_wpAt_MethodCall (pl := pl) ?_ hcall
  refine ks_wpAt_super_base (f := f) (cc := cda) S.sup S.cls (by decide) rfl (KX _ _ lkf) rfl T.hp hco (KX _ _ hcda) rfl hvs hfile T.top ?_
  -- super
  obtain ⟨mb, b1, b2⟩ := I.mod.blt
  have hkind : (callEnv fd s0.heap.objs.size f).scope.kind = .function := S.kind
  have hsup : (callEnv fd s0.heap.objs.size f).kindOf "super" = some .globalImplicit := S.sup
  have ldS : ∀ Q : Value → Shared → Prop, Q (.type "super") s → wpAny (model P w) (A.deeper (callEnv fd s0.heap.objs.size f)) (loadName (callEnv fd s0.heap.objs.size f) "super") Q (cxS CX P w K mg base N fd f A outer s0 H0 E).xe s := fun Q hq => by
    unfold loadName
    simp only [Env.blockKind, hkind, hsup, ScopeKind.isAnnotationScope, Bool.false_and, Bool.false_eq_true, if_false]
    exact Calls.loadGlobal_builtin (by show s.heap.Ns fd.globals mg; rw [S.glob]; exact I.mod.glob.keeps I.bk) T.ms (by show s.heap.Ns fd.builtins mb; rw [S.blt]; exact b1.keeps I.bk) ((b2 _ (by decide)).trans boot_super) hq
  refine ldS _ ⟨rfl, ?_⟩
  -- __class__
  have hcell : s.heap.IsCell cc (some (.ref C)) := ⟨_, KX _ _ hcc, rfl⟩
  refine wpAny_loadName_free hkind S.cls (by show fd.closure.lookup _ = _; rw [S.clo]; rfl) hcell ?_
  -- self
  obtain ⟨m, hns, hl⟩ := I.loc
  obtain ⟨u, ru, hlook⟩ := hl 0 ar.arg (.ref a) h0 hσ (.inl T.loc)
  obtain rfl : u = Value.ref a := ru
  have hml : m ar.arg = some (.ref a) := by
    rcases hlook with ⟨_, z⟩ | ⟨z, _⟩
    · exact z
    · have z' : fd.scope.names.lookup ar.arg = some .cell ∨ fd.scope.names.lookup ar.arg = some .free := z
      rw [T.loc] at z'
      rcases z' with z' | z' <;> cases z'
  refine wpAny_loadName_local hkind T.loc hns hml ?_
  -- the class, the object
  obtain ⟨nm, q, NN, bs, bm, sn, sub, ab, col, dd, c0, c1, c2, c3, c5, hC, hbm⟩ := T.cls
  have hCh := KX _ _ hC
  obtain ⟨t1, hoa⟩ := exo_at I.hok ea
  obtain ⟨hp, g, d, t, os⟩ := s
  refine ks_wpAny_isType_cls hCh rfl ⟨rfl, ?_⟩
  refine ks_wpAny_call_super hCh rfl hoa rfl (fun c z => nomatch z) (PySem.W.looks_subIn KX T.sC) (fun h1 hso k1' => ?_)
  -- the bound __init__
  have KX1 : K.In h1 := KX.keeps k1'
  have hcl : PySem.W.clsIn K C = some { name := nm, bases := bs, mro := .ref C :: bm, ns := NN, qualname := q, hasDict := true, slotNames := sn, subclasses := sub, abstract := ab, collection := col, hasDel := false } := by unfold PySem.W.clsIn; rw [hC] <;> rfl
  have hal : PySem.W.alongIn K "__init__" (((Value.ref C :: bm).dropWhile (· != .ref C)).drop 1) = some (some (.builtin initId)) := by
    have z := T.sup
    unfold PySem.W.ks_superIn at z
    rw [hcl] at z
    exact z
  have hoa1 := k1' _ _ hoa
  have inst1 : PySem.W.InstAt h1 a { cls := .ref C, dict := none, data := .fields #[.ref t1, .none, .none, .none, .bool false, .none] } C none := ⟨hoa1, rfl, rfl, trivial⟩
  have hI1 : PySem.W.Looks (model P w) h1 (isInstance (.ref a) (.type B)) true := inst1.type.andThen (PySem.W.looks_subIn KX1 T.sB)
  refine PySem.W.kxs_getMethod KF hso (PySem.W.looks_opaque KX1 T.op) (l₀ := .ref C :: bm) (fun A Q E s k q => wpAny_bind ((PySem.W.looks_clsIn KX1 hcl) A _ E s k (wpAny_pure q))) rfl KX1 hal hI1 (PySem.W.ks_ne KX1 inst1 hcl) (by decide) ?_
  -- its argument
  have kk : ∀ b o, hp.get? b = some o → (h1.push (PySem.W.kxs_mw initId a)).get? b = some o := fun b o z => Heap.get?_push_of_some _ (k1' b o z)
  have I2 : Inv (cxS CX P w K mg base N fd f A outer s0 H0 E) [] σ H ⟨h1.push (PySem.W.kxs_mw initId a), g, d, t + 1, os⟩ := I.kept (t' := t + 1) kk
  have hwr : (h1.push (PySem.W.kxs_mw initId a)).get? h1.objs.size = some (PySem.W.kxs_mw initId a) := Heap.get?_push_at rfl rfl
  have I1 : Inv (cxS CX P w K mg base N fd f A outer s0 H0 E) [] σ H ⟨h1, g, d, t + 1, os⟩ := I.kept (t' := t + 1) k1'
  have I3 : Inv (cxS CX P w K mg base N fd f A outer s0 H0 E) [(h1.objs.size, PySem.W.kxs_mw initId a)] σ H ⟨h1.push (PySem.W.kxs_mw initId a), g, d, t + 1, os⟩ := I2.pins_of fun p hp' => by
    obtain rfl := List.mem_singleton.mp hp'
    exact ⟨hwr, I1.hok.fresh (Nat.le_refl _), Nat.ne_of_gt I1.lt, I1.nofs (Nat.le_refl _), fun v z => by cases z⟩
  rw [hst]
  refine PySem.W.kxs_callWith (i := initId) (x := a) rfl ?_
  refine Calls.evalArgs_plain ?_
  have hrun := ha.run p3 [(h1.objs.size, PySem.W.kxs_mw initId a)] _ σ H _ I3 h
  rw [show starEach [e] (cxS CX P w K mg base N fd f A outer s0 H0 E).env = [(false, eval e (callEnv fd s0.heap.objs.size f))] from hst] at hrun
  refine thn hrun fun us s2 ⟨vs, H1, I4, r4, hl, ea4, q4⟩ => ?_
  have hu2 : s2.heap.get? h1.objs.size = some (PySem.W.kxs_mw initId a) := (I4.pin _ (List.mem_append_right _ (List.mem_singleton.mpr rfl))).1
  refine ⟨hu2, ?_⟩
  show wpAny _ _ (call (.ref h1.objs.size) us) _ _ _
  have I5 : Inv (cxS CX P w K mg base N fd f A outer s0 H0 E) [] σ H1 s2 := I4.pins_of (fun p hp' => by cases hp')
  obtain ⟨t4, ho4⟩ := exo_at I5.hok ea4
  have hC2 := I5.kIn _ _ hC
  have hz : us.length ≤ sizeLine := by
    rw [← Paired.length r4, sizeLine_eq]
    omega
  have fin : ∀ h', (∀ b o, b ≠ a → s2.heap.get? b = some o → h'.get? b = some o) → (∃ t5 : Addr, h'.get? a = some ({ cls := .ref C, dict := none, data := .fields #[.ref t5, .none, .none, .none, .bool false, .none] } : Obj)) → ∃ H', Inv (cxS CX P w K mg base N fd f A outer s0 H0 E) [] σ H' { s2 with heap := h' } ∧ R H' := fun h' k ⟨t5, hx⟩ => by
    have J := I5.write (t' := s2.toks) (x := a) (e := a) (o := exo a C none) (by rw [ea4]; exact True.intro) (.inl rfl) k ⟨_, hx⟩ (exo_ok hx)
    have eu : upd H1 a (exo a C none) = H1 := by
      funext b
      by_cases hb : b = a
      · rw [hb, upd_same, ea4]
      · rw [upd_ne hb]
    rw [eu] at J
    exact ⟨H1, J, q4⟩
  obtain ⟨hp2, g2, d2, tk2, os2⟩ := s2
  refine wpAny_call (codeAny_of_tree ?_)
  show wpAny _ _ (callAny (.ref h1.objs.size) ⟨us, []⟩) _ _ _
  simp only [callAny]
  refine wpAny_bind (wpAny_load hu2 ?_)
  simp only [PySem.W.kxs_mw, show (Value.type "method-wrapper" == Value.type "method" || Value.type "method-wrapper" == Value.type "builtin_function_or_method" || Value.type "method-wrapper" == Value.type "method-wrapper") = true by decide, if_true]
  refine PySem.W.KFB.if_so (by decide) ?_
  refine wpAny_bind (PySem.W.check_bound_init FB.toExcCallFacts hC2 ho4 rfl ?_)
  refine wpAny_bind (wpAny_pure (wpAny_pure ?_))
  refine ⟨plainId_quiet FB.init.plain _, codeAny_builtin FB.initEntry ?_⟩
  exact PySem.W.exc_init_tree (cls := .ref C) (t0 := t4) (dv := none) (c2 := .none) (c3 := .none) (b4 := .bool false) ho4 hz fun h' k e' t' => fin h' k ⟨_, e'⟩
end
end L2

namespace L2
open PySem PySem.Spec PyProof.Rows
section
variable {CX : CXT} {P : Program} {w : World} {K : PySem.W.Frag} {mg : Str → Option Value} {base : Heap} {k : Nat} {N ps : List Str} {fd : FuncData} {f cc C : Addr} {cd1 : Option Addr} {sl1 : Array (Option Value)} {ar : Arg} {sp : Sp}
  {e : Expr} {p0 p1 p2 p3 p4 : Pos} {rest : List Stmt} {B newId initId : String} {bmB : List Value}
/-- an own exception's __init__ that begins with super().__init__(e) -/
theorem fn_sup (S : SupScope N ps fd cc) (hcc : K.lookup cc = some ⟨.type "cell", cd1, .cell (some (.ref C)), sl1⟩) (FB : ExcBaseFacts B newId initId bmB) (KF : PySem.W.KxsFacts B initId) (T : SupK B newId initId bmB P K mg C f fd ar) (h0 : N[0]? = some ar.arg) (hcd : PySem.W.codeIn K fd.code fd.qualname = true)
    (hbody : fd.body = .stmts (.Expr (.Call (.Attribute (.Call (.Name "super" p0) [] [] p1) "__init__" p2) [e] [] p3) p4 :: rest)) (len : ∀ vs H Q E, sp vs H Q E → vs.length = ps.length)
    (hst : ∀ env, starEach [e] env = [(false, eval e env)] := by intro env; rfl) {pl : Env → Sem Bool}
    (hcall : ∀ env, eval (.Call (.Attribute (.Call (.Name "super" p0) [] [] p1) "__init__" p2) [e] [] p3) env = (do
      let ov ← attributeBase (.Call (.Name "super" p0) [] [] p1) "__init__" env (eval (.Call (.Name "super" p0) [] [] p1) env)
      standAt p2.atName
      let (f', first) ← holding [ov] (getMethod ov "__init__" (pl env))
      callWith p3 f' first (backTo p3 (starEach [e] env)) []) := by intro env; rfl)
    (hin : ∀ L, interactive (callEnv fd L f) = false) (hsw : ∀ L, swapsWith (.Call (.Attribute (.Call (.Name "super" p0) [] [] p1) "__init__" p2) [e] [] p3) none p4.line (callEnv fd L f) = pure false)
    (h : ∀ (A : Around) (outer : List Env) (s : Shared) (H : Hp) (vs : List V) (Q : VK) (E : XK), A.guards = some [] → Room k (A.deeper (callEnv fd s.heap.objs.size f)) → sp vs H Q E →
      ∃ (a : Addr) (ta : TA) (tr : TS), (start N vs)[0]? = some (some (.ref a)) ∧ H a = some (exo a C none) ∧ PA (cxS CX P w K mg base N fd f A outer s H E) [e] ta ∧ PSs (cxS CX P w K mg base N fd f A outer s H E) rest tr ∧
        ta (start N vs) H (fun us H1 => us.length ≤ 1000 ∧ H1 a = some (exo a C none) ∧ tr { nx := fun _ H' => Q .non H', rt := Q } (start N vs) H1)) :
    FnG P w K mg base CX (k + 1) f fd ps sp := by
  refine ⟨len, fun A outer s H args us vs Q E gd hr e0 hb r hsp => ?_⟩
  have KX : K.In s.heap := e0.mod.kin.keeps fun b o e => (e0.bs b o e).1
  obtain ⟨oc, od, osl, lkf⟩ := T.fn
  refine ks_codeAny_call_defAt hr.depth (KX _ _ lkf) rfl (e0.mod.nolimit.keeps fun b o e => (e0.bs b o e).1) (PySem.W.codeRec_of KX hcd) hbody hb S.nocell (fun x hx => S.par x.1 (List.of_mem_zip hx).1) (fun h1 hns kk => ?_) S.co S.gen S.kind
  obtain ⟨a, ta, tr, ha0, hea, hta, htr, hq⟩ := h A outer s H vs Q E gd (hr.deeper _) hsp
  have I := invS_start (CX := CX) (E := E) (f := f) S hcc hr.hd e0 (len _ _ _ _ hsp) r (tk := s.toks + (ps.zip us).length) hns kk
  refine ks_wpAt_execs_cons (ks_wpAt_Expr_any (PySem.wpAt_mono (sup_run (pl := pl _) S hcc FB KF T h0 I ha0 hea hta hq (hst _) (hcall _)) (fun v s1 ⟨H1, I1, q1⟩ => ?_) fun e s' hs => hs) (hin _) (hsw _))
  refine PySem.wpAt_of_wpAny (wpAny_mono (htr.run [] s1 _ H1 _ I1 q1) (fun fl s' hs => ?_) fun e s' hs => hs)
  cases fl with
  | ret u => obtain ⟨v, σ', H', J, rv, q⟩ := hs; exact ⟨v, H', J.os, J.bare, J.base, J.hok, rv, q⟩
  | next => obtain ⟨σ', H', J, q⟩ := hs; exact ⟨V.non, H', J.os, J.bare, J.base, J.hok, rfl, q⟩
  | brk => obtain ⟨_, _, _, q⟩ := hs; exact False.elim q
  | cont => obtain ⟨_, _, _, q⟩ := hs; exact False.elim q
end
end L2

namespace L2
open PySem PySem.Spec PyProof.Rows
theorem make_guards {A : Around} {C : Addr} {us : List Value} {kw : List (Str × Value)} : (A.under (.builtin "type.__call__" ⟨.ref C :: us, kw⟩)).guards = A.guards := by
  first | rfl | simp [Around.under]
theorem deeper_guards {A : Around} {env : Env} : (A.deeper env).guards = A.guards := by
  first | rfl | simp [Around.deeper]
/-- an exception object of C is laid: its args, then itself -/
theorem exc_laid {X : Cx} {pins : List (Addr × Obj)} {σ : St} {G : Hp} {s0 : Shared} {args : List Value} {C : Addr} (J : Inv X pins σ G s0) :
    (∀ b o, s0.heap.get? b = some o → ((s0.heap.push (PySem.W.kdv_tup args)).push (PySem.HandSPX.excO C s0.heap.objs.size)).get? b = some o) ∧
    Inv X pins σ (upd G (s0.heap.objs.size + 1) (exo (s0.heap.objs.size + 1) C none)) { s0 with heap := (s0.heap.push (PySem.W.kdv_tup args)).push (PySem.HandSPX.excO C s0.heap.objs.size) } := by
  have stays : ∀ b o, s0.heap.get? b = some o → ((s0.heap.push (PySem.W.kdv_tup args)).push (PySem.HandSPX.excO C s0.heap.objs.size)).get? b = some o := fun b o z => Heap.get?_push_of_some _ (Heap.get?_push_of_some _ z)
  exact ⟨stays, J.laid (t' := s0.toks) (o := exo (s0.heap.objs.size + 1) C none) stays (Nat.le_succ _) (exo_ok (by heap_get))⟩
/-- C(e, ..): an own exception over ValueError, whose __init__ is told where no repr is under way -/
theorem pmk_oexG {X : Cx} {CX : CXT} {x : Str} {C g : Addr} {n : Nat} {fd : FuncData} {ps : List Str} {pr : Sp} {ds : List Value} {dvs : List V} {e : Expr} {es : List Expr} {ta : TA} {p pos : Pos} (cls : OexC X.K C) (init : PySem.W.findIn X.K (.ref C) "__init__" = some (some (.ref g))) (isfn : PySem.W.typeIn X.K (.ref g) = some (.type "function"))
    (F : FnG X.prog X.w X.K X.mg X.base CX n g fd ps pr) (quiet : X.A.guards = some []) (room : Room (n + 1) X.A) (bn : Binds X.K fd ps ds) (dv : Vals dvs ds) (pass : Passes CX X (fun _ _ _ => False)) (gl : Gl X x) (at_ : X.mg x = some (.ref C)) (args : PA X (e :: es) ta)
    (nd : (x == ("__debug__" : Str)) = false := by decide) (st : starEach (e :: es) X.env = (false, eval e X.env) :: starEach es X.env := by rfl) (pl : (backTo pos (starEach es X.env)).any (·.1) = false := by rfl) :
    PMk X (.Call (.Name x p) (e :: es) [] pos) (tMkO C pr dvs ta) := by
  intro pins s0 σ G W J w
  have vals := args.run pos pins s0 σ G _ J w
  refine wpAny_Call_Name_kw (ld_glob J gl at_ (PySem.W.callWith_K (h₀ := X.base) J.ok.mod.kin cls.kC (thn vals ?_) st pl) nd)
  rintro us ⟨hp, gens, dr, tk, os⟩ ⟨as, G1, J1, rel, few, wish⟩
  refine ⟨J1.kIn, ?_⟩
  show wpAny _ _ (PySem.call (.ref C) us) _ _ _
  obtain ⟨_, _, _, _, bm, _, _, _, _, _, _, _, _, _, _, look, tail⟩ := cls.cls
  obtain ⟨stays, J2⟩ := exc_laid (args := us) (C := C) J1
  have w1 := wish (hp.objs.size + 1) (J1.hok.fresh (Nat.le_succ hp.objs.size))
  have rel2 : Vals (V.ref (hp.objs.size + 1) :: (as ++ dvs)) (Value.ref (hp.objs.size + 1) :: (us ++ ds)) := .cons rfl (rel.append dv)
  have many : (Value.ref (hp.objs.size + 1) :: us ++ ds).length = ps.length := rel2.length.symm.trans (F.len _ _ _ _ w1)
  have run := F.run _ X.stack _ _ ⟨Value.ref (hp.objs.size + 1) :: us, []⟩ _ _ _ (fun _ _ _ => False) (make_guards.trans quiet) (room.make C us []) (J2.env0.make C us []) (bn _ (Value.ref (hp.objs.size + 1) :: us) J2.kIn many) rel2 w1
  have line : us.length ≤ sizeLine := Nat.le_trans (Nat.le_of_eq (Paired.length rel).symm) (Nat.le_trans few (by rw [sizeLine_eq]; decide))
  refine wpAny_call (PySem.HandSPX.call_own PySem.F.excBase_ValueError (fun Y => PySem.HandSPX.refsVE_contains Y bm tail) (J1.kIn _ _ look) (PySem.W.looks_findIn J1.kIn init) (fun self => PySem.W.bind_fn J1.kIn self isfn) line (codeAny_mono run ?_))
  rintro (er | fl) s3 z
  · exact pass pins σ _ _ er s3 J2 z
  · cases fl with
    | ret u =>
      obtain ⟨_, G3, same, bare, un, ok, none_, rfl, d, fs, at3, own, new, w3⟩ := z
      exact ⟨none_, mk_end (raises_own cls.exC cls.tyC) J1 (Nat.le_succ _) stays un ok same bare at3 own new w3⟩
    | _ => exact z.elim
end L2

/-! C(): an own exception without fields, whose __init__ says super().__init__(..) -/
namespace L2
open PySem PySem.Spec PyProof.Rows
section
variable {X : Cx}
/-- what happened after an exception object was laid at a, told of the heaps without a -/
theorem un_less {fs : List Addr} {H1 H2 : Hp} {hp hp2 h2 G : Heap} {a : Addr} {o : HO} (un : Un fs [] (upd H1 a o) H2 hp2 h2) (stays : ∀ b ob, hp.get? b = some ob → hp2.get? b = some ob) (above : hp.objs.size ≤ a) (new : H1 a = none) (same : ∀ b, b ≠ a → G.get? b = h2.get? b) : Un fs [] H1 (del H2 a) hp G := by
  have off : ∀ {b : Addr} {ob : Obj}, hp.get? b = some ob → b ≠ a := fun z e => absurd (Heap.lt_size z) (by rw [e]; exact Nat.not_lt.mpr above)
  have offH : ∀ {b : Addr} {t : HO}, H1 b = some t → b ≠ a := fun z e => by rw [e, new] at z; exact nomatch z
  have old : ∀ {b : Addr}, b ≠ a → upd H1 a o b = H1 b := fun z => upd_ne z
  constructor
  case keep => exact fun b ob z n p q => (same b (off z)).trans (un.keep b ob (stays b ob z) ((old (off z)).trans n) p q)
  case slot =>
    intro b ob z n p q
    obtain ⟨sl, r⟩ := un.slot b ob (stays b ob z) ((old (off z)).trans n) p q
    exact ⟨sl, (same b (off z)).trans r⟩
  case free => exact fun b ob z n q => (del_ne (off z)).trans (un.free b ob (stays b ob z) ((old (off z)).trans n) q)
  case there =>
    intro b ob z q
    obtain ⟨ob2, r⟩ := un.there b ob (stays b ob z) q
    exact ⟨ob2, (same b (off z)).trans r⟩
  case tups => exact fun b xs z => (del_ne (offH z)).trans (un.tups b xs ((old (offH z)).trans z))
  case frzs => exact fun b t v z => (del_ne (offH z)).trans (un.frzs b t v ((old (offH z)).trans z))
  case tbls =>
    intro b ps z
    obtain ⟨m, r⟩ := un.tbls b ps ((old (offH z)).trans z)
    exact ⟨m, (del_ne (offH z)).trans r⟩
/-- the tracked objects without the exception object -/
theorem hok_less {P : Program} {w : World} {H : Hp} {h G : Heap} {a C : Addr} (ok : HOk P w H h) (ea : H a = some (exo a C none)) (same : ∀ b, b ≠ a → G.get? b = h.get? b) : HOk P w (del H a) G := by
  intro b o z
  have nb : b ≠ a := by
    rintro rfl
    rw [del_same] at z
    exact nomatch z
  rw [del_ne nb] at z
  have own : ∀ {c : Addr}, H c = some (.own b) → c ≠ a := fun y => at_ne ea y exo_own
  refine (ok b o z).stay ?_ (fun c y => (del_ne (own y)).trans y) fun c xs y => (del_ne (at_ne ea y exo_tup)).trans y
  rintro c v (rfl | y) r
  · exact (same c nb).trans r
  · exact (same c (own y)).trans r
/-- C() -/
def tMkS0 (C : Addr) (sp : Sp) : St → Hp → XK → Prop := fun σ H Q => ∀ a, H a = none → sp [.ref a] (upd H a (exo a C none)) (fun v H2 => v = .non ∧ H2 a = some (exo a C none) ∧ Q (.ref C) none (del H2 a)) (fun _ _ _ => False)
/-- C is an own exception class over a built-in one -/
structure OexB (newId : String) (bmB : List Value) (K : PySem.W.Frag) (C : Addr) : Prop where
  cls : ∃ nm q N bs bm sn sub ab col dd k0 k1 k2 k3 k5, K.lookup C = some (excClassObj nm q C N bs bm true sn sub ab col dd k0 k1 k2 k3 k5 newId) ∧ refsTo bmB bm = true
  exc : PySem.W.subIn K (.ref C) (.type "BaseException") = some true ∧ PySem.W.typeIn K (.ref C) = some (.type "type") ∧ PySem.W.keepIn K (.ref C) = true
theorem pmk_sup0 {CX : CXT} {x : Str} {C g : Addr} {n : Nat} {fd : FuncData} {ps : List Str} {pr : Sp} {B newId initId : String} {bmB : List Value} {p pos : Pos} (FB : ExcBaseFacts B newId initId bmB) (cls : OexB newId bmB X.K C) (init : PySem.W.findIn X.K (.ref C) "__init__" = some (some (.ref g))) (isfn : PySem.W.typeIn X.K (.ref g) = some (.type "function"))
    (F : FnG X.prog X.w X.K X.mg X.base CX n g fd ps pr) (quiet : X.A.guards = some []) (room : Room (n + 1) X.A) (bn : Binds X.K fd ps []) (pass : Passes CX X (fun _ _ _ => False)) (gl : Gl X x) (at_ : X.mg x = some (.ref C))
    (nd : (x == ("__debug__" : Str)) = false := by decide) :
    PMk X (.Call (.Name x p) [] [] pos) (tMkS0 C pr) := by
  rintro pins ⟨hp, gens, dr, tk, os⟩ σ G W J w
  refine wpAny_Call_Name_kw (ld_glob J gl at_ (PySem.W.callWith_K0 J.kIn cls.exc.2.2 ?_) nd)
  change wpAny _ _ (PySem.call (.ref C) []) _ _ _
  obtain ⟨_, _, _, _, bm, _, _, _, _, _, _, _, _, _, _, look, tail⟩ := cls.cls
  obtain ⟨stays, J2⟩ := exc_laid (args := []) (C := C) J
  have unknown := J.hok.fresh (Nat.le_succ hp.objs.size)
  have w1 := w _ unknown
  have rel : Vals [V.ref (hp.objs.size + 1)] [Value.ref (hp.objs.size + 1)] := .cons rfl .nil
  have many : ([Value.ref (hp.objs.size + 1)] ++ []).length = ps.length := rel.length.symm.trans (F.len _ _ _ _ w1)
  have run := F.run _ X.stack _ _ ⟨[Value.ref (hp.objs.size + 1)], []⟩ _ _ _ (fun _ _ _ => False) (make_guards.trans quiet) (room.make C [] []) (J2.env0.make C [] []) (bn _ [Value.ref (hp.objs.size + 1)] J2.kIn many) rel w1
  refine wpAny_call (PySem.HandSPX.call_own FB (fun Y => refsTo_contains Y bm tail) (J.kIn _ _ look) (PySem.W.looks_findIn J.kIn init) (fun self => PySem.W.bind_fn J.kIn self isfn) (Nat.zero_le _) (codeAny_mono run ?_))
  rintro (er | fl) ⟨h3, gens3, dr3, tk3, os3⟩ z
  · exact pass pins σ _ _ er _ J2 z
  · cases fl with
    | ret u =>
      obtain ⟨_, G3, same, bare, un, ok, none_, rfl, ea, w3⟩ := z
      obtain ⟨_, obj⟩ := exo_at ok ea
      obtain ⟨h4, rest, gone⟩ := restrict h3 fun b => decide (b ≠ hp.objs.size + 1)
      have alike : ∀ b, b ≠ hp.objs.size + 1 → h4.get? b = h3.get? b := fun b nb => rest b (decide_eq_true nb)
      have lost : h4.get? (hp.objs.size + 1) = none := gone _ (by simp)
      have J4 := J.call' (ch := []) (s' := ⟨h4, gens3, dr3, tk3, os3⟩) same (un_less un stays (Nat.le_succ _) unknown alike) (hok_less ok ea alike) bare (fun b y => absurd y (by simp))
      have back : ∀ b o, h4.get? b = some o → h3.get? b = some o := by
        intro b o y
        rcases Nat.decEq b (hp.objs.size + 1) with nb | rfl
        · exact (alike b nb).symm.trans y
        · rw [lost] at y
          exact nomatch y
      exact ⟨none_, _, _, _, _, _, .ref C, none, rfl, J4, back, lost, obj, ⟨rfl, rfl⟩, rfl, rfl, del_same, rfl, bare, raises_own cls.exc.1 cls.exc.2.1, w3⟩
    | _ => exact z.elim
end
end L2

/-! repr of lists whose elements have a __repr__ of their own. -/
namespace L2
open PySem PySem.Spec PyProof.Rows
theorem rl_depth {A : Around} {args : Args} : (A.under (.builtin "list.__repr__.loop" args)).depth ≤ A.depth + 1 := by
  first | exact Nat.le_of_eq rfl | simp [Around.under, Code.weight, Code.isCreation, Code.isGuard, Code.isCaller, Code.frames, Code.isFrame, guardIds]
theorem rl_units {A : Around} {args : Args} : (A.under (.builtin "list.__repr__.loop" args)).units ≤ A.units + 1 := by
  first | exact Nat.le_of_eq rfl | simp [Around.under, Code.cUnits, Code.frames, Code.isFrame]
theorem rl_frames {A : Around} {args : Args} : (A.under (.builtin "list.__repr__.loop" args)).frames = A.frames := by
  first | rfl | simp [Around.under, Code.envs, Code.isFrame, pushEnvs]
theorem rl_handled {A : Around} {args : Args} : (A.under (.builtin "list.__repr__.loop" args)).handled = A.handled := by
  first | rfl | simp [Around.under]
theorem Room.rl {k : Nat} {A : Around} (r : Room (k + 1) A) (args : Args) : Room k (A.under (.builtin "list.__repr__.loop" args)) :=
  ⟨by rw [rl_handled]; exact r.hd, by have := r.dp; have := @rl_depth A args; omega, by have := r.un; have := @rl_units A args; omega⟩
/-- v is shown as t, wherever there is room; J holds of the heap before and behind -/
def Sh (X : Cx) (k : Nat) (J : Hp → Prop) (v : V) (t : Str) : Prop :=
  ∀ (A' : Around) (pins : List (Addr × Obj)) (s : Shared) (σ : St) (H : Hp) (u : Value) (b : Nat) (E : Value → Shared → Prop) (Q : Str → Shared → Prop), A'.frames = some X.stack → Room k A' → Inv X pins σ H s → J H → RelV v u → b + t.length ≤ sizeLine →
    (∀ s' H', Inv X pins σ H' s' → J H' → Q t s') → wpAny (model X.prog X.w) A' (pyReprUnder b u) Q E s
theorem Sh.mono {X : Cx} {j k : Nat} {J : Hp → Prop} {v : V} {t : Str} (S : Sh X j J v t) (h : j ≤ k) : Sh X k J v t := fun A' pins s σ H u b E Q hf hr => S A' pins s σ H u b E Q hf (hr.mono h)
section
variable {X : Cx} {k : Nat} {J : Hp → Prop}
theorem sh_int {i : Int} (hi : i.natAbs.log2 < 1920) : Sh X k J (.int i) (toString i) := by
  intro A' pins s σ H u b E Q hf hr I j r hb q
  obtain ⟨t, rfl⟩ := r
  exact ReprIs.int t hi b hb A' E s Q fun tk => q _ H (I.tok tk) j
/-- an instance that has its own __repr__ -/
theorem sh_own {C g a : Addr} {sp : Sp} {t : Str} (hs : PySem.W.findIn X.K (.ref C) "__repr__" = some (some (.ref g))) (hf : PySem.W.isFn X.K (.ref g) = true) (F : FnR X.prog X.w X.K X.mg X.base CX0 k g sp)
    (hi : ∀ H, J H → ∃ dx fs, H a = some (.ins C dx fs)) (hsp : ∀ H, J H → sp [.ref a] H (fun r H' => r = .str t ∧ J H') E0) : Sh X k J (.ref a) t := by
  intro A' pins s σ H u b E Q hfr hr I j r hb q
  obtain rfl : u = Value.ref a := r
  obtain ⟨dx, fs, ha⟩ := hi H j
  obtain ⟨mA, M, _⟩ := ins_get I.hok ha
  obtain ⟨od, It, _⟩ := M.look
  refine wpAny_pyReprUnder_ref (by omega) ?_
  unfold pyReprObjUnder pyReprObjBy
  refine wpAny_bind (wpAny_cRoomFor hr.units0 ?_)
  refine wpAny_bind (wpAny_bind (It.type.here ((PySem.W.looks_findIn I.kIn hs).here ?_)))
  show wpAny _ _ (if (some (Value.ref g)).isNone = true then _ else _) _ _ _
  rw [if_neg (by simp)]
  have hcall : wpAny (model X.prog X.w) A' (call (.ref g) [.ref a]) (fun v s' => ∃ y tk, v = .str y tk ∧ Q y s') E s := by
    refine wpAny_call (codeAny_mono (F A' X.stack s H [.ref a] [.ref a] _ E0 hr ⟨hfr, I.env0.mod, I.env0.bs, I.env0.bsz, I.env0.funs, I.env0.frf, I.env0.hok, I.env0.bare⟩ (.cons rfl .nil) (hsp H j)) fun r s' hq => ?_)
    cases r with
    | error e => exact False.elim hq
    | ok fl =>
      cases fl with
      | ret u =>
        obtain ⟨v, H', I', rv, ev, j'⟩ := I.after hq
        subst ev
        obtain ⟨tk, rfl⟩ := rv
        exact ⟨t, tk, rfl, q _ _ I' j'⟩
      | next => exact False.elim hq
      | brk => exact False.elim hq
      | cont => exact False.elim hq
  refine wpAny_bind (m := callSpecialIfBoundBy? _ (.ref a) (Str.ofString "__repr__")) ?_
  simp only [callSpecialIfBoundBy?, bindSpecialIfBound?]
  refine wpAny_holding (wpAny_bind (wpAny_bind (wpAny_bind (It.type.here ((PySem.W.looks_findIn I.kIn hs).here ?_)))))
  refine wpAny_bind (wpAny_askSetting (wpAny_ite ?_))
  have fin : ∀ {Q' : Option Value → Shared → Prop}, (∀ y tk s', Q y s' → Q' (some (.str y tk)) s') → wpAny (model X.prog X.w) A' (call (.ref g) ([.ref a] ++ []) >>= fun v => pure (some v)) Q' E s := fun {Q'} hq => wpAny_bind (wpAny_mono hcall (fun v s' ⟨y, tk, e, h'⟩ => by subst e; exact wpAny_pure (hq y tk s' h')) fun _ _ h' => h')
  have fin2 : ∀ y tk s', Q y s' → wpAny (model X.prog X.w) A' (do if ← isInstance (.str y tk) (.type "str") then pure (Value.str y tk) else raiseError "TypeError" s!"__repr__ returned non-string (type {← typeNameOf (.str y tk)})") (fun v s' => ∃ x u, v = .str x u ∧ Q x s') E s' := fun y tk s' h => by
    refine wpAny_bind (wpAny_isInstance (T := "str") (b := true) rfl isSubtype_str_str ?_)
    exact wpAny_pure ⟨y, tk, rfl, h⟩
  split
  · exact wpAny_bind ((PySem.W.bind_fn I.kIn _ (beq_iff_eq.mp hf)).here (wpAny_pure (fin fin2)))
  · exact wpAny_tryCatch (wpAny_bind ((PySem.W.bind_fn I.kIn _ (beq_iff_eq.mp hf)).here (wpAny_pure (fin fin2))))
end
end L2

namespace L2
open PySem PySem.Spec PyProof.Rows
theorem in1_depth {A : Around} : A.in1.depth ≤ A.depth + 1 := by
  first | exact Nat.le_of_eq rfl | exact Nat.le_succ _ | simp [Around.in1]
theorem Room.in1' {k : Nat} {A : Around} (r : Room (k + 1) A) : Room k A.in1 :=
  ⟨r.hd, by have := r.dp; have := @in1_depth A; omega, by have := r.un; have e : A.in1.units = A.units + 1 := rfl; omega⟩
section
variable {X : Cx} {k : Nat} {J : Hp → Prop}
/-- repr(x), x an instance with its own __repr__ -/
theorem call_reprO {C g : Addr} {sp : Sp} {E : XK} (hs : PySem.W.findIn X.K (.ref C) "__repr__" = some (some (.ref g))) (hf : PySem.W.isFn X.K (.ref g) = true) (F : FnR X.prog X.w X.K X.mg X.base CX0 k g sp) (hr : Room (k + 1) X.A) :
    CallR X (.builtin "repr") (fun us H Q => ∃ a dx fs, us = [.ref a] ∧ H a = some (.ins C dx fs) ∧ sp [.ref a] H (fun v H' => ∃ t, v = .str t ∧ Q (.str t) H') E0) := by
  rintro pins s σ H _ us Q I r ⟨a, dx, fs, rfl, ha, q⟩
  rcases vals1 r with ⟨_, rfl, rfl⟩
  have M := (ins_get I.hok ha).choose_spec.1
  obtain ⟨od, It, _⟩ := M.look
  obtain ⟨m, hF⟩ := I.fr
  refine PySem.W.repr_K (by have := hr.un; show X.A.units + 1 < cLine; omega) hF I.ok.mod.kin It hs hf ?_
  have run := F X.A.in1 X.stack s H [.ref a] [.ref a] _ E0 hr.in1' I.env0.in1 (show Vals [V.ref a] [Value.ref a] from .cons rfl .nil) q
  refine wpAny_call (codeAny_mono run ?_)
  rintro (er | fl) s1 z
  · exact False.elim z
  · cases fl with
    | ret u =>
      obtain ⟨_, H1, J1, rv, t, rfl, w⟩ := I.after z
      obtain ⟨tk, rfl⟩ := rv
      exact ⟨.str t, H1, J1, ⟨tk, rfl⟩, w⟩
    | _ => exact False.elim z
end
end L2

/-! x op y, x == y, x != y, str(x): x an instance with own methods, y an instance, an int or a text. -/
namespace L2
open PySem PySem.Spec PyProof.Rows
section
variable {X : Cx} {k : Nat} {pins : List (Addr × Obj)} {σ : St} {H : Hp} {s : Shared}
theorem run_fnA {A' : Around} {f : Addr} {sp : Sp} {Q : VK} {us : List Value} {vs : List V} {E : Value → Shared → Prop} (F : FnR X.prog X.w X.K X.mg X.base CX0 k f sp) (hf : A'.frames = some X.stack) (hr : Room k A') (I : Inv X pins σ H s) (r : Vals vs us) (h : sp vs H Q E0) :
    wpAny (model X.prog X.w) A' (call (.ref f) us) (EP X pins σ Q) E s := by
  refine wpAny_call (codeAny_mono (F A' X.stack s H us vs Q E0 hr ⟨hf, I.env0.mod, I.env0.bs, I.env0.bsz, I.env0.funs, I.env0.frf, I.env0.hok, I.env0.bare⟩ r h) fun r s' hq => ?_)
  cases r with
  | error e => exact False.elim hq
  | ok fl =>
    cases fl with
    | ret u => exact I.after hq
    | next => exact False.elim hq
    | brk => exact False.elim hq
    | cont => exact False.elim hq
/-- the right side: an instance of C, an int, a text -/
inductive Side (C : Addr) (H : Hp) : V → Value → Prop where
  | ins {b dy : Addr} {gs : List (Str × V)} (h : H b = some (.ins C dy gs)) : Side C H (.ref b) (.ref C)
  | int (i : Int) : Side C H (.int i) (.type "int")
  | str (t : Str) : Side C H (.str t) (.type "str")
theorem Side.look {C : Addr} {y : V} {u tb : Value} (d : Side C H y tb) (I : Inv X pins σ H s) (r : RelV y u) : PySem.W.Looks (model X.prog X.w) s.heap (typeOf u) tb := by
  cases d with
  | ins h =>
    obtain rfl : u = Value.ref _ := r
    obtain ⟨mA, M, _⟩ := ins_get I.hok h
    obtain ⟨od, J, _⟩ := M.look
    exact J.type
  | int i =>
    obtain ⟨t, rfl⟩ := r
    exact PySem.W.Looks.of_pure rfl
  | str x =>
    obtain ⟨t, rfl⟩ := r
    exact PySem.W.Looks.of_pure rfl
/-- x op y, y an instance or an int -/
def rOwnM (C : Addr) (sp : Sp) : R2 := fun x y H Q => ∃ a dx fs, x = .ref a ∧ H a = some (.ins C dx fs) ∧ ((∃ b dy gs, y = .ref b ∧ H b = some (.ins C dy gs)) ∨ ∃ i, y = .int i) ∧ sp [x, y] H Q E0
theorem op_ownM {C g : Addr} {op : Operator} {sp : Sp} {fo ro : Option Value} (hc : PySem.W.selfFirst X.K C = true) (hs : PySem.W.findIn X.K (.ref C) (PySem.dunder op.info.2) = some (some (.ref g))) (hf : PySem.W.isFn X.K (.ref g) = true)
    (hr2 : PySem.W.findIn X.K (.ref C) (dunderR op.info.2) = some none) (h1 : PySem.W.findIn X.K (.type "int") (PySem.dunder op.info.2) = some fo) (h2 : PySem.W.findIn X.K (.type "int") (dunderR op.info.2) = some ro) (hsub : PySem.W.subIn X.K (.type "int") (.ref C) = some false)
    (F : FnR X.prog X.w X.K X.mg X.base CX0 k g sp) (hr : Room k X.A) : OpR X (binaryOp op) (rOwnM C sp) := by
  intro pins s σ H x y v u Q I rx ry h
  obtain ⟨a, dx, fs, rfl, ha, hy, q⟩ := h
  cases (show v = Value.ref a from rx)
  obtain ⟨mA, M, _⟩ := ins_get I.hok ha
  obtain ⟨od, J, _⟩ := M.look
  obtain ⟨m, hF⟩ := I.fr
  have run : wpAny (model X.prog X.w) X.A (call (.ref g) [.ref a, u]) (PySem.W.CmpBack (EP X pins σ Q)) X.xe s := by
    refine wpAny_mono (run_fnA (vs := [.ref a, y]) F I.ok.frames hr I (.cons rfl (.cons ry .nil)) q) (fun w s' z => ?_) fun _ _ x => x
    obtain ⟨z', H', I', rz, qz⟩ := z
    exact SlX.cmpback rz ⟨z', H', I', rz, qz⟩
  rcases hy with ⟨b, dy, gs, rfl, hb⟩ | ⟨i, rfl⟩
  · cases (show u = Value.ref b from ry)
    obtain ⟨mB, M', _⟩ := ins_get I.hok hb
    obtain ⟨od', J', _⟩ := M'.look
    exact PySem.W.binop_K hF I.ok.mod.kin J J'.type hc hs hf run
  · obtain ⟨t, rfl⟩ := ry
    exact PySem.W.ksp_binT (T := "int") hF I.ok.mod.kin J rfl hc hs hf hr2 (.inl rfl) h1 h2 hsub run
/-- what the own __eq__ is asked -/
def rOwnEq (C : Addr) (sp : Sp) (neg : Bool) : R2 := fun x y H Q => ∃ a dx fs tb, x = .ref a ∧ H a = some (.ins C dx fs) ∧ Side C H y tb ∧ sp [x, y] H (fun v H' => ∃ b, v = .bl b ∧ Q (.bl (xor neg b)) H') E0
theorem op_ownEq {C g : Addr} {sp : Sp} (hs : PySem.W.findIn X.K (.ref C) "__eq__" = some (some (.ref g))) (hf : PySem.W.isFn X.K (.ref g) = true) (hi : PySem.W.notFirst X.K C (.type "int") = true) (hst : PySem.W.notFirst X.K C (.type "str") = true)
    (F : FnR X.prog X.w X.K X.mg X.base CX0 k g sp) (hr : Room k X.A) : OpR X (compareOp .Eq) (rOwnEq C sp false) := by
  intro pins s σ H x y v u Q I rx ry h
  obtain ⟨a, dx, fs, tb, rfl, ha, hy, q⟩ := h
  cases (show v = Value.ref a from rx)
  obtain ⟨mA, M, _⟩ := ins_get I.hok ha
  obtain ⟨od, J, _⟩ := M.look
  obtain ⟨m, hF⟩ := I.fr
  have hn : PySem.W.notFirst X.K C tb = true := by
    cases hy with
    | ins _ => unfold PySem.W.notFirst; simp
    | int _ => exact hi
    | str _ => exact hst
  show wpAny _ _ (richCompare .Eq (.ref a) u) _ _ _
  refine PySem.W.cmp_K hr.units0 hF I.ok.mod.kin J (hy.look I ry) hn hs hf ?_
  refine wpAny_mono (run_fnA (vs := [.ref a, y]) F I.ok.frames hr I (.cons rfl (.cons ry .nil)) q) (fun w s' z => ?_) fun _ _ x => x
  obtain ⟨z', H', I', rz, b, rfl, qz⟩ := z
  obtain rfl : w = Value.bool b := rz
  exact ⟨.bl b, H', I', rfl, by rw [Bool.false_xor] at qz; exact qz⟩
theorem op_ownNe {C g : Addr} {sp : Sp} (hs : PySem.W.findIn X.K (.ref C) "__eq__" = some (some (.ref g))) (hf : PySem.W.isFn X.K (.ref g) = true) (hne : PySem.W.findIn X.K (.ref C) "__ne__" = some (some (.builtin "object.__ne__"))) (hm : PySem.W.mroIn X.K C (.type "object") = some true)
    (hi : PySem.W.notFirst X.K C (.type "int") = true) (hst : PySem.W.notFirst X.K C (.type "str") = true)
    (F : FnR X.prog X.w X.K X.mg X.base CX0 k g sp) (hr : Room (k + 1) X.A) : OpR X (compareOp .NotEq) (rOwnEq C sp true) := by
  intro pins s σ H x y v u Q I rx ry h
  obtain ⟨a, dx, fs, tb, rfl, ha, hy, q⟩ := h
  cases (show v = Value.ref a from rx)
  obtain ⟨mA, M, _⟩ := ins_get I.hok ha
  obtain ⟨od, J, _⟩ := M.look
  have hn : PySem.W.notFirst X.K C tb = true := by
    cases hy with
    | ins _ => unfold PySem.W.notFirst; simp
    | int _ => exact hi
    | str _ => exact hst
  have one : wpAny (model X.prog X.w) X.A (tryCompare (.ref a) "__ne__" u) (fun r s' => ∃ v, r = some v ∧ EP X pins σ Q v s') X.xe s := by
    unfold tryCompare
    have hc : wpAny (model X.prog X.w) X.A (call (.builtin "object.__ne__") [.ref a, u]) (fun v s' => ∃ b, v = .bool b ∧ EP X pins σ Q (.bool b) s') X.xe s := by
      refine wpAny_call (codeAny_call_builtin PySem.F.cmp_object.ne.plain PySem.F.cmpEntry_ne (PySem.W.check_slot PySem.F.cmpKind_ne PySem.F.cmpSplit_ne (J.type.andThen (PySem.W.looks_mroIn I.kIn hm)) (PySem.F.cmpArgs_ne _ _) ?_))
      unfold Builtin.«object.__ne__»
      refine wpAny_bind (m := slotArgs "__ne__" 1 _) (wpAny_pure ?_)
      refine wpAny_bind (m := cRoomFor _ _) (wpAny_cRoomFor (by have := hr.un; show X.A.units + 1 < cLine; omega) ?_)
      refine wpAny_bind (m := callSpecialIfBound? (.ref a) (Str.ofString "__eq__") [u]) (PySem.W.ifBound_K I.kIn J hs hf (wpAny_mono (run_fnA (A' := X.A.in1) (vs := [.ref a, y]) F I.ok.frames hr.in1 I (.cons rfl (.cons ry .nil)) q) (fun w s' z => ?_) fun _ _ x => x))
      obtain ⟨z', H', I', rz, b, rfl, qz⟩ := z
      obtain rfl : w = Value.bool b := rz
      refine wpAny_bind (m := truthy (.bool b)) (wpAny_truthy_bool (wpAny_pure ⟨_, rfl, .bl (!b), H', I', rfl, by rw [Bool.true_xor] at qz; exact qz⟩))
    refine wpAny_bind (m := callSpecialIfBound? (.ref a) (Str.ofString "__ne__") [u]) ?_
    simp only [callSpecialIfBound?, bindSpecialIfBound?]
    refine wpAny_holding (wpAny_bind (wpAny_bind (wpAny_bind (J.type.here ((PySem.W.looks_findIn I.kIn hne).here ?_)))))
    simp only [PySem.F.cmp_object.ne.bind]
    refine wpAny_bind (wpAny_askSetting (wpAny_ite ?_))
    have fin : ∀ {Q' : Option Value → Shared → Prop}, (∀ b s', EP X pins σ Q (.bool b) s' → Q' (some (.bool b)) s') → wpAny (model X.prog X.w) X.A (call (.builtin "object.__ne__") ([.ref a] ++ [u]) >>= fun v => pure (some v)) Q' X.xe s := fun {Q'} hq => wpAny_bind (wpAny_mono hc (fun v s' ⟨b, e, h'⟩ => by subst e; exact wpAny_pure (hq b s' h')) fun _ _ h' => h')
    split
    · exact wpAny_bind (wpAny_pure (wpAny_pure (fin fun b s' h' => wpAny_pure ⟨_, rfl, h'⟩)))
    · exact wpAny_tryCatch (wpAny_bind (wpAny_pure (wpAny_pure (fin fun b s' h' => wpAny_pure ⟨_, rfl, h'⟩))))
  have apart : (Value.ref C != tb) = true → PySem.W.subIn X.K tb (.ref C) = some false := fun z => by
    rcases Bool.or_eq_true_iff.mp hn with y | y
    · exact absurd (beq_iff_eq.mp y) (by intro e; rw [e] at z; simp at z)
    · exact beq_iff_eq.mp y
  show wpAny _ _ (richCompare .NotEq (.ref a) u) _ _ _
  simp only [richCompare, oneThing_ref, cmpInfo_NotEq]
  refine wpAny_holding (wpAny_bind (wpAny_cRoomFor hr.units0 (wpAny_bind (J.type.here (wpAny_bind ((hy.look I ry).here ?_))))))
  by_cases z : (Value.ref C != tb) = true
  · rw [if_pos z]
    exact wpAny_bind ((PySem.W.looks_subIn I.kIn (apart z)).here (wpAny_bind (wpAny_mono one (fun _ _ ⟨_, e, y⟩ => by subst e; exact wpAny_pure y) fun _ _ y => y)))
  · rw [if_neg z]
    first
      | exact wpAny_bind (wpAny_pure (wpAny_bind (wpAny_mono one (fun _ _ ⟨_, e, y⟩ => by subst e; exact wpAny_pure y) fun _ _ y => y)))
      | exact wpAny_bind (wpAny_mono one (fun _ _ ⟨_, e, y⟩ => by subst e; exact wpAny_pure y) fun _ _ y => y)
/-- str(x) by the own __str__ -/
theorem call_strO {C g : Addr} {sp : Sp} (hs : PySem.W.findIn X.K (.ref C) "__str__" = some (some (.ref g))) (hf : PySem.W.isFn X.K (.ref g) = true) (F : FnR X.prog X.w X.K X.mg X.base CX0 k g sp) (hr : Room (k + 2) X.A) :
    CallR X (.type "str") (fun us H Q => ∃ a dx fs, us = [.ref a] ∧ H a = some (.ins C dx fs) ∧ sp [.ref a] H (fun v H' => ∃ t, v = .str t ∧ Q (.str t) H') E0) := by
  rintro pins s σ H _ us Q I r ⟨a, dx, fs, rfl, ha, q⟩
  rcases vals1 r with ⟨_, rfl, rfl⟩
  have M := (ins_get I.hok ha).choose_spec.1
  obtain ⟨od, It, _⟩ := M.look
  refine PySem.W.kso_call (by have := hr.un; show X.A.units + 1 + 1 < cLine; omega) I.kIn It hs hf ?_
  refine wpAny_mono (run_fnA (A' := X.A.in1.in1) (vs := [.ref a]) F I.ok.frames hr.in1.in1 I (.cons rfl .nil) q) (fun w s' z => ?_) fun _ _ x => x
  obtain ⟨z', H', I', rz, t, rfl, qz⟩ := z
  obtain ⟨tk, rfl⟩ := rz
  exact ⟨.str t, H', I', ⟨tk, rfl⟩, qz⟩
end
end L2

/-! How values are shown, wherever a repr may be under way: B, the containers that must not be under way. -/
namespace L2
open PySem PySem.Spec PyProof.Rows
def Clr (g : List Code) (B : Addr → Prop) : Prop := ∀ c, B c → Clear g c
theorem Clr.nil (B : Addr → Prop) : Clr [] B := fun c _ => Clear.nil c
/-- v is shown as t: within a container, by !r, by repr(..); J holds of the heap before and behind -/
structure Sg (X : Cx) (k : Nat) (J : Hp → Prop) (B : Addr → Prop) (v : V) (t : Str) : Prop where
  under : ∀ (A' : Around) (g : List Code) (pins : List (Addr × Obj)) (s : Shared) (σ : St) (H : Hp) (u : Value) (b : Nat) (E : Value → Shared → Prop) (Q : Str → Shared → Prop), A'.frames = some X.stack → A'.guards = some g → Clr g B → Room k A' → Inv X pins σ H s → J H → RelV v u → b + t.length ≤ sizeLine →
    (∀ s' H', Inv X pins σ H' s' → J H' → Q t s') → wpAny (model X.prog X.w) A' (pyReprUnder b u) Q E s
  obj : ∀ (A' : Around) (g : List Code) (pins : List (Addr × Obj)) (s : Shared) (σ : St) (H : Hp) (u : Value) (E : Value → Shared → Prop) (Q : Value → Shared → Prop), A'.frames = some X.stack → A'.guards = some g → Clr g B → Room k A' → Inv X pins σ H s → J H → RelV v u → t.length ≤ sizeLine →
    (∀ s' H' tk, Inv X pins σ H' s' → J H' → Q (.str t tk) s') → wpAny (model X.prog X.w) A' (pyReprObj u) Q E s
  call : ∀ (A' : Around) (g : List Code) (pins : List (Addr × Obj)) (s : Shared) (σ : St) (H : Hp) (u : Value) (E : Value → Shared → Prop) (Q : Value → Shared → Prop), A'.frames = some X.stack → A'.guards = some g → Clr g B → Room (k + 1) A' → Inv X pins σ H s → J H → RelV v u → t.length ≤ sizeLine →
    (∀ s' H' tk, Inv X pins σ H' s' → J H' → Q (.str t tk) s') → wpAny (model X.prog X.w) A' (PySem.call (.builtin "repr") [u]) Q E s
theorem Sg.mono {X : Cx} {j k : Nat} {J : Hp → Prop} {B B' : Addr → Prop} {v : V} {t : Str} (S : Sg X j J B v t) (h : j ≤ k) (hB : ∀ b, B b → B' b) : Sg X k J B' v t :=
  ⟨fun A' g pins s σ H u b E Q hf hg hc hr => S.under A' g pins s σ H u b E Q hf hg (fun c hc' => hc c (hB c hc')) (hr.mono h), fun A' g pins s σ H u E Q hf hg hc hr => S.obj A' g pins s σ H u E Q hf hg (fun c hc' => hc c (hB c hc')) (hr.mono h),
   fun A' g pins s σ H u E Q hf hg hc hr => S.call A' g pins s σ H u E Q hf hg (fun c hc' => hc c (hB c hc')) (hr.mono (Nat.succ_le_succ h))⟩
section
variable {X : Cx} {k : Nat} {J : Hp → Prop} {B : Addr → Prop}
theorem sg_int {i : Int} (hi : i.natAbs.log2 < 1920) : Sg X k J B (.int i) (toString i) :=
  ⟨fun A' g pins s σ H u b E Q hf hg hc hr I j r hb q => by
    obtain ⟨t, rfl⟩ := r
    exact ReprIs.int t hi b hb A' E s Q fun tk => q _ H (I.tok tk) j,
  fun A' g pins s σ H u E Q hf hg hc hr I j r hb q => by
    obtain ⟨t, rfl⟩ := r
    exact pyReprObj_int hi (q _ H _ (I.tok _) j),
  fun A' g pins s σ H u E Q hf hg hc hr I j r hb q => by
    obtain ⟨t, rfl⟩ := r
    exact PySem.P.repr_of_int hi (q _ H _ (I.tok _) j)⟩
theorem sg_str {x : Str} (hx : (reprText x).length ≤ sizeLine) : Sg X k J B (.str x) (reprText x) :=
  ⟨fun A' g pins s σ H u b E Q hf hg hc hr I j r hb q => by
    obtain ⟨t, rfl⟩ := r
    exact ReprIs.str x t hx b hb A' E s Q fun tk => q _ H (I.tok tk) j,
  fun A' g pins s σ H u E Q hf hg hc hr I j r hb q => by
    obtain ⟨t, rfl⟩ := r
    exact pyReprObj_str (q _ H _ (I.tok _) j) hx,
  fun A' g pins s σ H u E Q hf hg hc hr I j r hb q => by
    obtain ⟨t, rfl⟩ := r
    exact PySem.P.repr_of_str (q _ H _ (I.tok _) j) hx⟩
theorem sg_bl {x : Bool} : Sg X k J B (.bl x) (if x then "True" else "False") :=
  ⟨fun A' g pins s σ H u b E Q hf hg hc hr I j r hb q => by
    obtain rfl : u = Value.bool x := r
    exact ReprIs.bool x b hb A' E s Q fun tk => q _ H (I.tok tk) j,
  fun A' g pins s σ H u E Q hf hg hc hr I j r hb q => by
    obtain rfl : u = Value.bool x := r
    exact pyReprObj_bool (q _ H _ (I.tok _) j),
  fun A' g pins s σ H u E Q hf hg hc hr I j r hb q => by
    obtain rfl : u = Value.bool x := r
    exact PySem.P.repr_of_bool (q _ H _ (I.tok _) j)⟩
theorem sg_non : Sg X k J B .non "None" :=
  ⟨fun A' g pins s σ H u b E Q hf hg hc hr I j r hb q => by
    obtain rfl : u = Value.none := r
    exact ReprIs.none b hb A' E s Q fun tk => q _ H (I.tok tk) j,
  fun A' g pins s σ H u E Q hf hg hc hr I j r hb q => by
    obtain rfl : u = Value.none := r
    exact pyReprObj_none (q _ H _ (I.tok _) j),
  fun A' g pins s σ H u E Q hf hg hc hr I j r hb q => by
    obtain rfl : u = Value.none := r
    exact PySem.P.repr_of_none (q _ H _ (I.tok _) j)⟩
/-- the empty list -/
theorem sg_nil {a : Addr} (hJ : ∀ H, J H → H a = some (.lst [])) : Sg X k J B (.ref a) "[]" :=
  ⟨fun A' g pins s σ H u b E Q hf hg hc hr I j r hb q => by
    obtain rfl : u = Value.ref a := r
    obtain ⟨_, its, nn, rv, ha⟩ := (show ObjOk X.prog X.w H s.heap a (.lst []) from I.hok a _ (hJ H j))
    cases rv
    exact wpAny_pyReprUnder_ref (by omega) (wpAny_pyReprObjUnder_list_empty ⟨_, ha, rfl⟩ hr.units0 ha rfl ⟨_, _, rfl, q _ H (I.tok _) j⟩),
  fun A' g pins s σ H u E Q hf hg hc hr I j r hb q => by
    obtain rfl : u = Value.ref a := r
    obtain ⟨_, its, nn, rv, ha⟩ := (show ObjOk X.prog X.w H s.heap a (.lst []) from I.hok a _ (hJ H j))
    cases rv
    exact wpAny_pyReprObj_list_empty ⟨_, ha, rfl⟩ hr.units0 ha rfl (q _ H _ (I.tok _) j),
  fun A' g pins s σ H u E Q hf hg hc hr I j r hb q => by
    obtain rfl : u = Value.ref a := r
    obtain ⟨_, its, nn, rv, ha⟩ := (show ObjOk X.prog X.w H s.heap a (.lst []) from I.hok a _ (hJ H j))
    cases rv
    exact call_repr_slot (by have := hr.un; omega) ⟨_, ha, rfl⟩ F.slot_list_repr.toG (call_list_repr_empty ⟨_, ha, rfl⟩ ha rfl ⟨_, _, rfl, q _ H _ (I.tok _) j⟩)⟩
end
end L2

namespace L2
open PySem PySem.Spec PyProof.Rows
abbrev lobj (acc : Array Value) (c : Nat) : Obj := { cls := .type "list", dict := none, data := .seq acc c, slots := #[] }
/-- a shown list bounds its length and its items' texts -/
theorem shown_in_line {xs : List V} {ts : List Str} (same : ts.length = xs.length) (fits : (listText ts).length ≤ sizeLine) : xs.length ≤ sizeLine ∧ ∀ t ∈ ts, t.length ≤ sizeLine := by
  obtain ⟨all, each, _⟩ := textFrom_len ts 0 "["
  have whole : (listText ts).length = (textFrom 0 "[" ts).length + 1 := strLen_append _ _
  have none_ : ¬ (0 : Nat) > 0 := by decide
  simp only [none_, if_false] at all
  exact ⟨by omega, fun t ht => Nat.le_trans (each t ht) (by omega)⟩
section
variable {X : Cx} {k : Nat} {J : Hp → Prop} {B : Addr → Prop}
theorem rg_run {A : Around} {g : List Code} {R : Result → Shared → Prop} {a P : Addr} {xs : List V} {ts : List Str} {b : Nat} {pins : List (Addr × Obj)} {σ : St} (hfr : A.frames = some X.stack) (hg : A.guards = some g) (hcl : Clr g B) (hna : ¬ B a) (hr : Room (k + 1) A) (hJ : ∀ H, J H → H a = some (.lst xs))
    (hlen : ts.length = xs.length) (hT : ∀ (i : Nat) (v : V), xs[i]? = some v → ∃ t, ts[i]? = some t ∧ Sg X k J B v t) (hsz : b + (listText ts).length ≤ sizeLine)
    (hP1 : X.s_0.heap.objs.size ≤ P) (hP2 : ∀ p ∈ X.pn ++ pins, p.1 ≠ P)
    (hR : ∀ s' H' u, Inv X pins σ H' s' → J H' → R (.ok (.ret (.str (listText ts) u))) s') :
    ∀ (n i : Nat) (s : Shared) (H : Hp) (acc : Array Value) (c : Nat) (done : List (Str × Tok)), xs.length - i = n → i ≤ xs.length → Inv X ((P, lobj acc c) :: pins) σ H s → J H → acc.toList = strValues done → done.map (·.1) = ts.take i →
    codeAny (model X.prog X.w) A (.builtin "list.__repr__.loop" ⟨[.ref a, rawInt i, .ref P, rawInt ((b + piled (ts.take i) : Nat) : Int)], []⟩) R s := by
  obtain ⟨hsz1, hsz2⟩ := shown_in_line hlen (Nat.le_trans (Nat.le_add_left _ _) hsz)
  have hsz3 : (listText ts).length ≤ sizeLine := by omega
  have hp3 := piled_le_listText ts
  have drop : ∀ {acc : Array Value} {c : Nat} {H : Hp} {s : Shared}, Inv X ((P, lobj acc c) :: pins) σ H s → Inv X pins σ H s := fun I => I.pins_of fun p hp => I.pin p (List.mem_append_right _ (List.mem_cons_of_mem _ hp))
  intro n
  induction n with
  | zero =>
    intro i s H acc c done hk hi I j hacc hdone
    have hin : i = xs.length := by omega
    obtain ⟨_, its, nn, rv, ha⟩ := (show ObjOk X.prog X.w H s.heap a (.lst xs) from I.hok a _ (hJ H j))
    have hlv := rv.length
    obtain ⟨hPo, hPn, hPl, hPf, _⟩ := I.pin (P, lobj acc c) (List.mem_append_right _ List.mem_cons_self)
    refine codeAny_builtin F.entry_list_repr_loop ?_
    show wpAny _ _ (Builtin.«list.__repr__.loop» ⟨[.ref a, .int i 0, .ref P, .int ((b + piled (ts.take i) : Nat) : Int) 0], []⟩) _ _ s
    rw [repr_loop_tree]
    refine wpAny_bind (wpAny_listItems ha rfl ?_)
    have over : its.toArray[(i : Int).toNat]? = none := by simp [hin, hlv]
    have whole : done.map (·.1) = ts := by simpa [hin, ← hlen] using hdone
    rw [over]
    dsimp only
    unfold reprEnd
    exact wpAny_bind (wpAny_listItems hPo rfl (by rw [hacc, repr_fold, whole]; exact wpAny_bind (wpAny_pure (wpAny_bind (wpAny_mkStr (wpAny_pure (hR _ H _ ((drop I).tok _) j)) hsz3)))))
  | succ n ih =>
    intro i s H acc c done hk hi I j hacc hdone
    have hlt : i < xs.length := by omega
    obtain ⟨_, its, nn, rv, ha⟩ := (show ObjOk X.prog X.w H s.heap a (.lst xs) from I.hok a _ (hJ H j))
    have hlv := rv.length
    obtain ⟨t, ht, hrep⟩ := hT i xs[i] (by simp [hlt])
    obtain ⟨u, hu, ru⟩ := rv.get (show xs[i]? = some xs[i] by simp [hlt])
    have grown := And.intro (piled_take_succ ht) (piled_take_le ts (i + 1))
    obtain ⟨hp1, hp2⟩ := grown
    have here : its.toArray[(i : Int).toNat]? = some u := by simpa using hu
    refine codeAny_builtin F.entry_list_repr_loop ?_
    change wpAny _ _ (Builtin.«list.__repr__.loop» ⟨[.ref a, .int i 0, .ref P, .int ((b + piled (ts.take i) : Nat) : Int) 0], []⟩) _ _ s
    rw [repr_loop_tree]
    refine wpAny_bind (wpAny_listItems ha rfl ?_)
    rw [here, Int.toNat_natCast]
    dsimp only
    refine wpAny_bind (wpAny_holding (hrep.under _ _ ((P, lobj acc c) :: pins) s σ H u (b + piled (ts.take i) + 1) _ _ (by rw [rl_frames]; exact hfr) (guards_under_guard (isGuard_list_loop _) hg) (fun c hc => (hcl c hc).cons (a := a) fun e => hna (e ▸ hc)) (hr.rl _) I j ru (by omega) fun s1 H1 I1 j1 => ?_))
    have short := hsz2 t (List.mem_of_getElem? ht)
    refine wpAny_bind (wpAny_mkStr (wpAny_bind ?_) short)
    change wpAny _ _ (updateSeq P _) _ _ _
    have hasz : acc.size ≤ sizeLine := by
      have gathered := congrArg List.length hacc
      have told := congrArg List.length hdone
      simp only [strValues, List.length_map, List.length_take, Array.length_toList] at gathered told
      omega
    obtain ⟨hPo, hPn, hPl, hPf, _⟩ := I1.pin (P, lobj acc c) (List.mem_append_right _ List.mem_cons_self)
    refine wpAny_updateSeq hPo rfl (wpAny_pure ⟨F.quiet_list_repr_loop _, ?_⟩) hasz
    rw [show ((i : Int) + 1) = ((i + 1 : Nat) : Int) by omega, show b + piled (ts.take i) + (t.length + 2) = b + piled (ts.take (i + 1)) by omega]
    obtain ⟨c', hself⟩ : ∃ c', (s1.heap.update P (Obj.mapSeq (·.push (.str t s1.toks)))).get? P = some (lobj (acc.push (.str t s1.toks)) c') := ⟨_, Heap.get?_update_self _ hPo rfl⟩
    refine ih (i + 1) _ H1 (acc.push (.str t s1.toks)) c' (done ++ [(t, s1.toks)]) (by omega) hlt ?_ j1 (by simp [hacc, strValues]) (by simp [List.take_add_one, ht, hdone])
    refine Inv.pins_of (pins := pins) ?_ fun p hp => ?_
    · refine ((drop I1).tok (s1.toks + 1)).turned (it := P) (t' := s1.toks + 1) (fun b o hb e => (Heap.get?_update_other _ _ (fun h : P = b => hb h.symm)).trans e) hPn hPl (.inr hP1) (fun x c' hc z => ?_) hP2
      obtain ⟨v, o, ho, hd⟩ := I1.cell x c' hc
      rw [z, hPo] at ho
      cases ho
      cases hd
    · rcases List.mem_cons.mp hp with rfl | hp
      · exact ⟨hself, hPn, hPl, hPf, fun v z => by cases z⟩
      · obtain ⟨q1, q2, q3, q4, q5⟩ := I1.pin p (List.mem_append_right _ (List.mem_cons_of_mem _ hp))
        exact ⟨(Heap.get?_update_other _ _ (fun h : P = p.1 => hP2 p (List.mem_append_right _ hp) h.symm)).trans q1, q2, q3, q4, q5⟩
/-- what listReprAt does -/
theorem rg_at {A : Around} {g : List Code} {R : Result → Shared → Prop} {a : Addr} {xs : List V} {ts : List Str} {b : Nat} {pins : List (Addr × Obj)} {σ : St} {s : Shared} {H : Hp} (hfr : A.frames = some X.stack) (hg : A.guards = some g) (hcl : Clr g fun c => c = a ∨ B c) (hna : ¬ B a) (hr : Room (k + 1) A) (I : Inv X pins σ H s) (j : J H) (hJ : ∀ H, J H → H a = some (.lst xs)) (hne : xs ≠ [])
    (hlen : ts.length = xs.length) (hT : ∀ (i : Nat) (v : V), xs[i]? = some v → ∃ t, ts[i]? = some t ∧ Sg X k J B v t) (hsz : b + (listText ts).length ≤ sizeLine)
    (hR : ∀ s' H' u, Inv X pins σ H' s' → J H' → R (.ok (.ret (.str (listText ts) u))) s') :
    wpAny (model X.prog X.w) A.in1 (Builtin.listReprAt b ⟨[.ref a], []⟩) (fun fin s' => match fin with | .done f => R (.ok f) s' | .again c' => c'.quiet = true ∧ codeAny (model X.prog X.w) A c' R s') (fun e s' => R (.error e) s') s := by
  obtain ⟨_, its, nn, rv, ha⟩ := (show ObjOk X.prog X.w H s.heap a (.lst xs) from I.hok a _ (hJ H j))
  cases its with
  | nil =>
    cases rv
    exact absurd rfl hne
  | cons x l =>
    have hca : Clear g a := hcl a (.inl rfl)
    refine wpAny_list_repr_head (A := A.in1) (g := g) hg (fun v rest kw hm => listSameRef_of_ne (hca _ _ _ _ hm)) ha rfl ?_
    refine wpAny_bind (m := newList []) (wpAny_newObj_type ?_)
    refine wpAny_pure ⟨F.quiet_list_repr_loop _, ?_⟩
    have kk : ∀ b o, s.heap.get? b = some o → (s.heap.push (lobj #[] 0)).get? b = some o := fun b o e => Heap.get?_push_of_some _ e
    have I1 : Inv X pins σ H { s with heap := s.heap.push (lobj #[] 0), toks := s.toks } := I.kept (t' := s.toks) kk
    have hget : (s.heap.push (lobj #[] 0)).get? s.heap.objs.size = some (lobj #[] 0) := Heap.get?_push_size _ rfl
    have nP : ∀ p ∈ X.pn ++ pins, p.1 ≠ s.heap.objs.size := fun p hp => Nat.ne_of_lt (Heap.lt_size (I.pin p hp).1)
    have I2 : Inv X ((s.heap.objs.size, lobj #[] 0) :: pins) σ H { s with heap := s.heap.push (lobj #[] 0), toks := s.toks } := I1.pins_of fun p hp => by
      rcases List.mem_cons.mp hp with rfl | hp
      · exact ⟨hget, I.hok.fresh (Nat.le_refl _), Nat.ne_of_gt I.lt, I.nofs (Nat.le_refl _), fun v z => by cases z⟩
      · exact I1.pin p (List.mem_append_right _ hp)
    exact rg_run (A := A) (R := R) (b := b) (σ := σ) (pins := pins) hfr hg (fun c hc => hcl c (.inr hc)) hna hr hJ hlen hT hsz I.sz nP hR xs.length 0 _ H #[] 0 [] (by omega) (Nat.zero_le _) I2 j rfl rfl
theorem rg_call {A : Around} {g : List Code} {E : Value → Shared → Prop} {Q : Value → Shared → Prop} {a : Addr} {xs : List V} {ts : List Str} {pins : List (Addr × Obj)} {σ : St} {s : Shared} {H : Hp} (hfr : A.frames = some X.stack) (hg : A.guards = some g) (hcl : Clr g fun c => c = a ∨ B c) (hna : ¬ B a) (hr : Room (k + 1) A) (I : Inv X pins σ H s) (j : J H) (hJ : ∀ H, J H → H a = some (.lst xs)) (hne : xs ≠ [])
    (hlen : ts.length = xs.length) (hT : ∀ (i : Nat) (v : V), xs[i]? = some v → ∃ t, ts[i]? = some t ∧ Sg X k J B v t) (hsz : (listText ts).length ≤ sizeLine)
    (hR : ∀ s' H' u, Inv X pins σ H' s' → J H' → Q (.str (listText ts) u) s') : wpAny (model X.prog X.w) A (call (.builtin "list.__repr__") [.ref a]) Q E s := by
  obtain ⟨_, its, nn, rv, ha⟩ := (show ObjOk X.prog X.w H s.heap a (.lst xs) from I.hok a _ (hJ H j))
  exact wpAny_call (codeAny_call_builtin F.slot_list_repr.plain F.entry_list_repr (F.slot_list_repr.check _ _ _ _ _ _ _ _ ⟨_, ha, rfl⟩ (F.args_list_repr_1 _)
    (rg_at (R := callEnd Q E) (b := 0) hfr hg hcl hna hr I j hJ hne hlen hT (by omega) hR)))
/-- a list -/
theorem sg_list {a : Addr} {xs : List V} {ts : List Str} (hJ : ∀ H, J H → H a = some (.lst xs)) (hne : xs ≠ []) (hna : ¬ B a) (hlen : ts.length = xs.length) (hT : ∀ (i : Nat) (v : V), xs[i]? = some v → ∃ t, ts[i]? = some t ∧ Sg X k J B v t) :
    Sg X (k + 1) J (fun c => c = a ∨ B c) (.ref a) (listText ts) :=
  ⟨fun A' g pins s σ H u b E Q hf hg hc hr I j r hb q => by
    obtain rfl : u = Value.ref a := r
    obtain ⟨_, its, nn, rv, ha⟩ := (show ObjOk X.prog X.w H s.heap a (.lst xs) from I.hok a _ (hJ H j))
    refine wpAny_pyReprUnder_ref (by omega) (wpAny_pyReprObjUnder_twin (twin := "list.__repr__.under") ⟨_, ha, rfl⟩ F.slot_list_repr.toG rfl hr.units0 ?_)
    exact call_twin_plain F.plain_list_repr_under F.entry_list_repr_under F.check_list_repr_under ⟨_, ha, rfl⟩ F.slot_list_repr.toG (F.args_list_repr_1 _)
      (rg_at (R := callEnd _ E) (b := b) hf hg hc hna hr I j hJ hne hlen hT hb fun s' H' u I' j' => ⟨⟨_, _, rfl⟩, _, _, rfl, q s' H' I' j'⟩),
  fun A' g pins s σ H u E Q hf hg hc hr I j r hb q => by
    obtain rfl : u = Value.ref a := r
    obtain ⟨_, its, nn, rv, ha⟩ := (show ObjOk X.prog X.w H s.heap a (.lst xs) from I.hok a _ (hJ H j))
    have hTy : s.TypeIs (.ref a) "list" := ⟨_, ha, rfl⟩
    unfold pyReprObj
    refine wpAny_bind (wpAny_cRoomFor hr.units0 ?_)
    refine wpAny_bind (wpAny_specialOf (name := Str.ofString "__repr__") hTy F.slot_list_repr.lookup ?_)
    refine wpAny_bind (m := callSpecialIfBound? (.ref a) (Str.ofString "__repr__")) (wpAny_callSpecialIfBound?_slot (name := Str.ofString "__repr__") hTy F.slot_list_repr ?_)
    refine rg_call hf hg hc hna hr I j hJ hne hlen hT hb fun s' H' u I' j' => ?_
    exact wpAny_bind (wpAny_isInstance (T := "str") (b := true) rfl isSubtype_str_str (wpAny_pure (q s' H' u I' j'))),
  fun A' g pins s σ H u E Q hf hg hc hr I j r hb q => by
    obtain rfl : u = Value.ref a := r
    obtain ⟨_, its, nn, rv, ha⟩ := (show ObjOk X.prog X.w H s.heap a (.lst xs) from I.hok a _ (hJ H j))
    refine call_repr_slot (by have := hr.un; omega) ⟨_, ha, rfl⟩ F.slot_list_repr.toG ?_
    exact rg_call (A := A'.in1) hf hg hc hna hr.in1' I j hJ hne hlen hT hb fun s' H' u I' j' => ⟨_, _, rfl, q s' H' u I' j'⟩⟩
end
end L2

namespace L2
open PySem PySem.Spec PyProof.Rows PySem.Builtin
inductive SgAll (X : Cx) (k : Nat) (J : Hp → Prop) (B : Addr → Prop) : List V → List Str → Prop
  | nil : SgAll X k J B [] []
  | cons {v : V} {t : Str} {vs : List V} {ts : List Str} : Sg X k J B v t → SgAll X k J B vs ts → SgAll X k J B (v :: vs) (t :: ts)
theorem SgAll.length {X : Cx} {k : Nat} {J : Hp → Prop} {B : Addr → Prop} : ∀ {vs : List V} {ts : List Str}, SgAll X k J B vs ts → ts.length = vs.length
  | _, _, .nil => rfl
  | _, _, .cons _ h => by simp [h.length]
theorem SgAll.at_ {X : Cx} {k : Nat} {J : Hp → Prop} {B : Addr → Prop} : ∀ {vs : List V} {ts : List Str}, SgAll X k J B vs ts → ∀ (i : Nat) (v : V), vs[i]? = some v → ∃ t, ts[i]? = some t ∧ Sg X k J B v t
  | _, _, .nil, i, v, h => by simp at h
  | _, _, .cons h r, 0, v, e => by
    obtain rfl := Option.some.inj e
    exact ⟨_, rfl, h⟩
  | _, _, .cons h r, i + 1, v, e => r.at_ i v (by simpa using e)
theorem SgAll.mono {X : Cx} {j k : Nat} {J : Hp → Prop} {B B' : Addr → Prop} (h : j ≤ k) (hB : ∀ b, B b → B' b) : ∀ {vs : List V} {ts : List Str}, SgAll X j J B vs ts → SgAll X k J B' vs ts
  | _, _, .nil => .nil
  | _, _, .cons a r => .cons (a.mono h hB) (r.mono h hB)
theorem tr_depth {A : Around} {args : Args} : (A.under (.builtin "tuple.__repr__" args)).depth ≤ A.depth + 1 := by
  first | exact Nat.le_of_eq rfl | simp [Around.under, Code.weight, Code.isCreation, Code.isGuard, Code.isCaller, Code.frames, Code.isFrame, guardIds]
theorem tr_frames {A : Around} {args : Args} : (A.under (.builtin "tuple.__repr__" args)).frames = A.frames := by
  first | rfl | simp [Around.under, Code.envs, Code.isFrame, pushEnvs]
theorem tr_handled {A : Around} {args : Args} : (A.under (.builtin "tuple.__repr__" args)).handled = A.handled := by
  first | rfl | simp [Around.under]
theorem tu_depth {A : Around} {args : Args} : (A.under (.builtin "tuple.__repr__.under" args)).depth ≤ A.depth + 1 := by
  first | exact Nat.le_of_eq rfl | simp [Around.under, Code.weight, Code.isCreation, Code.isGuard, Code.isCaller, Code.frames, Code.isFrame, guardIds]
theorem tu_frames {A : Around} {args : Args} : (A.under (.builtin "tuple.__repr__.under" args)).frames = A.frames := by
  first | rfl | simp [Around.under, Code.envs, Code.isFrame, pushEnvs]
theorem tu_handled {A : Around} {args : Args} : (A.under (.builtin "tuple.__repr__.under" args)).handled = A.handled := by
  first | rfl | simp [Around.under]
theorem Room.tr {k : Nat} {A : Around} (r : Room (k + 1) A) (args : Args) : Room k (A.under (.builtin "tuple.__repr__" args)) :=
  ⟨by rw [tr_handled]; exact r.hd, by have := r.dp; have := @tr_depth A args; omega, by have := r.un; have := units_under_tuple_repr A args; omega⟩
theorem Room.tu {k : Nat} {A : Around} (r : Room (k + 1) A) (args : Args) : Room k (A.under (.builtin "tuple.__repr__.under" args)) :=
  ⟨by rw [tu_handled]; exact r.hd, by have := r.dp; have := @tu_depth A args; omega, by have := r.un; have := units_under_tuple_repr_under A args; omega⟩
section
variable {X : Cx} {k : Nat} {J : Hp → Prop} {B : Addr → Prop}
theorem tg_fold {A : Around} {g : List Code} {E : Value → Shared → Prop} {pins : List (Addr × Obj)} {σ : St} (hfr : A.frames = some X.stack) (hg : A.guards = some g) (hcl : Clr g B) (hr : Room k A) :
    ∀ (vs : List V) (us : List Value) (ts : List Str) (acc : Array Str) (n : Nat) (s : Shared) (H : Hp) (Q : (Array Str × Nat) → Shared → Prop), Vals vs us → SgAll X k J B vs ts → n + piled ts ≤ sizeLine → Inv X pins σ H s → J H →
    (∀ s' H', Inv X pins σ H' s' → J H' → Q ⟨acc ++ ts.toArray, n + piled ts⟩ s') → wpAny (model X.prog X.w) A (forIn us (⟨acc, n⟩ : (Array Str × Nat)) tupBody) Q E s := by
  intro vs
  induction vs with
  | nil =>
    intro us ts acc n s H Q rv hT _ I j h
    cases rv
    cases hT
    have h0 := h s H I j
    simp only [List.forIn_nil]
    exact wpAny_pure (by simpa [piled] using h0)
  | cons x l ih =>
    intro us ts acc n s H Q rv hT hn I j h
    cases rv with
    | cons r rr =>
      cases hT with
      | cons hx hl =>
        rename_i t ts'
        rw [piled_cons] at hn
        rw [List.forIn_cons]
        refine wpAny_bind (wpAny_bind (hx.under _ _ pins s σ H _ (n + 1) _ _ hfr hg hcl hr I j r (by omega) fun s1 H1 I1 j1 => wpAny_pure ?_))
        refine ih _ ts' (acc.push t) (n + (t.length + 2)) _ H1 Q rr hl (by omega) I1 j1 fun s2 H2 I2 j2 => ?_
        have h1 := h s2 H2 I2 j2
        have e : n + piled (t :: ts') = n + (t.length + 2) + piled ts' := by rw [piled_cons]; omega
        rw [e] at h1
        simpa using h1
theorem tg_at {A : Around} {g : List Code} {R : Result → Shared → Prop} {a : Addr} {xs : List V} {ts : List Str} {b : Nat} {pins : List (Addr × Obj)} {σ : St} {s : Shared} {H : Hp} {id : String} {rest : List Value}
    (hcg : (Code.builtin id ⟨.ref a :: rest, []⟩).isGuard = true) (hru : Room k (A.under (.builtin id ⟨.ref a :: rest, []⟩))) (hfu : (A.under (.builtin id ⟨.ref a :: rest, []⟩)).frames = some X.stack) (hg : A.guards = some g) (hcl : Clr g fun c => c = a ∨ B c) (hna : ¬ B a) (I : Inv X pins σ H s) (j : J H) (hJ : ∀ H, J H → H a = some (.tup xs))
    (hT : SgAll X k J B xs ts) (hsz : b + (tupleText ts).length ≤ sizeLine) (hR : ∀ s' H' u, Inv X pins σ H' s' → J H' → R (.ok (.ret (.str (tupleText ts) u))) s') :
    wpOwn (model X.prog X.w) A (.builtin id ⟨.ref a :: rest, []⟩) (Builtin.tupleReprAt b ⟨[.ref a], []⟩) (fun fin s' => match fin with | .done f => R (.ok f) s' | .again c' => c'.quiet = true ∧ codeAny (model X.prog X.w) A c' R s') (fun e s' => R (.error e) s') s := by
  obtain ⟨_, its, rv, ob, ha, hc, hd⟩ := (show ObjOk X.prog X.w H s.heap a (.tup xs) from I.hok a _ (hJ H j))
  obtain ⟨n, hd⟩ := hd
  have hca : Clear g a := hcl a (.inl rfl)
  have hlen : ts.length = its.toArray.size := by rw [hT.length, rv.length]; simp
  have hp := piled_le_tupleText ts
  have hsz0 := Nat.le_trans (Nat.le_add_left (tupleText ts).length b) hsz
  rw [tuple_repr_tree, tupleReprUnderWay_eq]
  refine wpOwn_bind (wpOwn_stackTailAny hg (tupGuardF_off _) (tupGuardF_pos _) ?_)
  have away : (g.any fun c => tupGuardF (.ref a) (c, default)) = false := List.any_eq_false.mpr fun c hcm => by simp [tupGuardF_of_clear hca c hcm]
  rw [away]
  refine wpOwn_of_wpAny ?_
  show wpAny _ _ (tupleReprRest b (.ref a)) _ _ s
  unfold tupleReprRest Builtin.Tuple.tupleItemsOf
  refine wpAny_bind (wpAny_bind (wpAny_seqItems ha hd (wpAny_pure ?_)))
  rw [← Array.forIn_toList]
  refine wpAny_bind (tg_fold (pins := pins) (σ := σ) hfu (guards_under_guard hcg hg) (fun c hc => (hcl c (.inr hc)).cons (a := a) fun e => hna (e ▸ hc)) hru xs _ ts _ _ _ H _ rv hT (by omega) I j fun s1 H1 I1 j1 => ?_)
  refine wpAny_bind (wpAny_mkStr (wpAny_pure ?_) (by simpa [tupleText, hlen] using hsz0))
  have h1 := hR { s1 with toks := s1.toks + 1 } H1 s1.toks (I1.tok _) j1
  simpa [tupleText, hlen] using h1
end
end L2

namespace L2
open PySem PySem.Spec PyProof.Rows PySem.Builtin
section
variable {X : Cx} {k : Nat} {J : Hp → Prop} {B : Addr → Prop}
/-- a tuple -/
theorem sg_tup {a : Addr} {xs : List V} {ts : List Str} (hJ : ∀ H, J H → H a = some (.tup xs)) (hna : ¬ B a) (hT : SgAll X k J B xs ts) : Sg X (k + 1) J (fun c => c = a ∨ B c) (.ref a) (tupleText ts) :=
  ⟨fun A' g pins s σ H u b E Q hf hg hc hr I j r hb q => by
    obtain rfl : u = Value.ref a := r
    obtain ⟨_, its, rv, ob, ha, hcl, hd⟩ := (show ObjOk X.prog X.w H s.heap a (.tup xs) from I.hok a _ (hJ H j))
    refine wpAny_pyReprUnder_ref (by omega) (wpAny_pyReprObjUnder_twin (twin := "tuple.__repr__.under") ⟨_, ha, hcl⟩ F.slot_tuple_repr rfl hr.units0 ?_)
    exact call_twin_own (F.quiet_tuple_repr_under _) F.entry_tuple_repr_under F.check_tuple_repr_under ⟨_, ha, hcl⟩ F.slot_tuple_repr (F.args_tuple_repr_1 _)
      (tg_at (R := callEnd _ E) (b := b) (isGuard_tuple_repr_under _) (hr.tu _) (by rw [tu_frames]; exact hf) hg hc hna I j hJ hT hb fun s' H' u I' j' => ⟨⟨_, _, rfl⟩, _, _, rfl, q s' H' I' j'⟩),
  fun A' g pins s σ H u E Q hf hg hc hr I j r hb q => by
    obtain rfl : u = Value.ref a := r
    obtain ⟨_, its, rv, ob, ha, hcl, hd⟩ := (show ObjOk X.prog X.w H s.heap a (.tup xs) from I.hok a _ (hJ H j))
    have hTy : s.TypeIs (.ref a) "tuple" := ⟨_, ha, hcl⟩
    unfold pyReprObj
    refine wpAny_bind (wpAny_cRoomFor hr.units0 ?_)
    refine wpAny_bind (wpAny_specialOf (name := Str.ofString "__repr__") hTy F.slot_tuple_repr.lookup ?_)
    refine wpAny_bind (m := callSpecialIfBound? (.ref a) (Str.ofString "__repr__")) (wpAny_callSpecialIfBound?_slotG (name := Str.ofString "__repr__") hTy F.slot_tuple_repr ?_)
    refine wpAny_call (codeAny_call_builtin_own (Code.quiet_builtin _ (by decide +kernel)) F.entry_tuple_repr (F.slot_tuple_repr.check _ _ _ _ _ _ _ _ hTy (F.args_tuple_repr_1 _)
      (tg_at (R := callEnd _ E) (b := 0) (isGuard_tuple_repr _) (hr.tr _) (by rw [tr_frames]; exact hf) hg hc hna I j hJ hT (by omega) fun s' H' u I' j' => ?_)))
    exact wpAny_bind (wpAny_isInstance (T := "str") (b := true) rfl isSubtype_str_str (wpAny_pure (q s' H' u I' j'))),
  fun A' g pins s σ H u E Q hf hg hc hr I j r hb q => by
    obtain rfl : u = Value.ref a := r
    obtain ⟨_, its, rv, ob, ha, hcl, hd⟩ := (show ObjOk X.prog X.w H s.heap a (.tup xs) from I.hok a _ (hJ H j))
    have hTy : s.TypeIs (.ref a) "tuple" := ⟨_, ha, hcl⟩
    refine call_repr_slot (by have := hr.un; omega) hTy F.slot_tuple_repr ?_
    exact wpAny_call (codeAny_call_builtin_own (Code.quiet_builtin _ (by decide +kernel)) F.entry_tuple_repr (F.slot_tuple_repr.check _ _ _ _ _ _ _ _ hTy (F.args_tuple_repr_1 _)
      (tg_at (A := A'.in1) (R := callEnd _ E) (b := 0) (isGuard_tuple_repr _) (hr.in1'.tr _) (by rw [tr_frames]; exact hf) hg hc hna I j hJ hT (by omega) fun s' H' u I' j' => ⟨_, _, rfl, q s' H' u I' j'⟩)))⟩
/-- the empty dict -/
theorem sg_d0 {a : Addr} (hJ : ∀ H, J H → H a = some (.dK [])) (hB : B a) : Sg X (k + 1) J B (.ref a) (dictText []) :=
  ⟨fun A' g pins s σ H u b E Q hf hg hc hr I j r hb q => by
    obtain rfl : u = Value.ref a := r
    obtain ⟨_, hS, vs, rv, ob, es, ep, ha, hx, hd, hk, hp, hnd⟩ := (show ObjOk X.prog X.w H s.heap a (.dK []) from I.hok a _ (hJ H j))
    cases rv
    have he : es.toList = [] := by cases hes : es.toList with | nil => rfl | cons a b => rw [hes] at hp; cases hp
    refine (ReprK.dict (as := []) (h₀ := s.heap) (d := 0) ha hx.1 hd hS (by simp) (by rw [he]; exact .nil)) b hb A' g E s Q hg (fun c hc' => hc c (by rw [List.mem_singleton.mp hc']; exact hB)) (by have := hr.un; omega) (fun _ _ e => e) fun h' tk hkp => ?_
    exact q _ H (I.kept hkp) j,
  fun A' g pins s σ H u E Q hf hg hc hr I j r hb q => by
    obtain rfl : u = Value.ref a := r
    obtain ⟨_, hS, vs, rv, ob, es, ep, ha, hx, hd, hk, hp, hnd⟩ := (show ObjOk X.prog X.w H s.heap a (.dK []) from I.hok a _ (hJ H j))
    cases rv
    have he : es.toList = [] := by cases hes : es.toList with | nil => rfl | cons a b => rw [hes] at hp; cases hp
    refine wpAny_pyReprObj_dictK (as := []) (h₀ := s.heap) (d := 0) ha hx.1 hd hS (by simp) (by rw [he]; exact .nil) hg (fun c hc' => hc c (by rw [List.mem_singleton.mp hc']; exact hB)) (by have := hr.un; omega) (fun _ _ e => e) (fun h' u tk hkp => ?_) hb
    exact q _ H _ (I.kept hkp) j,
  fun A' g pins s σ H u E Q hf hg hc hr I j r hb q => by
    obtain rfl : u = Value.ref a := r
    obtain ⟨_, hS, vs, rv, ob, es, ep, ha, hx, hd, hk, hp, hnd⟩ := (show ObjOk X.prog X.w H s.heap a (.dK []) from I.hok a _ (hJ H j))
    cases rv
    have he : es.toList = [] := by cases hes : es.toList with | nil => rfl | cons a b => rw [hes] at hp; cases hp
    refine call_repr_slot (by have := hr.un; omega) ⟨_, ha, hx.1⟩ F.slot_dict_repr ?_
    refine call_dict_reprK (A := A'.in1) (as := []) (h₀ := s.heap) (d := 0) ha hx.1 hd hS (by simp) (by rw [he]; exact .nil) hg (fun c hc' => hc c (by rw [List.mem_singleton.mp hc']; exact hB)) (by have := hr.un; show A'.units + 1 + 1 < cLine; omega) (fun _ _ e => e) (fun h' u tk hkp => ?_) hb
    exact ⟨_, _, rfl, q _ H _ (I.kept hkp) j⟩⟩
/-- repr(v) -/
theorem call_sg (gd : X.A.guards = some []) (hr : Room (k + 1) X.A) : CallR X (.builtin "repr") (fun us H Q => ∃ (v : V) (t : Str) (J : Hp → Prop) (B : Addr → Prop), us = [v] ∧ J H ∧ Sg X k J B v t ∧ t.length ≤ sizeLine ∧ ∀ H', J H' → Q (.str t) H') := by
  intro pins s σ H xs us Q I r h
  obtain ⟨v, t, J, B, rfl, j, S, hz, q⟩ := h
  obtain ⟨u, rfl, ru⟩ := vals1 r
  exact S.call X.A [] pins s σ H u _ _ I.ok.frames gd (Clr.nil _) hr I j ru hz fun s' H' tk I' j' => ⟨.str t, H', I', ⟨tk, rfl⟩, q H' j'⟩
/-- {e!r} -/
def tFmtG (X : Cx) (k : Nat) (te : TE) : TE := fun σ H Q => te σ H fun v H1 => ∃ (t : Str) (J : Hp → Prop) (B : Addr → Prop), J H1 ∧ Sg X k J B v t ∧ t.length ≤ sizeLine ∧ ∀ H', J H' → Q (.str t) H'
theorem pe_fmtG {e : Expr} {te : TE} {pos : Pos} (gd : X.A.guards = some []) (hr : Room k X.A) (he : PE X e te) : PE X (.FormattedValue e 114 none pos) (tFmtG X k te) := by
  refine ⟨fun pins s σ H Q I h => ?_⟩
  refine wpAny_FormattedValue_repr (thn (he.run pins s σ H _ I h) fun u s1 ⟨v, H1, I1, rv, t, J, B, j, S, hz, q⟩ => ?_)
  refine S.obj X.A [] pins s1 σ H1 u _ _ I.ok.frames gd (Clr.nil _) hr I1 j rv hz fun s' H' tk I' j' => ?_
  exact wpAny_formatField_str ⟨.str t, H', I'.tok _, ⟨_, rfl⟩, q H' j'⟩ ⟨.str t, H', I'.tok _, ⟨_, rfl⟩, q H' j'⟩ hz
end
end L2

namespace L2
open PySem PySem.Spec PyProof.Rows
section
variable {X : Cx} {k : Nat} {J : Hp → Prop} {B : Addr → Prop}
theorem obj_own {C g a : Addr} {sp : Sp} {t : Str} (hs : PySem.W.findIn X.K (.ref C) "__repr__" = some (some (.ref g))) (hf : PySem.W.isFn X.K (.ref g) = true) (F : FnR X.prog X.w X.K X.mg X.base CX0 k g sp)
    (hi : ∀ H, J H → ∃ dx fs, H a = some (.ins C dx fs)) (hsp : ∀ H, J H → sp [.ref a] H (fun r H' => r = .str t ∧ J H') E0) :
    ∀ (A' : Around) (g : List Code) (pins : List (Addr × Obj)) (s : Shared) (σ : St) (H : Hp) (u : Value) (E : Value → Shared → Prop) (Q : Value → Shared → Prop), A'.frames = some X.stack → A'.guards = some g → Clr g B → Room k A' → Inv X pins σ H s → J H → RelV (.ref a) u → t.length ≤ sizeLine →
    (∀ s' H' tk, Inv X pins σ H' s' → J H' → Q (.str t tk) s') → wpAny (model X.prog X.w) A' (pyReprObj u) Q E s := by
  intro A' g' pins s σ H u E Q hfr _ _ hr I j r hb q
  obtain rfl : u = Value.ref a := r
  obtain ⟨dx, fs, ha⟩ := hi H j
  obtain ⟨mA, M, _⟩ := ins_get I.hok ha
  obtain ⟨od, It, _⟩ := M.look
  rw [pyReprObj_eq_pyReprObjBy]
  unfold pyReprObjBy
  refine wpAny_bind (wpAny_cRoomFor hr.units0 ?_)
  refine wpAny_bind (wpAny_bind (It.type.here ((PySem.W.looks_findIn I.kIn hs).here ?_)))
  show wpAny _ _ (if (some (Value.ref g)).isNone = true then _ else _) _ _ _
  rw [if_neg (by simp)]
  have hcall : wpAny (model X.prog X.w) A' (call (.ref g) [.ref a]) (fun v s' => ∃ y tk, v = .str y tk ∧ Q (.str y tk) s') E s := by
    refine wpAny_call (codeAny_mono (F A' X.stack s H [.ref a] [.ref a] _ E0 hr ⟨hfr, I.env0.mod, I.env0.bs, I.env0.bsz, I.env0.funs, I.env0.frf, I.env0.hok, I.env0.bare⟩ (.cons rfl .nil) (hsp H j)) fun r s' hq => ?_)
    cases r with
    | error e => exact False.elim hq
    | ok fl =>
      cases fl with
      | ret u =>
        obtain ⟨v, H', I', rv, ev, j'⟩ := I.after hq
        subst ev
        obtain ⟨tk, rfl⟩ := rv
        exact ⟨t, tk, rfl, q _ _ tk I' j'⟩
      | next => exact False.elim hq
      | brk => exact False.elim hq
      | cont => exact False.elim hq
  refine wpAny_bind (m := callSpecialIfBoundBy? _ (.ref a) (Str.ofString "__repr__")) ?_
  simp only [callSpecialIfBoundBy?, bindSpecialIfBound?]
  refine wpAny_holding (wpAny_bind (wpAny_bind (wpAny_bind (It.type.here ((PySem.W.looks_findIn I.kIn hs).here ?_)))))
  refine wpAny_bind (wpAny_askSetting (wpAny_ite ?_))
  have fin : ∀ {Q' : Option Value → Shared → Prop}, (∀ y tk s', Q (.str y tk) s' → Q' (some (.str y tk)) s') → wpAny (model X.prog X.w) A' (call (.ref g) ([.ref a] ++ []) >>= fun v => pure (some v)) Q' E s := fun {Q'} hq => wpAny_bind (wpAny_mono hcall (fun v s' ⟨y, tk, e, h'⟩ => by subst e; exact wpAny_pure (hq y tk s' h')) fun _ _ h' => h')
  have fin2 : ∀ y tk s', Q (.str y tk) s' → wpAny (model X.prog X.w) A' (do if ← isInstance (.str y tk) (.type "str") then pure (Value.str y tk) else raiseError "TypeError" s!"__repr__ returned non-string (type {← typeNameOf (.str y tk)})") Q E s' := fun y tk s' h => by
    refine wpAny_bind (wpAny_isInstance (T := "str") (b := true) rfl isSubtype_str_str ?_)
    exact wpAny_pure h
  split
  · exact wpAny_bind ((PySem.W.bind_fn I.kIn _ (beq_iff_eq.mp hf)).here (wpAny_pure (fin fin2)))
  · exact wpAny_tryCatch (wpAny_bind ((PySem.W.bind_fn I.kIn _ (beq_iff_eq.mp hf)).here (wpAny_pure (fin fin2))))
/-- an instance that has its own __repr__ -/
theorem sg_own {C g a : Addr} {sp : Sp} {t : Str} (hs : PySem.W.findIn X.K (.ref C) "__repr__" = some (some (.ref g))) (hf : PySem.W.isFn X.K (.ref g) = true) (F : FnR X.prog X.w X.K X.mg X.base CX0 k g sp)
    (hi : ∀ H, J H → ∃ dx fs, H a = some (.ins C dx fs)) (hsp : ∀ H, J H → sp [.ref a] H (fun r H' => r = .str t ∧ J H') E0) : Sg X k J B (.ref a) t :=
  ⟨fun A' g' pins s σ H u b E Q hfr _ _ hr I j r hb q => sh_own hs hf F hi hsp A' pins s σ H u b E Q hfr hr I j r hb q, obj_own hs hf F hi hsp,
  fun A' g' pins s σ H u E Q hfr _ _ hr I j r hb q => by
    obtain rfl : u = Value.ref a := r
    obtain ⟨dx, fs, ha⟩ := hi H j
    obtain ⟨mA, M, _⟩ := ins_get I.hok ha
    obtain ⟨od, It, _⟩ := M.look
    obtain ⟨m, hF⟩ := I.fr
    refine PySem.W.repr_K (by have := hr.un; show A'.units + 1 < cLine; omega) hF I.ok.mod.kin It hs hf ?_
    refine wpAny_call (codeAny_mono (F A'.in1 X.stack s H [.ref a] [.ref a] _ E0 hr.in1' ⟨hfr, I.env0.mod, I.env0.bs, I.env0.bsz, I.env0.funs, I.env0.frf, I.env0.hok, I.env0.bare⟩ (.cons rfl .nil) (hsp H j)) fun r s' hq => ?_)
    cases r with
    | error e => exact False.elim hq
    | ok fl =>
      cases fl with
      | ret u =>
        obtain ⟨v, H', I', rv, ev, j'⟩ := I.after hq
        subst ev
        obtain ⟨tk, rfl⟩ := rv
        exact q _ _ tk I' j'
      | next => exact False.elim hq
      | brk => exact False.elim hq
      | cont => exact False.elim hq⟩
end
end L2

/-! repr of a list of shown values -/
namespace L2
open PySem PySem.Spec PyProof.Rows
/-- v is shown as t, whatever is under way -/
abbrev Shn (X : Cx) (k : Nat) (J : Hp → Prop) (v : V) (t : Str) : Prop := Sg X k J (fun _ => False) v t
theorem call_reprL {X : Cx} {k : Nat} (quiet : X.A.guards = some []) (room : Room (k + 2) X.A) :
    CallR X (.builtin "repr") fun us H Q => ∃ (a : Addr) (xs : List V) (ts : List Str) (J : Hp → Prop), us = [.ref a] ∧ J H ∧ (∀ G, J G → G a = some (.lst xs)) ∧ xs ≠ [] ∧ ts.length = xs.length ∧
      (∀ (i : Nat) (v : V), xs[i]? = some v → ∃ t, ts[i]? = some t ∧ Shn X k J v t) ∧ (listText ts).length ≤ sizeLine ∧ ∀ G, J G → Q (.str (listText ts)) G := by
  rintro pins s σ H _ us Q I r ⟨a, xs, ts, J, rfl, j, there, some_, many, each, fits, q⟩
  rcases vals1 r with ⟨_, rfl, rfl⟩
  exact (sg_list there some_ (fun z => z) many each).call X.A [] pins s σ H _ _ _ I.ok.frames quiet (Clr.nil _) room I j rfl fits fun s1 H1 tk I1 j1 => ⟨.str _, H1, I1, ⟨tk, rfl⟩, q H1 j1⟩
end L2

namespace L2
open PySem PySem.Spec PyProof.Rows
/-- isinstance(e, c), e the exception that the suite holds, with attributes or without -/
theorem call_isEF {X : Cx} {a D : Addr} {oe : Obj} {d : Option Addr} {pn : List (Addr × Obj)} (C : ExcC X.K D) (hz : Zc (.ref D) d oe) (hf : ∃ vs, oe.data = .fields vs) :
    CallR (X.suite a ((a, oe) :: pn)) (.builtin "isinstance") (fun xs H Q => (d = none ∨ ∃ dd fs, d = some dd ∧ H dd = some (.xd fs)) ∧ rIsE X.K D a xs H Q) := by
  intro pins s σ H xs us Q I r h
  obtain ⟨hdd, c, cv, b, rfl, hcv, e, q⟩ := h
  cases r with
  | cons rx rr =>
    cases rr with
    | cons rt rr =>
      cases rr
      cases rx
      have ec := hcv _ rt
      subst ec
      obtain ⟨hget, _⟩ := I.pin (a, oe) (List.mem_append.mpr (.inl List.mem_cons_self))
      obtain ⟨vs, hv⟩ := hf
      have J : ∃ od, PySem.W.InstAt s.heap a oe D od := by
        obtain ⟨oc, od, oda, osl⟩ := oe
        obtain ⟨h1, h2⟩ := hz
        dsimp only at h1 h2 hv
        subst h1 h2 hv
        rcases hdd with rfl | ⟨dd, fs, rfl, ho⟩
        · exact ⟨none, hget, rfl, rfl, trivial⟩
        · obtain ⟨mA, hns, hr⟩ := (show ObjOk X.prog X.w H s.heap dd (.xd fs) from I.hok dd _ ho)
          obtain ⟨od, ho, hl⟩ := lookIn_ns hns
          exact ⟨some od, hget, rfl, rfl, ho⟩
      obtain ⟨od, J⟩ := J
      exact PySem.W.kia_one (PySem.W.kitx_exc (by obtain ⟨cd, hc, _⟩ := PySem.W.any_some C.hd; rw [hc]; rfl) C.hg C.hk C.hs C.ha C.hn C.ht C.hm) I.kIn J e (fun z => nomatch z) fun tk => ⟨.bl b, H, I.kept (t' := tk) fun _ _ z => z, rfl, q⟩
end L2

/-! x(lambda: body, e): the lambda is called by a def with two parameters; no repr is under way. -/
namespace L2
open PySem PySem.Spec PyProof.Rows LamX
section
variable {X : Cx} {pins : List (Addr × Obj)} {σ : L2.St} {H : Hp} {s : Shared}
theorem pe_actG {CXg : CXT} {Eg : XK} {Ng : List Str} {qg : Str} {sg : Scope} {g f c' : Addr} {cdg pm ctv : Value} {params : Arguments} {body : Expr} {scope : Scope} {k i : Nat} {a : Str} {pn : List (Addr × Obj)} {xe : Value → Shared → Prop} {W : WX} {t : XK → TE} {p1 p2 : Pos}
    (gd : X.A.guards = some []) (I : Inv X pins σ H s) (L : LamS X.env.scope scope) (hf : s.heap.get? f = some (PySem.W.kla_obj "<lambda>" (X.env.qual ++ "<lambda>") params body scope (cloFrom X.env.cells scope.names []) pm c' ctv)) (hfn : H f = none) (hfr : f ∉ frs X.stack)
    (hbind : bindArgs (PySem.W.kla_fn "<lambda>" (X.env.qual ++ "<lambda>") params body scope (cloFrom X.env.cells scope.names []) pm (.ref c') ctv) ⟨[], []⟩ = pure [])
    (tk : Takes ((cxOf CXg X.prog X.w X.K X.mg X.base Ng qg sg g cdg X.A X.stack s H Eg).tr pn xe) W) (hr : Room (k + 1) (X.A.deeper (envOfC qg sg s.heap.objs.size g cdg)))
    (hbody : ∀ (A : Around) (outer : List Env) (s : Shared) (H : Hp) (E : XK), A.guards = some [] → Room k (A.deeper (lamEnv X scope s.heap.objs.size f c')) → PE (lamCx X A outer s H E scope f c') body (t E))
    (hN : Ng[i]? = some a) (hv : Vis sg a) (hd : (a == ("__debug__" : Str)) = false := by decide) (hcd : (a == ("__classdict__" : Str)) = false := by decide) :
    PE ((cxOf CXg X.prog X.w X.K X.mg X.base Ng qg sg g cdg X.A X.stack s H Eg).tr pn xe) (.Call (.Name a p1) [] [] p2)
      (fun σZ HZ Q => σZ[i]? = some (some (.ref f)) ∧ HZ c' = some (CodeO c' (X.env.qual ++ "<lambda>")) ∧ t (WE W σZ) σ HZ Q) := by
  refine ⟨fun pZ sZ σZ HZ Q JZ h => ?_⟩
  obtain ⟨hs, hc, ht⟩ := h
  refine wpAny_Call_Name_kw (thn ((pe_var (pos := p1) (i := i) hN hv hd hcd).run pZ sZ σZ HZ (fun v H1 => v = .ref f ∧ H1 = HZ) JZ ⟨.ref f, hs, rfl, rfl⟩) fun u s1 ⟨v, H1, J1, r1, e1, e2⟩ => ?_)
  subst e1
  rw [e2] at J1
  obtain rfl : u = Value.ref f := r1
  have hfun := J1.base.keep f _ hf hfn hfr (fun z => nomatch (show f ∈ ([] : List Addr) from z))
  refine PySem.W.callWith_F0 ⟨_, _, _, _, hfun⟩ ?_
  have un : Un (frs X.stack) [] H HZ s.heap s1.heap := J1.base
  obtain ⟨⟨oc, vs, t, hoc, hdc, hvc⟩, _, _⟩ := J1.hok c' _ hc
  have gd2 : (X.A.deeper (envOfC qg sg s.heap.objs.size g cdg)).guards = some [] := deeper_guards.trans gd
  have rc : codeAny (model X.prog X.w) (X.A.deeper (envOfC qg sg s.heap.objs.size g cdg)) (.call (.ref f) ⟨[], []⟩) (CR (L2.CX X.prog X.w) (envOfC qg sg s.heap.objs.size g cdg :: X.stack) X.prog X.w HZ s1 Q (WE W σZ)) s1 := by
    refine PySem.W.kla_callFunE hr.depth hfun rfl L.co L.gen rfl ⟨c', oc, vs, t, rfl, hoc, hdc, hvc⟩ ?_
    rw [hbind]
    refine wpAny_pure (wpAny_newFunctionEnv (fun y hy => (L.own y hy).2) (fun y hy => absurd hy (by simp)) (fun h₁ hns hsb => ⟨J1.nolimit.fresh _ hsb, ?_⟩) L.kind)
    show codeAny _ _ (.expr body (lamEnv X scope s1.heap.objs.size f c')) _ _
    have kp : ∀ b o, s1.heap.get? b = some o → h₁.get? b = some o := fun b o e => hsb.extBut b o (Nat.ne_of_lt (Heap.lt_size e)) (Heap.get?_push_of_some _ e)
    have J := lam_start2 (E := WE W σZ) (f := f) (c' := c') (tk := s1.toks + ([] : List (Str × Value)).length) I L J1.env0 hr.hd un hns kp
    refine PySem.W.kla_codeExpr (wpAny_mono ((hbody _ _ s1 HZ _ gd2 (hr.deeper _)).run [] _ _ HZ Q J ht) (fun v s' hq => ?_) fun e s' hq => hq)
    obtain ⟨w', G, JG, rv, q⟩ := hq
    exact ⟨w', G, JG.os, JG.bare, JG.base, JG.hok, rv, q⟩
  have out := passAt tk σZ
  refine wpAny_call (codeAny_mono rc ?_)
  rintro (er | fl) s2 z
  · exact out pZ HZ s1 er s2 J1 z
  · cases fl with
    | ret u => exact J1.after z
    | _ => exact z.elim
end
end L2

/-! x op y, x == y, o.m(y): y a value of a built-in type; the own method may raise. -/
namespace PySem.W
open Lean Elab Tactic Meta PySem PySem.Calls PyProof.Rows
section
variable {prog : Program} {w : World} {A : Around} {E : Value → Shared → Prop} {s : Shared} {K : Frag} {x C L f : Addr} {h₀ : Heap} {m : Str → Option Value} {ox : Obj} {od : Option Obj} {T : String}
theorem bin_oth {op : Operator} {b : Value} {fo ro : Option Value} {Q : Value → Shared → Prop} (R : Fr h₀ L s.heap m) (KI : K.In h₀) (I : InstAt s.heap x ox C od) (hb : Looks (model prog w) s.heap (typeOf b) (.type T)) (first : selfFirst K C = true)
    (meth : findIn K (.ref C) (PySem.dunder op.info.2) = some (some (.ref f))) (fn : isFn K (.ref f) = true) (refl : findIn K (.ref C) (dunderR op.info.2) = some none)
    (to : findIn K (.type T) (PySem.dunder op.info.2) = some fo) (tr : findIn K (.type T) (dunderR op.info.2) = some ro) (sub : subIn K (.type T) (.ref C) = some false)
    (go : wpAny (model prog w) A (call (.ref f) [.ref x, b]) (CmpBack Q) E s) : wpAny (model prog w) A (binaryOp op (.ref x) b) Q E s := by
  have KX := KI.keeps R.keep
  obtain ⟨cd, rest, c1, c2⟩ := ksp_first first
  rcases hop : op.info with ⟨sy, n⟩
  rw [hop] at meth refl to tr
  have tried := ksp_try KX I meth fn go
  obtain ⟨hp, gs, dr, tk, os⟩ := s
  have T1 : Looks (model prog w) hp (typeOf (.ref x)) (.ref C) := I.type
  have T2 : Looks (model prog w) hp (typeOf b) (.type T) := hb
  have F1 : Looks (model prog w) hp (fillsNumberSlot (.ref C) n) true := fills_K KX c1 c2 meth
  obtain ⟨rt, F2⟩ : ∃ rt, Looks (model prog w) hp (fillsNumberSlot (.type T) n) rt := ⟨_, ksp_fillsT KX to tr⟩
  have S1 : Looks (model prog w) hp (isSubtype (.type T) (.ref C)) false := looks_subIn KX sub
  have P1 : Looks (model prog w) hp (numberSlotInPython (.ref C) n) true := ksp_inPy KX meth refl (.inl rfl)
  have P2 : Looks (model prog w) hp (numberSlotInPython (.type T) n) false := Looks.of_pure rfl
  have R1 : Looks (model prog w) hp (typeLookup (.type T) (dunderR n)) ro := looks_findIn KX tr
  have other : (Value.ref C == Value.type T) = false := by
    refine Bool.eq_false_iff.mpr fun z => ?_
    cases beq_iff_eq.mp z
  simp only [binaryOp, hop]
  refine wpAny_holding ?_
  refine wpAny_bind ?_
  unfold binaryOp1
  refine wpAny_bind (T1.at ?_)
  refine wpAny_bind (T2.at ?_)
  refine wpAny_bind (F1.at ?_)
  simp only [other, Bool.false_eq_true, if_false]
  cases rt
  all_goals
    ksp_lk
    refine wpAny_mono tried ?_ (fun _ _ z => z)
    rintro r s' ⟨v, rfl, q⟩
    ksp_lk
    exact q
end
end PySem.W
namespace L2
open PySem PySem.Spec PyProof.Rows
/-- a value of a built-in type other than int, and the type's name -/
inductive OddV (H : Hp) : V → String → Prop where
  | non : OddV H .non "NoneType"
  | bl (b : Bool) : OddV H (.bl b) "bool"
  | str (x : Str) : OddV H (.str x) "str"
  | lst {a : Addr} {xs : List V} (e : H a = some (.lst xs)) : OddV H (.ref a) "list"
  | tup {a : Addr} {xs : List V} (e : H a = some (.tup xs)) : OddV H (.ref a) "tuple"
  | dK {a : Addr} {kvs : List (Key × V)} (e : H a = some (.dK kvs)) : OddV H (.ref a) "dict"
theorem OddV.same {H H' : Hp} {v : V} {T : String} (s : ∀ b o, H b = some o → H' b = some o) (h : OddV H v T) : OddV H' v T := by
  cases h with
  | non => exact .non
  | bl b => exact .bl b
  | str x => exact .str x
  | lst e => exact .lst (s _ _ e)
  | tup e => exact .tup (s _ _ e)
  | dK e => exact .dK (s _ _ e)
theorem OddV.ty {K : PySem.W.Frag} {H : Hp} {v : V} {T : String} (h : OddV H v T) : TyX K H v (.type T) := by
  cases h with
  | non => exact .base .non
  | bl b => exact .base (.bl b)
  | str x => exact .base (.str x)
  | lst e => exact .base (.lst e)
  | tup e => exact .base (.tup e)
  | dK e => exact .base (.dK e)
/-- of a class of the text: no built-in type is below it -/
structure TyC (K : PySem.W.Frag) (C : Addr) (T : String) : Prop where
  kit : PySem.W.kitOne K (.type T) (.ref C) = some false
  sub : PySem.W.subIn K (.type T) (.ref C) = some false
structure OddC (K : PySem.W.Frag) (C : Addr) : Prop where
  non : TyC K C "NoneType"
  bl : TyC K C "bool"
  str : TyC K C "str"
  lst : TyC K C "list"
  tup : TyC K C "tuple"
  dK : TyC K C "dict"
theorem OddV.tyc {K : PySem.W.Frag} {C : Addr} {H : Hp} {v : V} {T : String} (h : OddV H v T) (c : OddC K C) : TyC K C T := by
  cases h with
  | non => exact c.non
  | bl b => exact c.bl
  | str x => exact c.str
  | lst e => exact c.lst
  | tup e => exact c.tup
  | dK e => exact c.dK
theorem OddV.notFirst {K : PySem.W.Frag} {C : Addr} {H : Hp} {v : V} {T : String} (h : OddV H v T) (c : OddC K C) : PySem.W.notFirst K C (.type T) = true := by
  unfold PySem.W.notFirst
  rw [(h.tyc c).sub]
  simp
/-- what a type says of an operator's names -/
def TyOp (K : PySem.W.Frag) (op : Operator) (T : String) : Prop := ∃ fo ro, PySem.W.findIn K (.type T) (PySem.dunder op.info.2) = some fo ∧ PySem.W.findIn K (.type T) (dunderR op.info.2) = some ro
theorem tyop {K : PySem.W.Frag} {op : Operator} (ho : op = .Add ∨ op = .Sub ∨ op = .Mult) {H : Hp} {v : V} {T : String} (h : OddV H v T) : TyOp K op T := by
  rcases ho with rfl | rfl | rfl <;> cases h <;> exact ⟨_, _, rfl, rfl⟩
section
variable {X : Cx} {CX : CXT} {k : Nat} {C g : Addr} {sp : Sp} {fd : FuncData} {ps : List Str} {E : XK} {a b : Expr} {ta tb : TE} {pos : Pos}
def tBinX (C : Addr) (sp : Sp) (E : XK) (ta tb : TE) : TE := fun σ H Q => ta σ H fun x H1 => tb σ H1 fun y H2 => ∃ a dx fs T, x = .ref a ∧ H2 a = some (.ins C dx fs) ∧ OddV H2 y T ∧ sp [x, y] H2 Q E
/-- a op b by the own method, which may raise -/
theorem pe_binX {op : Operator} (ho : op = .Add ∨ op = .Sub ∨ op = .Mult) (oc : OddC X.K C) (hc : PySem.W.selfFirst X.K C = true) (hs : PySem.W.findIn X.K (.ref C) (PySem.dunder op.info.2) = some (some (.ref g))) (hf : PySem.W.isFn X.K (.ref g) = true)
    (hr2 : PySem.W.findIn X.K (.ref C) (dunderR op.info.2) = some none) (F : FnG X.prog X.w X.K X.mg X.base CX k g fd ps sp) (gd : X.A.guards = some []) (hr : Room k X.A) (hb : Binds X.K fd ps []) (hx : Passes CX X E) (ha : PE X a ta) (hbb : PE X b tb) :
    PE X (.BinOp a op b pos) (tBinX C sp E ta tb) := by
  refine ⟨fun pins s σ H Q I h => ?_⟩
  refine wpAny_BinOp (binT ha hbb I (R := fun x y H2 => ∃ a dx fs T, x = .ref a ∧ H2 a = some (.ins C dx fs) ∧ OddV H2 y T ∧ sp [x, y] H2 Q E) h fun v u s2 x y H2 I2 rx ry q => ?_)
  obtain ⟨a0, dx, fs, T, rfl, h0, od, q⟩ := q
  cases (show v = Value.ref a0 from rx)
  obtain ⟨mA, M, _⟩ := ins_get I2.hok h0
  obtain ⟨oD, J, _⟩ := M.look
  obtain ⟨m, hF⟩ := I2.fr
  obtain ⟨PP, KX, pp, _⟩ := kit_of I2 ry (od.ty (K := X.K))
  obtain ⟨fo, ro, t1, t2⟩ := tyop (K := X.K) ho od
  refine PySem.W.bin_oth hF I2.ok.mod.kin J (KX.ty _ _ I2.kIn pp) hc hs hf hr2 t1 t2 (od.tyc oc).sub ?_
  have q' : sp ([.ref a0, y] ++ []) H2 Q E := by rw [List.append_nil]; exact q
  refine wpAny_mono (run_fnG (vs := [.ref a0, y]) (us := [.ref a0, u]) F gd hr hb .nil hx I2 (.cons rfl (.cons ry .nil)) q') (fun w s' z => ?_) fun _ _ x => x
  obtain ⟨z', H', I', rz, qz⟩ := z
  exact SlX.cmpback rz ⟨z', H', I', rz, qz⟩
/-- x == y, y of a built-in type -/
theorem op_eqOdd (oc : OddC X.K C) (hs : PySem.W.findIn X.K (.ref C) "__eq__" = some (some (.ref g))) (hf : PySem.W.isFn X.K (.ref g) = true) (F : FnR X.prog X.w X.K X.mg X.base CX0 k g sp) (hr : Room k X.A) :
    OpR X (compareOp .Eq) (fun x y H Q => ∃ a dx fs T, x = .ref a ∧ H a = some (.ins C dx fs) ∧ OddV H y T ∧ sp [x, y] H (fun v H' => ∃ b, v = .bl b ∧ Q (.bl b) H') E0) := by
  intro pins s σ H x y v u Q I rx ry h
  obtain ⟨a, dx, fs, T, rfl, ha, od, q⟩ := h
  cases (show v = Value.ref a from rx)
  obtain ⟨mA, M, _⟩ := ins_get I.hok ha
  obtain ⟨oD, J, _⟩ := M.look
  obtain ⟨m, hF⟩ := I.fr
  obtain ⟨PP, KX, pp, _⟩ := kit_of I ry (od.ty (K := X.K))
  show wpAny _ _ (richCompare .Eq (.ref a) u) _ _ _
  refine PySem.W.cmp_K hr.units0 hF I.ok.mod.kin J (KX.ty _ _ I.kIn pp) (od.notFirst oc) hs hf ?_
  refine wpAny_mono (run_fnA (vs := [.ref a, y]) F I.ok.frames hr I (.cons rfl (.cons ry .nil)) q) (fun w s' z => ?_) fun _ _ x => x
  obtain ⟨z', H', I', rz, b, rfl, qz⟩ := z
  obtain rfl : w = Value.bool b := rz
  exact ⟨.bl b, H', I', rfl, qz⟩
end
end L2

/-! def f(cls, *v) that may raise, where no repr is under way; C.m(..) by it, and C.m(). -/
namespace L2
open PySem PySem.Spec PyProof.Rows
def FnRG (P : Program) (w : World) (K : PySem.W.Frag) (mg : Str → Option Value) (base : Heap) (CX : CXT) (k : Nat) (f : Addr) (sp : Sp) : Prop :=
  ∀ (A : Around) (outer : List Env) (s : Shared) (H : Hp) (us : List Value) (vs : List V) (Q : VK) (E : XK), A.guards = some [] → Room k A → Env0 P w K mg base A outer s H → Vals vs us → sp vs H Q E → codeAny (model P w) A (.call (.ref f) ⟨us, []⟩) (CR CX outer P w H s Q E) s
section
variable {P : Program} {w : World} {K : PySem.W.Frag} {mg : Str → Option Value} {base : Heap} {CX : CXT} {k : Nat} {f : Addr} {N ps : List Str} {sp : Sp} {oc dV kV doc pm cdv ct : Value} {od an : Option Addr} {osl : Array (Option Value)} {nm ql : Str} {pr : Arguments} {bd : List Stmt} {sc : Scope}
theorem fn_starG {pv : Str} (L : K.lookup f = some ⟨oc, od, .func (PySem.W.fnOf nm ql pr bd sc dV kV doc pm an cdv ct), osl⟩) (cd : PySem.W.codeIn K cdv ql = true) (S : FnScope N (ps ++ [pv]) sc) (up : StX.CXUp CX)
    (bind : ∀ us more : List Value, us.length = ps.length → bindArgs (PySem.W.fnOf nm ql pr bd sc dV kV doc pm an cdv ct) ⟨us ++ more, []⟩ = (newTuple more >>= fun t => pure (ps.zip us ++ [(pv, t)])))
    (run : ∀ (A : Around) (outer : List Env) (s : Shared) (H : Hp) (vs : List V) (Q : VK) (E : XK), A.guards = some [] → Room k (A.deeper (envOfC ql sc s.heap.objs.size f cdv)) → sp vs H Q E → ∃ t, PSs (cxOf CX P w K mg base N ql sc f cdv A outer s H E) bd t ∧ t { nx := fun _ H' => Q .non H', rt := Q } (start N vs) H) :
    FnRG P w K mg base CX (k + 1) f (fun vs H Q E => ∃ ws more, vs = ws ++ more ∧ ws.length = ps.length ∧ more.length ≤ sizeLine ∧ ∀ p, H p = Option.none → sp (ws ++ [V.ref p]) (upd H p (.tup more)) Q E) := by
  rintro A outer s H us _ Q E gd hr e0 r ⟨ws, more, rfl, hl, hz, hq⟩
  obtain ⟨a1, a2, rfl, q1, q2⟩ := StX.vals_split r
  have free : H s.heap.objs.size = Option.none := e0.hok.fresh (Nat.le_refl _)
  have n1 : a1.length = ps.length := q1.length.symm.trans hl
  have n2 : a2.length ≤ sizeLine := by
    have := q2.length
    omega
  refine StX.run_bnd L cd S hr e0 (G := fun xs H2 => ∃ p, H p = Option.none ∧ xs = ws ++ [V.ref p] ∧ H2 = upd H p (.tup more)) (fun A' Ex Q' h => ?_) ?_
  · rw [bind a1 a2 n1]
    refine wpAny_bind ?_
    refine wpAny_newTuple (wpAny_pure ?_) n2
    have ok : ObjOk P w (upd H s.heap.objs.size (.tup more)) (s.heap.push ({ cls := .type "tuple", data := .seq a2.toArray } : Obj)) s.heap.objs.size (.tup more) :=
      ⟨hz, a2, q2, ⟨_, Heap.get?_push_size _ rfl, rfl, _, rfl⟩⟩
    have un := StX.un_laid (fs := frs outer) (s := s) (o := ({ cls := .type "tuple", data := .seq a2.toArray } : Obj)) (u := .tup more) free
    have keep : ∀ b o, s.heap.get? b = some o → (s.heap.push ({ cls := .type "tuple", data := .seq a2.toArray } : Obj)).get? b = some o := fun b o q => Heap.get?_push_of_some _ q
    have len : (ws ++ [V.ref s.heap.objs.size]).length = (ps ++ [pv]).length := by
      rw [List.length_append, List.length_append, hl]
      rfl
    have z := h _ _ (ws ++ [V.ref s.heap.objs.size]) (a1 ++ [Value.ref s.heap.objs.size]) (StX.env0_laid e0 ok) un rfl (fun e s' => up outer s H _ _ E e s' un keep rfl) (q1.append (.cons rfl .nil)) len ⟨_, free, rfl, rfl⟩
    rw [List.zip_append n1.symm] at z
    exact z
  · rintro s2 _ _ ⟨p, hp, rfl, rfl⟩ hr'
    exact run A outer s2 _ _ Q E gd hr' (hq p hp)
end
section
variable {X : Cx} {CX : CXT} {k : Nat} {C p g : Addr} {mc : Value} {sp : Sp} {E : XK} {o e : Expr} {es : List Expr} {m : Str} {pos apos : Pos} {ta : TE} {t : TA} {pl : Sem Bool}
end
theorem PE.or {X : Cx} {e : Expr} {t t' : TE} (h : PE X e t) (h' : PE X e t') : PE X e (fun σ H Q => t σ H Q ∨ t' σ H Q) := ⟨fun pins s σ H Q I q => q.elim (h.run pins s σ H Q I) (h'.run pins s σ H Q I)⟩
end L2

/-! The end of a law row with lambdas whose defs are told by FnG. -/
namespace L2
open PySem PySem.Spec PyProof.Rows LamX
section
variable {P : Program} {w : World} {K : PySem.W.Frag} {mg mb : Str → Option Value} {CX : CXT} {k : Nat} {fa a : Addr} {fd : FuncData} {x : Str} {sp : Sp} {s₁ : Shared} {vs : List Value} {ns : List Int} {cs : List (Addr × Addr)}
abbrev emptyTab : Obj := { cls := .none, data := .fields #[] }
/-- the call from an abstract heap that tracks at most the script and the tables -/
theorem law_coreT (KX : K.In s₁.heap) (gl : s₁.heap.Ns mainGlobals mg) (bl : s₁.heap.Ns builtinsNs mb) (boot : ∀ x : Str, x ≠ "__name__" → mb x = bootBuiltins x) (lim : s₁.heap.NoLimit) (gens : s₁.gens = #[])
    (tabs : ∀ p ∈ cs, s₁.heap.get? p.2 = some emptyTab) (notK : ∀ p ∈ cs, K.lookup p.2 = none) (code : ∀ p ∈ cs, PySem.W.CodeHd s₁.heap p.1 p.2)
    (main : ∃ (bm : Addr) (ob : Obj), mg "__builtins__" = some (.ref bm) ∧ bm ≠ builtinsNs ∧ s₁.heap.get? bm = some ob ∧ ob.cls = .type "module" ∧ ob.dict = some builtinsNs ∧ ob.data = .plain)
    (ha : s₁.heap.get? a = some { cls := .type "list", data := .seq vs.toArray }) (room : Room k callerA)
    (F : ∀ base : Heap, K.In base → base.Ns mainGlobals mg → (∀ p ∈ cs, TabB base mg p.1 p.2) → FnG P w K mg base CX k fa fd [x] sp) (bind : ∀ (s : Shared) (u : Value), BindsTo s fd ⟨[u], []⟩ [(x, u)]) (noX : ∀ H e s', CX [] H s₁ (fun _ _ _ => False) e s' → False)
    (H : Hp) (atT : ∀ p ∈ cs, H p.2 = some (.tbl #[])) (frozen : ∀ b, (∀ p ∈ cs, b ≠ p.2) → H b = none ∨ ∃ o xs, H b = some (.frz o (.lst xs))) (wish : sp [.ref a] H (fun v _ => v = .bl true) fun _ _ _ => False) (hok : HOk P w H s₁.heap)
    (only : ∀ b, H b ≠ none → b = a ∨ ∃ p ∈ cs, b = p.2) (free : H a ≠ none → K.lookup a = none) :
    codeAny (model P w) callerA (.call (.ref fa) ⟨[.ref a], []⟩) (fun r s' => r = .ok (.ret (.bool true)) ∧ OldK s₁.heap s'.heap ∧ s'.os = s₁.os ∧ AllBare s'.gens) s₁ := by
  have untracked : ∀ {b : Addr} {o : Obj}, s₁.heap.get? b = some o → (∀ vs n, o.data ≠ .seq vs n) → o.data ≠ .fields #[] → H b = none := fun {b o} e q1 q2 => by
    refine Classical.byContradiction fun hb => ?_
    rcases only b hb with rfl | ⟨p, hp, rfl⟩
    · rw [ha] at e
      exact q1 _ _ (by rw [← Option.some.inj e])
    · rw [tabs p hp] at e
      exact q2 (by rw [← Option.some.inj e])
  have dicts : ∀ {b : Addr} {m : Str → Option Value}, s₁.heap.Ns b m → (hidT s₁.heap H).Ns b m := fun {b m} ⟨o, es, ep, e, d, r⟩ =>
    ⟨o, es, ep, hidT_get e (untracked e (fun _ _ z => nomatch d.symm.trans z) fun z => nomatch d.symm.trans z), d, r⟩
  have KB : K.In (hidT s₁.heap H) := fun b o e => hidT_get (KX b o e) (by
    refine Classical.byContradiction fun hb => ?_
    rcases only b hb with rfl | ⟨p, hp, rfl⟩
    · rw [free hb] at e
      cases e
    · rw [notK p hp] at e
      cases e)
  have mod : L2.Mod K mg (hidT s₁.heap H) := ⟨KB, dicts gl, ⟨mb, dicts bl, boot⟩, let ⟨mc, l1, l2⟩ := lim; ⟨mc, dicts l1, l2⟩⟩
  have TB : ∀ p ∈ cs, TabB (hidT s₁.heap H) mg p.1 p.2 := fun p hp => by
    have tp := tabs p hp
    constructor
    · obtain ⟨o, us, file, tf, flags, tg, inF, text, tt, c1, c2, c3, c4, c5, c6, c7, c8, c9, c10⟩ := code p hp
      refine ⟨o, us, file, tf, flags, tg, inF, text, tt, hidT_get c1 (untracked c1 (fun _ _ z => nomatch c3.symm.trans z) fun z => ?_), c2, c3, c4, c5, c6, c7, c8, c9, c10⟩
      have z2 : us = #[] := by
        have := c3.symm.trans z
        injection this
      subst z2
      simp at c4
    · obtain ⟨bm, ob, b1, b2, b3, b4, b5, b6⟩ := main
      refine ⟨bm, ob, b1, b2, fun z => ?_, fun z => ?_, hidT_get b3 (untracked b3 (fun _ _ z => nomatch b6.symm.trans z) fun z => nomatch b6.symm.trans z), b4, b5, b6⟩
      · obtain ⟨o, es, ep, e, d, _⟩ := gl
        rw [z, e] at b3
        cases b3
        exact nomatch d.symm.trans b6
      · rw [z, tp] at b3
        cases b3
        exact nomatch b6
    · intro z
      obtain ⟨o, es, ep, e, d, _⟩ := gl
      rw [z, tp] at e
      cases e
      exact nomatch d
  have start : Env0 P w K mg (hidT s₁.heap H) callerA [] s₁ H := ⟨rfl, mod, fun b o e => of_hidT e, Nat.le_of_eq (hidT_size _ _), trivial, (fun b hb => by cases hb), hok, .of_eq gens⟩
  refine codeAny_mono ((F _ KB (dicts gl) TB).run callerA [] s₁ H ⟨[.ref a], []⟩ [.ref a] [.ref a] _ _ rfl room start (bind s₁ (.ref a)) (.cons rfl .nil) wish) fun r s' h => ?_
  cases r with
  | error e => exact (noX H e s' h).elim
  | ok fl =>
    cases fl with
    | next => exact False.elim h
    | brk => exact False.elim h
    | cont => exact False.elim h
    | ret u =>
      obtain ⟨v, H', os, bare, un, after, r', q⟩ := h
      obtain rfl : v = .bl true := q
      obtain rfl : u = Value.bool true := r'
      have stays : ∀ b o, (∀ p ∈ cs, b ≠ p.2) → s₁.heap.get? b = some o → s'.heap.get? b = some o := fun b o nb e => by
        rcases frozen b nb with z | ⟨ob, xs, z⟩
        · exact un.keep b o e z (fun y => by cases y) (fun y => by cases y)
        · obtain ⟨e1, _⟩ := hok b _ z
          obtain ⟨e2, _⟩ := after b _ (un.frzs b ob _ z)
          rw [e] at e1
          cases e1
          exact e2
      have grows : ∀ p ∈ cs, ∃ more : Array Value, s'.heap.get? p.2 = some { cls := .none, data := .fields more } := fun p hp => by
        obtain ⟨more, z⟩ := un.tbls p.2 #[] (atT p hp)
        exact ⟨_, after p.2 _ z⟩
      have split : ∀ b : Addr, (∃ p ∈ cs, b = p.2) ∨ ∀ p ∈ cs, b ≠ p.2 := fun b => Classical.byCases .inl fun z => .inr fun p hp e => z ⟨p, hp, e⟩
      refine ⟨rfl, ⟨fun b o e => ?_, fun b o e => ?_⟩, os, bare⟩
      · rcases split b with ⟨p, hp, rfl⟩ | nb
        · obtain ⟨more, hm⟩ := grows p hp
          have e' := (tabs p hp).symm.trans e
          cases e'
          exact .inr (.inl ⟨((code p hp).tab (tabs p hp)).isCodeTable, rfl, #[], more, rfl, by rw [Array.empty_append]; exact hm⟩)
        · exact .inl (stays b o nb e)
      · rcases split b with ⟨p, hp, rfl⟩ | nb
        · obtain ⟨more, hm⟩ := grows p hp
          exact ⟨_, hm⟩
        · exact ⟨o, stays b o nb e⟩
open Classical in
/-- the script, if the text does not keep it, and the tables -/
noncomputable def startT (K : PySem.W.Frag) (a : Addr) (vs : List Value) (ns : List Int) (cs : List (Addr × Addr)) : Hp := fun b =>
  if b = a then (if K.lookup a = none then some (.frz { cls := .type "list", data := .seq vs.toArray } (.lst (ns.map V.int))) else none) else if ∃ p ∈ cs, b = p.2 then some (.tbl #[]) else none
theorem law_callT (KX : K.In s₁.heap) (gl : s₁.heap.Ns mainGlobals mg) (bl : s₁.heap.Ns builtinsNs mb) (boot : ∀ x : Str, x ≠ "__name__" → mb x = bootBuiltins x) (lim : s₁.heap.NoLimit) (gens : s₁.gens = #[])
    (tabs : ∀ p ∈ cs, s₁.heap.get? p.2 = some emptyTab) (notK : ∀ p ∈ cs, K.lookup p.2 = none) (code : ∀ p ∈ cs, PySem.W.CodeHd s₁.heap p.1 p.2)
    (main : ∃ (bm : Addr) (ob : Obj), mg "__builtins__" = some (.ref bm) ∧ bm ≠ builtinsNs ∧ s₁.heap.get? bm = some ob ∧ ob.cls = .type "module" ∧ ob.dict = some builtinsNs ∧ ob.data = .plain)
    (ha : s₁.heap.get? a = some { cls := .type "list", data := .seq vs.toArray }) (hi : IntsAre vs ns) (hl : ns.length ≤ sizeLine) (room : Room k callerA)
    (F : ∀ base : Heap, K.In base → base.Ns mainGlobals mg → (∀ p ∈ cs, TabB base mg p.1 p.2) → FnG P w K mg base CX k fa fd [x] sp) (bind : ∀ (s : Shared) (u : Value), BindsTo s fd ⟨[u], []⟩ [(x, u)]) (noX : ∀ H e s', CX [] H s₁ (fun _ _ _ => False) e s' → False)
    (hsp : ∀ H : Hp, (∀ p ∈ cs, H p.2 = some (.tbl #[])) → SqL K H a (ns.map V.int) → sp [.ref a] H (fun v _ => v = .bl true) fun _ _ _ => False) :
    codeAny (model P w) callerA (.call (.ref fa) ⟨[.ref a], []⟩) (fun r s' => r = .ok (.ret (.bool true)) ∧ OldK s₁.heap s'.heap ∧ s'.os = s₁.os ∧ AllBare s'.gens) s₁ := by
  have rv := vals_ints hi
  have apart : ∀ p ∈ cs, p.2 ≠ a := fun p hp z => by
    have e := tabs p hp
    rw [z, ha] at e
    cases e
  have atT : ∀ p ∈ cs, startT K a vs ns cs p.2 = some (.tbl #[]) := fun p hp => by
    unfold startT
    rw [if_neg (apart p hp), if_pos ⟨p, hp, rfl⟩]
  have atA : startT K a vs ns cs a = if K.lookup a = none then some (.frz { cls := .type "list", data := .seq vs.toArray } (.lst (ns.map V.int))) else none := by
    unfold startT
    rw [if_pos rfl]
  have list : SqL K (startT K a vs ns cs) a (ns.map V.int) := by
    cases hk : K.lookup a with
    | none => exact .inl (.inr ⟨_, by rw [atA, if_pos hk]⟩)
    | some o =>
      have e := KX a o hk
      rw [ha] at e
      cases e
      exact .inr ⟨_, vs.toArray, _, hk, rfl, rfl, rfl, by rw [List.size_toArray, hi.length]; exact hl, by simpa using rv⟩
  refine law_coreT KX gl bl boot lim gens tabs notK code main ha room F bind noX (startT K a vs ns cs) atT (fun b nb => ?_) (hsp _ atT list) (fun b u z => ?_) (fun b hb => ?_) fun z => ?_
  · by_cases hba : b = a
    · subst hba
      by_cases hk : K.lookup b = none
      · exact .inr ⟨_, _, by rw [atA, if_pos hk]⟩
      · exact .inl (by rw [atA, if_neg hk])
    · refine .inl ?_
      unfold startT
      rw [if_neg hba, if_neg fun ⟨p, hp, e⟩ => nb p hp e]
  · by_cases hba : b = a
    · subst hba
      rw [atA] at z
      by_cases hk : K.lookup b = none
      · rw [if_pos hk] at z
        cases z
        exact ⟨ha, by rw [List.length_map]; exact hl, vs, _, rv, ha⟩
      · rw [if_neg hk] at z
        cases z
    · unfold startT at z
      rw [if_neg hba] at z
      by_cases hp : ∃ p ∈ cs, b = p.2
      · rw [if_pos hp] at z
        cases z
        obtain ⟨p, h1, rfl⟩ := hp
        exact tabs p h1
      · rw [if_neg hp] at z
        cases z
  · by_cases hba : b = a
    · exact .inl hba
    · refine .inr (Classical.byContradiction fun hp => hb ?_)
      unfold startT
      rw [if_neg hba, if_neg hp]
  · refine Classical.byContradiction fun hk => z ?_
    rw [atA, if_neg hk]
end
/-- what is known of the law's promise at the head's heap -/
def LawT (l : PySem.W.OpenLaw) (w : World) (K : PySem.W.Frag) (CX : CXT) (k n : Nat) (x : Str) (mg : Str → Option Value) (fa : Addr) (h : Heap) : Prop :=
  ∃ (fd : FuncData) (cs : List (Addr × Addr)) (sp : Sp), (∀ p ∈ cs, h.get? p.2 = some emptyTab) ∧ (∀ p ∈ cs, K.lookup p.2 = none) ∧ (∀ p ∈ cs, PySem.W.CodeHd h p.1 p.2) ∧ (∀ (s : Shared) (u : Value), BindsTo s fd ⟨[u], []⟩ [(x, u)]) ∧
    (∀ (H : Hp) (a : Addr) (ns : List Int), ns.length ≤ n → (∀ p ∈ cs, H p.2 = some (.tbl #[])) → SqL K H a (ns.map V.int) → sp [.ref a] H (fun v _ => v = .bl true) fun _ _ _ => False) ∧
    ∀ base : Heap, K.In base → base.Ns mainGlobals mg → (∀ p ∈ cs, TabB base mg p.1 p.2) → FnG l.prog w K mg base CX k fa fd [x] sp
theorem walk_ofT {l : PySem.W.OpenLaw} {n k : Nat} {q : Program} {loose : List Str} {XP : (Str → Option Value) → Heap → Prop} {YP : World → Heap → Prop} {d : DefRec} {K : Params → PySem.W.Frag} {CX : World → CXT} {x : Str}
    (hn : l.most = some n) (hn2 : n ≤ sizeLine) (hdf : d.params.defaults = []) (hr : Room k callerA) (hY : ∀ (w : World) (h : Heap), YP w h → (K w.params).In h)
    (F : ∀ (w : World) (mg : Str → Option Value) (fa : Addr) (h : Heap), YP w h → (K w.params).In h → h.Ns mainGlobals mg → (∀ (d' : DefRec) (x : Str) (c P : Addr), (recsOf q).find? (fun e => e.name == x) = some d' → PySem.W.tabIn (K w.params) x = some (c, P) → PySem.W.CodeHd h c P ∧ h.get? P = some emptyTab) → mg d.name = some (.ref fa) → LawT l w (K w.params) (CX w) k n x mg fa h)
    (hCX : ∀ (w : World) (G : Hp) (s0 : Shared) (er : Value) (s1 : Shared), CX w [] G s0 (fun _ _ _ => False) er s1 → False) : PySem.W.WalkO q loose XP YP l.row.toRowW d [] (fun f vs => PySem.call f vs) := by
  refine Att.attach_call hn hdf ?_
  intro w s₀ s₁ mg mb fa _ _ _ _ a vs ns G Y _ _ _ hmg hobj hints hlen hg
  obtain ⟨fd, cs, sp, t1, t2, t3, hb, hsp, hF⟩ := F w mg fa _ Y (hY w _ Y) G.T.g (fun d' x c P h1 h2 => PySem.W.tab_of G.T (hY w _ Y) h1 h2) hmg
  exact law_callT (hY w _ Y) G.T.g G.T.b G.T.builtins G.T.nolimit hg t1 t2 t3 G.T.bmain hobj hints (Nat.le_trans hlen hn2) hr hF hb (fun H e s' => hCX w H s₁ e s') fun H hH hS => hsp H a ns hlen hH hS
end L2

/-! Rules beside the layer: t[::-1], x op y and -x by own methods. -/
namespace HT
open PySem PySem.Spec PyProof.Rows
section
variable {prog : Program} {w : World} {A : Around} {E : Value → Shared → Prop} {s : Shared}
theorem fm_congr {α β : Type} {f g : α → Option β} : ∀ (l : List α), (∀ x ∈ l, f x = g x) → l.filterMap f = l.filterMap g
  | [], _ => rfl
  | a :: t, h => by
    rw [List.filterMap_cons, List.filterMap_cons, h a (by simp), fm_congr t (fun x hx => h x (by simp [hx]))]
theorem getItem_tuple_rev {t sl : Addr} {items : Array Value} {vs : Value} {Q : Value → Shared → Prop} (ht : IsTup s.heap t items) (hs : s.heap.IsSliceOf sl .none .none vs) (ps : IsPart vs (some (-1)))
    (h : Q (.ref s.heap.objs.size) { s with heap := s.heap.push { cls := .type "tuple", data := .seq items.toList.reverse.toArray } })
    (hsz : items.size ≤ sizeLine) : wpAny (model prog w) A (getItem (.ref t) (.ref sl)) Q E s := by
  have htake : sizeOk (.seq items.toList.reverse.toArray) := by simpa [sizeOk] using hsz
  rcases id hs with ⟨os, hos, hcs, hds⟩
  have kind : s.TypeIs (.ref sl) "slice" := ⟨os, hos, hcs⟩
  have three : ∀ {A' : Around} {R : Value × Value × Value → Shared → Prop} {E' : Value → Shared → Prop}, R (.none, .none, vs) s → wpAny (model prog w) A' (Builtin.Slice.sliceFields (.ref sl)) R E' s := fun z => wpAny_bind (wpAny_field hos hds (x := .none) rfl (wpAny_bind (wpAny_field hos hds (x := .none) rfl (wpAny_bind (wpAny_field hos hds (x := vs) rfl (wpAny_pure z))))))
  unfold getItem
  try with_reducible refine wpAny_holding ?_
  first | refine wpAny_bind (wpAny_pure ?_) | skip
  refine wpAny_bind (wpAny_sequenceKey ht.typeIs (by decide) (wpAny_bind (wpAny_callSpecial?_slot (name := Str.ofString "__getitem__") ht.typeIs PyProof.Rows.slot_tuple_getitem (wpAny_call_entry PyProof.Rows.slot_tuple_getitem ht.typeIs entry_tuple_getitem ?_ (args_tuple_getitem _ _)))))
  change wpAny _ _ (Builtin.Tuple.tupleItemsOf (.ref t) >>= _) _ _ s
  refine wpAny_bind (tupleItemsOf_ ht (wpAny_bind (wpAny_typeOf kind ?_)))
  rw [if_pos (by decide)]
  unfold Builtin.Slice.sliceApplied
  refine wpAny_bind (wpAny_bind (three (wpAny_bind (slicePart_ ps ?_))))
  change wpAny _ _ (if ((-1 : Int) == 0) = true then _ else _) _ _ s
  rw [if_neg (by decide)]
  refine wpAny_bind (slicePart_none (wpAny_bind (slicePart_none (wpAny_bind (wpAny_pure ?_)))))
  have hadj : Builtin.Slice.sliceAdjust none none (-1) (items.size : Int) = ((items.size : Int) - 1, -1) := rfl
  have hpl : Builtin.Slice.slicePlaces ((items.size : Int) - 1) (-1) (-1) = items.size := by
    unfold Builtin.Slice.slicePlaces
    have h1 : ¬ ((-1 : Int) > 0) := by omega
    simp only [h1, if_false]
    split
    · have e : ((items.size : Int) - 1 - -1 - 1) / (- -1) = (items.size : Int) - 1 := by
        rw [show (- -1 : Int) = 1 by decide, Int.ediv_one]; omega
      rw [e]; omega
    · omega
  show wpAny _ _ (match Builtin.Slice.sliceAdjust none none (-1) (items.size : Int) with | (lo, hi) => pure (lo, (-1 : Int), Builtin.Slice.slicePlaces lo hi (-1))) _ _ s
  rw [hadj]
  show wpAny _ _ (pure ((items.size : Int) - 1, (-1 : Int), Builtin.Slice.slicePlaces ((items.size : Int) - 1) (-1) (-1))) _ _ s
  rw [hpl]
  refine wpAny_pure ?_
  have hno : ¬ ((((items.size : Int) - 1) == 0 && (-1 : Int) == 1 && items.size == items.size) = true) := by
    intro q
    rw [Bool.and_eq_true, Bool.and_eq_true] at q
    exact absurd q.1.2 (by decide)
  show wpAny _ _ (if (((items.size : Int) - 1) == 0 && (-1 : Int) == 1 && items.size == items.size) = true then _ else _) _ _ s
  rw [if_neg hno]
  have hpick : ((List.range items.size).filterMap fun (k : Nat) => items[((items.size : Int) - 1 + (k : Int) * -1).toNat]?).toArray = items.toList.reverse.toArray := by
    congr 1
    have e : (List.range items.size).filterMap (fun (k : Nat) => items[((items.size : Int) - 1 + (k : Int) * -1).toNat]?) = ((List.range items.size).map fun k => items.size - 1 - k).filterMap (items[·]?) := by
      rw [List.filterMap_map]
      refine fm_congr _ fun k hk => ?_
      have := List.mem_range.mp hk
      have e2 : ((items.size : Int) - 1 + (k : Int) * -1).toNat = items.size - 1 - k := by omega
      show _ = items[items.size - 1 - k]?
      rw [e2]
    rw [e, PySem.W.krv_range, List.filterMap_reverse, PySem.W.krv_all]
  rw [hpick]
  have made : ∀ {A' : Around} {R : Value → Shared → Prop} {E' : Value → Shared → Prop}, R (.ref s.heap.objs.size) { s with heap := s.heap.push { cls := .type "tuple", data := .seq items.toList.reverse.toArray } } → wpAny (model prog w) A' (Builtin.Tuple.tupleExact items.toList.reverse.toArray) R E' s := fun z => wpAny_newObj_type z htake
  first
    | exact wpAny_bind (made (wpAny_pure ⟨_, rfl, wpAny_pure h⟩))
    | exact wpAny_bind (made ⟨_, rfl, wpAny_pure h⟩)
    | exact wpAny_bind (wpAny_bind (made (wpAny_pure ⟨_, rfl, wpAny_pure h⟩)))
    | exact wpAny_bind (made (wpAny_bind (wpAny_pure ⟨_, rfl, wpAny_pure h⟩)))
end
end HT
namespace L2
open PySem PySem.Spec PyProof.Rows
section
variable {X : Cx}
/-- t[::-1], t a tuple -/
def tRevT (K : PySem.W.Frag) (te : TE) : TE := fun σ H Q => te σ H fun x H1 => ∃ a xs, x = .ref a ∧ SqT K H1 a xs ∧ ∀ p, H1 p = none → Q (.ref p) (upd H1 p (.tup xs.reverse))
theorem pe_revT {e : Expr} {te : TE} {k : Nat} {p1 p2 p3 pos : Pos} (he : PE X e te) : PE X (.Subscript e (.Slice none none (some (.UnaryOp .USub (.Constant (.int 1) k p1) p2)) p3) pos) (tRevT X.K te) := by
  constructor
  intro pins s0 σ H W J w
  have back : PO X (some (.UnaryOp .USub (.Constant (.int 1) k p1) p2)) (tPart (tUn (rU fun i => .int (-i)) (tC (.int 1)))) := po_some (pe_un un_neg pe_int)
  refine Subscript_ (thn (he.run pins s0 σ H _ J w) ?_)
  rintro _ s1 ⟨_, H1, J1, rel, a, xs, rfl, tup, w1⟩
  cases rel
  refine wpAny_Slice (thn (po_none.run pins s1 σ H1 (fun o G => o = none ∧ G = H1) J1 ⟨rfl, rfl⟩) ?_)
  rintro _ s2 ⟨_, _, J2, n2, rfl, rfl⟩
  refine thn (po_none.run pins s2 σ _ (fun o G => o = none ∧ G = _) J2 ⟨rfl, rfl⟩) ?_
  rintro _ s3 ⟨_, _, J3, n3, rfl, rfl⟩
  refine thn (back.run pins s3 σ _ (fun o G => o = some (-1) ∧ G = _) J3 ⟨1, rfl, -1, rfl, rfl, rfl⟩) ?_
  rintro step s4 ⟨_, _, J4, part, rfl, rfl⟩
  cases n2
  cases n3
  have J5 := J4.kept (t' := s4.toks) (h' := s4.heap.push { cls := .type "slice", data := .fields #[.none, .none, step] }) fun _ _ z => Heap.get?_push_of_some _ z
  obtain ⟨its, vals, isTup, line⟩ := J5.tuple tup
  have many : its.toArray.size ≤ sizeLine := by
    rw [List.size_toArray, ← vals.length]
    exact line
  change wpAny (model X.prog X.w) X.A (subscriptTail e (.Slice none none (some (.UnaryOp .USub (.Constant (.int 1) k p1) p2)) p3) (.ref a) (.ref s4.heap.objs.size)) (EP X pins σ W) X.xe { s4 with heap := s4.heap.push { cls := .type "slice", data := .fields #[.none, .none, step] } }
  refine tail_any (ops := [.ref a, .ref s4.heap.objs.size]) isTup.typeIs (PyProof.Rows.slot_tuple_getitem.lookup) (HT.getItem_tuple_rev isTup (Heap.IsSliceOf.new _ .none .none step) part ?_ many) (by with_unfolding_all rfl)
  have laid := J5.laid (t' := s4.toks) (o := .tup xs.reverse) (fun _ _ z => Heap.get?_push_of_some _ z) (Nat.le_refl _) ⟨by rw [List.length_reverse]; exact line, _, vals.reverse, IsTup.new _ _⟩
  exact ⟨.ref _, _, laid, rfl, w1 _ (J5.hok.fresh (Nat.le_refl _))⟩
/-! ### own operators -/
section
variable {CX : CXT} {n : Nat} {C g : Addr} {sp : Sp} {E : XK}
/-- x op y, both instances of the class at C, whose def for op is at g -/
def rOwnB (C : Addr) (sp : Sp) (E : XK) : R2 := fun x y H Q => ∃ a dx fs b dy gs, x = .ref a ∧ y = .ref b ∧ H a = some (.ins C dx fs) ∧ H b = some (.ins C dy gs) ∧ sp [x, y] H Q E
theorem op_ownB {op : Operator} (hc : PySem.W.selfFirst X.K C = true) (hs : PySem.W.findIn X.K (.ref C) (PySem.dunder op.info.2) = some (some (.ref g))) (hf : PySem.W.isFn X.K (.ref g) = true) (F : FnR X.prog X.w X.K X.mg X.base CX n g sp)
    (hr : Room n X.A) (hx : Passes CX X E) : OpR X (binaryOp op) (rOwnB C sp E) := by
  intro pins s σ H x y v u Q I rx ry h
  obtain ⟨a, dx, fs, b, dy, gs, rfl, rfl, ha, hb, q⟩ := h
  cases (show v = Value.ref a from rx)
  cases (show u = Value.ref b from ry)
  obtain ⟨mA, M, _⟩ := ins_get I.hok ha
  obtain ⟨mB, M', _⟩ := ins_get I.hok hb
  obtain ⟨od, J, _⟩ := M.look
  obtain ⟨od', J', _⟩ := M'.look
  obtain ⟨m, hF⟩ := I.fr
  refine PySem.W.binop_K hF I.ok.mod.kin J J'.type hc hs hf ?_
  refine wpAny_mono (wpAny_call (run_fnR (us := [.ref a, .ref b]) (vs := [.ref a, .ref b]) F hr hx I (.cons rfl (.cons rfl .nil)) q)) (fun w s' z => ?_) fun _ _ x => x
  obtain ⟨z', H', I', rz, qz⟩ := z
  exact SlX.cmpback rz ⟨z', H', I', rz, qz⟩
/-- -x, x an instance -/
def rOwnU (C : Addr) (sp : Sp) (E : XK) : V → Hp → VK → Prop := fun x H Q => ∃ a dx fs, x = .ref a ∧ H a = some (.ins C dx fs) ∧ sp [x] H Q E
theorem un_own (hs : PySem.W.findIn X.K (.ref C) "__neg__" = some (some (.ref g))) (hf : PySem.W.isFn X.K (.ref g) = true) (F : FnR X.prog X.w X.K X.mg X.base CX n g sp)
    (hr : Room n X.A) (hx : Passes CX X E) : UnR X (unaryOp .USub) (rOwnU C sp E) := by
  intro pins s σ H x v Q I rx h
  obtain ⟨a, dx, fs, rfl, ha, q⟩ := h
  cases (show v = Value.ref a from rx)
  obtain ⟨mA, M, _⟩ := ins_get I.hok ha
  obtain ⟨od, J, _⟩ := M.look
  unfold unaryOp
  refine wpAny_holding ?_
  show wpAny _ _ (if (UnaryOp.USub == UnaryOp.Not) = true then _ else _) _ _ s
  rw [if_neg (by decide)]
  refine wpAny_bind (m := callSpecial? (.ref a) "__neg__") (PySem.W.special_fn I.kIn J hs (beq_iff_eq.mp hf) ?_)
  refine wpAny_mono (wpAny_call (run_fnR (us := [.ref a]) (vs := [.ref a]) F hr hx I (.cons rfl .nil) q)) (fun w s' z => ?_) fun _ _ x => x
  exact wpAny_pure z
end
end
end L2

/-! x op y: y an instance of another class; C(e, ..) by an __init__ with *args that may raise, where no repr is under way. -/
namespace PySem.W
open Lean Elab Tactic Meta PySem PySem.Calls PyProof.Rows
section
variable {prog : Program} {w : World} {A : Around} {E : Value → Shared → Prop} {s : Shared} {K : Frag} {x C D L f g : Addr} {h₀ : Heap} {m : Str → Option Value} {ox : Obj} {od : Option Obj}
theorem bin_ref {op : Operator} {b : Value} {Q : Value → Shared → Prop} (R : Fr h₀ L s.heap m) (KI : K.In h₀) (I : InstAt s.heap x ox C od) (hb : Looks (model prog w) s.heap (typeOf b) (.ref D)) (ne : C ≠ D) (first : selfFirst K C = true) (first2 : selfFirst K D = true)
    (meth : findIn K (.ref C) (PySem.dunder op.info.2) = some (some (.ref f))) (fn : isFn K (.ref f) = true) (refl : findIn K (.ref C) (dunderR op.info.2) = some none)
    (meth2 : findIn K (.ref D) (PySem.dunder op.info.2) = some (some (.ref g))) (refl2 : findIn K (.ref D) (dunderR op.info.2) = some none) (sub : subIn K (.ref D) (.ref C) = some false)
    (go : wpAny (model prog w) A (call (.ref f) [.ref x, b]) (CmpBack Q) E s) : wpAny (model prog w) A (binaryOp op (.ref x) b) Q E s := by
  have KX := KI.keeps R.keep
  obtain ⟨cd, rest, c1, c2⟩ := ksp_first first
  obtain ⟨cd2, rest2, d1, d2⟩ := ksp_first first2
  rcases hop : op.info with ⟨sy, n⟩
  rw [hop] at meth refl meth2 refl2
  have tried := ksp_try KX I meth fn go
  obtain ⟨hp, gs, dr, tk, os⟩ := s
  have T1 : Looks (model prog w) hp (typeOf (.ref x)) (.ref C) := I.type
  have T2 : Looks (model prog w) hp (typeOf b) (.ref D) := hb
  have F1 : Looks (model prog w) hp (fillsNumberSlot (.ref C) n) true := fills_K KX c1 c2 meth
  have F2 : Looks (model prog w) hp (fillsNumberSlot (.ref D) n) true := fills_K KX d1 d2 meth2
  have S1 : Looks (model prog w) hp (isSubtype (.ref D) (.ref C)) false := looks_subIn KX sub
  have P1 : Looks (model prog w) hp (numberSlotInPython (.ref C) n) true := ksp_inPy KX meth refl (.inl rfl)
  have P2 : Looks (model prog w) hp (numberSlotInPython (.ref D) n) true := ksp_inPy KX meth2 refl2 (.inl rfl)
  have other : (Value.ref C == Value.ref D) = false := by
    refine Bool.eq_false_iff.mpr fun z => ?_
    cases beq_iff_eq.mp z
    exact ne rfl
  simp only [binaryOp, hop]
  refine wpAny_holding ?_
  refine wpAny_bind ?_
  unfold binaryOp1
  refine wpAny_bind (T1.at ?_)
  refine wpAny_bind (T2.at ?_)
  refine wpAny_bind (F1.at ?_)
  simp only [other, Bool.false_eq_true, if_false]
  ksp_lk
  refine wpAny_mono tried ?_ (fun _ _ z => z)
  rintro r s' ⟨v, rfl, q⟩
  ksp_lk
  exact q
end
end PySem.W
namespace L2
open PySem PySem.Spec PyProof.Rows
section
variable {X : Cx} {CX : CXT} {k : Nat} {C D g g2 : Addr} {sp : Sp} {fd : FuncData} {ps : List Str} {E : XK} {a b : Expr} {ta tb : TE} {pos : Pos}
def tBinY (C D : Addr) (sp : Sp) (E : XK) (ta tb : TE) : TE := fun σ H Q => ta σ H fun x H1 => tb σ H1 fun y H2 => ∃ a dx fs b dy gs, x = .ref a ∧ y = .ref b ∧ H2 a = some (.ins C dx fs) ∧ H2 b = some (.ins D dy gs) ∧ sp [x, y] H2 Q E
/-- a op b by the own method, which may raise; b is an instance of another class -/
theorem pe_binY {op : Operator} (ne : C ≠ D) (hc : PySem.W.selfFirst X.K C = true) (hc2 : PySem.W.selfFirst X.K D = true) (hs : PySem.W.findIn X.K (.ref C) (PySem.dunder op.info.2) = some (some (.ref g))) (hf : PySem.W.isFn X.K (.ref g) = true)
    (hr2 : PySem.W.findIn X.K (.ref C) (dunderR op.info.2) = some none) (hs2 : PySem.W.findIn X.K (.ref D) (PySem.dunder op.info.2) = some (some (.ref g2))) (hr3 : PySem.W.findIn X.K (.ref D) (dunderR op.info.2) = some none) (hsub : PySem.W.subIn X.K (.ref D) (.ref C) = some false)
    (F : FnG X.prog X.w X.K X.mg X.base CX k g fd ps sp) (gd : X.A.guards = some []) (hr : Room k X.A) (hb : Binds X.K fd ps []) (hx : Passes CX X E) (ha : PE X a ta) (hbb : PE X b tb) :
    PE X (.BinOp a op b pos) (tBinY C D sp E ta tb) := by
  refine ⟨fun pins s σ H Q I h => ?_⟩
  refine wpAny_BinOp (binT ha hbb I (R := fun x y H2 => ∃ a dx fs b dy gs, x = .ref a ∧ y = .ref b ∧ H2 a = some (.ins C dx fs) ∧ H2 b = some (.ins D dy gs) ∧ sp [x, y] H2 Q E) h fun v u s2 x y H2 I2 rx ry q => ?_)
  obtain ⟨a0, dx, fs, b0, dy, gs, rfl, rfl, h0, h1, q⟩ := q
  cases (show v = Value.ref a0 from rx)
  cases (show u = Value.ref b0 from ry)
  obtain ⟨mA, M, _⟩ := ins_get I2.hok h0
  obtain ⟨oD, J, _⟩ := M.look
  obtain ⟨mB, M', _⟩ := ins_get I2.hok h1
  obtain ⟨oD', J', _⟩ := M'.look
  obtain ⟨m, hF⟩ := I2.fr
  refine PySem.W.bin_ref hF I2.ok.mod.kin J J'.type ne hc hc2 hs hf hr2 hs2 hr3 hsub ?_
  have q' : sp ([.ref a0, .ref b0] ++ []) H2 Q E := by rw [List.append_nil]; exact q
  refine wpAny_mono (run_fnG (vs := [.ref a0, .ref b0]) (us := [.ref a0, .ref b0]) F gd hr hb .nil hx I2 (.cons rfl (.cons rfl .nil)) q') (fun w s' z => ?_) fun _ _ x => x
  obtain ⟨z', H', I', rz, qz⟩ := z
  exact SlX.cmpback rz ⟨z', H', I', rz, qz⟩
/-- a op b, b an int -/
def tBinI (C : Addr) (sp : Sp) (E : XK) (ta tb : TE) : TE := fun σ H Q => ta σ H fun x H1 => tb σ H1 fun y H2 => ∃ a dx fs i, x = .ref a ∧ y = .int i ∧ H2 a = some (.ins C dx fs) ∧ sp [x, y] H2 Q E
theorem pe_binI {op : Operator} {fo ro : Option Value} (hc : PySem.W.selfFirst X.K C = true) (hs : PySem.W.findIn X.K (.ref C) (PySem.dunder op.info.2) = some (some (.ref g))) (hf : PySem.W.isFn X.K (.ref g) = true)
    (hr2 : PySem.W.findIn X.K (.ref C) (dunderR op.info.2) = some none) (h1 : PySem.W.findIn X.K (.type "int") (PySem.dunder op.info.2) = some fo) (h2 : PySem.W.findIn X.K (.type "int") (dunderR op.info.2) = some ro) (hsub : PySem.W.subIn X.K (.type "int") (.ref C) = some false)
    (F : FnG X.prog X.w X.K X.mg X.base CX k g fd ps sp) (gd : X.A.guards = some []) (hr : Room k X.A) (hb : Binds X.K fd ps []) (hx : Passes CX X E) (ha : PE X a ta) (hbb : PE X b tb) :
    PE X (.BinOp a op b pos) (tBinI C sp E ta tb) := by
  refine ⟨fun pins s σ H Q I h => ?_⟩
  refine wpAny_BinOp (binT ha hbb I (R := fun x y H2 => ∃ a dx fs i, x = .ref a ∧ y = .int i ∧ H2 a = some (.ins C dx fs) ∧ sp [x, y] H2 Q E) h fun v u s2 x y H2 I2 rx ry q => ?_)
  obtain ⟨a0, dx, fs, i, rfl, rfl, h0, q⟩ := q
  cases (show v = Value.ref a0 from rx)
  obtain ⟨t, rfl⟩ := ry
  obtain ⟨mA, M, _⟩ := ins_get I2.hok h0
  obtain ⟨oD, J, _⟩ := M.look
  obtain ⟨m, hF⟩ := I2.fr
  refine PySem.W.ksp_binT (T := "int") hF I2.ok.mod.kin J rfl hc hs hf hr2 (.inl rfl) h1 h2 hsub ?_
  have q' : sp ([.ref a0, .int i] ++ []) H2 Q E := by rw [List.append_nil]; exact q
  refine wpAny_mono (run_fnG (vs := [.ref a0, .int i]) (us := [.ref a0, .int i t]) F gd hr hb .nil hx I2 (.cons rfl (.cons ⟨t, rfl⟩ .nil)) q') (fun w s' z => ?_) fun _ _ x => x
  obtain ⟨z', H', I', rz, qz⟩ := z
  exact SlX.cmpback rz ⟨z', H', I', rz, qz⟩
end
/-- what a call's end says, told again of the caller: errors by hx, a value by the wish -/
theorem ended {X : Cx} {CX : CXT} {E : XK} {pins : List (Addr × Obj)} {σ : L2.St} {H : Hp} {s0 : Shared} {W : VK} {R : Value → Shared → Prop} (pass : Passes CX X E) (J : Inv X pins σ H s0)
    (back : ∀ u s1, EP X pins σ W u s1 → R u s1) : ∀ (r : Except Value Flow) (s1 : Shared), CR CX X.stack X.prog X.w H s0 W E r s1 → (match r with | .ok (.ret u) => R u s1 | .ok _ => False | .error er => X.xe er s1) := by
  rintro (er | fl) s1 z
  · exact pass pins σ H s0 er s1 J z
  · cases fl with
    | ret u => exact back u s1 (J.after z)
    | _ => exact z
/-- a new instance of C by an __init__ that is told where no repr is under way -/
theorem made_by {X : Cx} {CX : CXT} {n : Nat} {C g : Addr} {pr : Sp} {E : XK} {pins : List (Addr × Obj)} {σ : L2.St} {H : Hp} {s0 : Shared} {W : VK} {args : List Value} {as : List V} (mk : Mk X.K C g) (init : FnRG X.prog X.w X.K X.mg X.base CX n g pr) (quiet : X.A.guards = some []) (room : Room (n + 1) X.A) (pass : Passes CX X E) (J : Inv X pins σ H s0) (rel : Vals as args)
    (wish : ∀ o od, H o = none → H od = none → od ≠ o → pr (.ref o :: as) (upd (upd H od (.own o)) o (.ins C od [])) (fun v H2 => v = .non ∧ W (.ref o) H2) E) : wpAny (model X.prog X.w) X.A (PySem.call (.ref C) args) (EP X pins σ W) X.xe s0 := by
  have J2 : Inv X pins σ _ _ := Inv.made (C := C) J
  have w := wish _ _ (J.hok.fresh (Nat.le_succ s0.heap.objs.size)) (J.hok.fresh (Nat.le_refl s0.heap.objs.size)) (Nat.ne_of_lt (Nat.lt_succ_self _))
  have run := init _ X.stack _ _ (Value.ref (s0.heap.objs.size + 1) :: args) _ _ E (make_guards.trans quiet) (room.make C args []) (J2.env0.make C args []) (show Vals (V.ref (s0.heap.objs.size + 1) :: as) _ from .cons rfl rel) w
  refine wpAny_call (make_map (f := g) J.kIn mk.makes mk.init (beq_iff_eq.mp mk.fn) (codeAny_mono run fun r s1 z => ?_))
  have d := ended (W := fun v H2 => v = .non ∧ W (.ref (s0.heap.objs.size + 1)) H2) (R := fun u s2 => RelV .non u ∧ EP X pins σ W (.ref (s0.heap.objs.size + 1)) s2) pass J2 (fun u s2 ⟨v, H2, I2, ru, ev, q⟩ => ⟨by rw [← ev]; exact ru, .ref _, H2, I2, rfl, q⟩) r s1 z
  cases r with
  | error er => exact d
  | ok fl =>
    cases fl with
    | ret u => exact d
    | _ => exact d.elim
theorem pe_makeRG {X : Cx} {CX : CXT} {n : Nat} {C g : Addr} {pr : Sp} {E : XK} {nm : Str} {e1 : Expr} {er : List Expr} {ta : TA} {pn pc : Pos} (mk : Mk X.K C g) (init : FnRG X.prog X.w X.K X.mg X.base CX n g pr) (quiet : X.A.guards = some []) (room : Room (n + 1) X.A) (gl : Gl X nm) (at_ : X.mg nm = some (.ref C)) (pass : Passes CX X E) (args : PA X (e1 :: er) ta) (nd : (nm == ("__debug__" : Str)) = false := by decide)
    (st : starEach (e1 :: er) X.env = (false, eval e1 X.env) :: starEach er X.env := by rfl) (pl : (backTo pc (starEach er X.env)).any (·.1) = false := by rfl) : PE X (.Call (.Name nm pn) (e1 :: er) [] pc) (StX.tMakeR C pr E ta) :=
  ⟨fun pins s0 σ H W J w => wpAny_Call_Name_kw (ld_glob J gl at_ (PySem.W.callWith_K (h₀ := X.base) J.ok.mod.kin mk.kp (thn (args.run pc pins s0 σ H _ J w) fun us s1 ⟨as, H1, J1, rel, w1⟩ => ⟨J1.kIn, made_by mk init quiet room pass J1 rel w1⟩) st pl) nd)⟩
end L2

/-! a, b = xs of a list. -/
namespace L2
open PySem PySem.Spec PyProof.Rows
section
variable {X : Cx}
/-- a, b = xs, xs a list -/
def gTupL (K : PySem.W.Frag) (n : Nat) (t : TGs) : TG := fun v σ H Q => ∃ a xs, v = .ref a ∧ SqL K H a xs ∧ xs.length = n ∧ t xs σ H Q
theorem pg_tupL {es : List Expr} {k : Nat} {t : TGs} {n : Nat} {pos : Pos} (hc : X.calm = true) (h : PGs X es t)
    (hn : (assignEach es X.env).length = n := by rfl) (hst : (assignEach es X.env).findIdx? (·.1) = none := by rfl) : PG X (.Tuple es k pos) (gTupL X.K n t) := by
  refine ⟨fun pins s σ H v u Q I r hw => ?_⟩
  obtain ⟨a, xs, e1, hq, hl, hw⟩ := hw
  subst e1
  cases r
  obtain ⟨its, rv, ht, hz⟩ := I.list hq
  rw [assign_Tuple]
  refine wpAny_bind (wpAny_standAt ?_)
  unfold unpack
  rw [hst]
  refine wpAny_bind (wpAny_holding ?_)
  have e : (assignEach es X.env).length = its.toArray.size := by simp [hn, ← hl, rv.length]
  rw [e]
  refine PySem.W.kun_itemsOf (I.ok.hd hc) ht.isList fun h' hx => ?_
  have I1 : Inv X pins σ H { s with heap := h' } := I.kept (t' := s.toks) fun b o e => hx b o (Nat.ne_of_lt (Heap.lt_size e)) e
  exact h.run pins _ σ H xs _ Q I1 (by simpa using rv) hw
end
end L2

/-! o.m(k = v): a method with keywords alone. -/
namespace L2
open PySem PySem.Spec PyProof.Rows
def g2 : List Value → List Value → List Value
  | [u], [w] => [u, w]
  | _, _ => []
def gV2 : List V → List V → List V
  | [u], [w] => [u, w]
  | _, _ => []
/-- one by position (self), one by name -/
theorem KBinds.two {K : PySem.W.Frag} {fd : FuncData} {a b : Str} (h : ∀ u w : Value, bindArgs fd ⟨[u], [(b, w)]⟩ = pure [(a, u), (b, w)]) : KBinds K fd [a, b] [b] g2 gV2 :=
  ⟨fun s us ws _ hl => by
    match us, ws, hl with
    | [u], [w], _ => exact .of_eq (h u w)
    | [], _, hl => simp [g2] at hl
    | _ :: _ :: _, _, hl => simp [g2] at hl
    | [_], [], hl => simp [g2] at hl
    | [_], _ :: _ :: _, hl => simp [g2] at hl, fun {vs us zs ws} r rz => by
    cases r with
    | nil => exact .nil
    | cons r1 r2 =>
      cases r2 with
      | cons _ _ => exact .nil
      | nil =>
        cases rz with
        | nil => exact .nil
        | cons z1 z2 =>
          cases z2 with
          | nil => exact .cons r1 (.cons z1 .nil)
          | cons _ _ => exact .nil⟩
def tMethK (C : Addr) (m : Str) (sp : Sp) (E : XK) (ta : TE) (tk : TA) : TE := fun σ H Q => ta σ H fun x H1 => ∃ a dx fs, x = .ref a ∧ H1 a = some (.ins C dx fs) ∧ fs.lookup m = none ∧ tk σ H1 fun zs H2 => sp (gV2 [x] zs) H2 Q E
theorem pe_methK {X : Cx} {CX : CXT} {k : Nat} {C f : Addr} {m : Str} {fd : FuncData} {ps ks : List Str} {sp : Sp} {E : XK} {o : Expr} {kws : List Keyword} {ta : TE} {tk : TA} {apos pos : Pos} {pl : Sem Bool} (he : PE X o ta) (c : Cls X.K C) (hm : Meth X.K C m f) (F : FnOk X.prog X.w X.K X.mg X.base CX k f fd ps sp) (hr : Room k X.A)
    (hb : KBinds X.K fd ps ks g2 gV2) (hx : Passes CX X E) (hkw : PK X kws tk)
    (hall : (backToKw pos (keywordEach kws X.env)).all (·.1.isSome) = true := by rfl) (hks : (backToKw pos (keywordEach kws X.env)).filterMap (·.1) = ks := by rfl)
    (hpl : ((backTo pos (starEach [] X.env)).any (·.1) || (backToKw pos (keywordEach kws X.env)).any (·.1.isNone)) = false := by rfl)
    (ht : eval (.Call (.Attribute o m apos) [] kws pos) X.env = (do
      let ov ← eval o X.env
      standAt apos.atName
      let (f, first) ← holding [ov] (getMethod ov m pl)
      callWith pos f first (backTo pos (starEach [] X.env)) (backToKw pos (keywordEach kws X.env))) := by rfl) :
    PE X (.Call (.Attribute o m apos) [] kws pos) (tMethK C m sp E ta tk) := by
  constructor
  intro pins s0 σ H W J w
  have obj := he.run pins s0 σ H _ J w
  refine PySem.W.methodCall_KW (pl := pl) (thn obj ?_) ht
  rintro _ s1 ⟨_, H1, J1, rel, a, dx, fs, rfl, ea, lk, w1⟩
  cases rel
  refine getmeth_ok J1 ea c hm lk (PySem.W.callWith_KW0 (h₀ := X.base) (first := [.ref a]) J.ok.mod.kin hm.kp hall (thn (hkw.run pos pins s1 σ H1 _ J1 w1) ?_) hpl)
  rintro vals s2 ⟨zs, H2, J2, rz, w2⟩
  refine ⟨J2.kIn, ?_⟩
  rw [hks]
  exact run_fnk (us := [.ref a]) (vs := [.ref a]) F hr hb hx J2 (Paired.cons rfl Paired.nil) rz w2
end L2

/-! try: .. except x1 as n: .. except x2 as n: ..; one of the clauses takes whatever the body lets out. -/
namespace L2
open PySem PySem.Spec PyProof.Rows
abbrev Suite := Addr → Value → Option Addr → TS
/-- behind a clause its name is gone -/
def Ends.gone (D : Ends) (i : Nat) : Ends where
  nx := fun τ G => D.nx (τ.set i none) G
  rt := D.rt
  bk := fun τ G => D.bk (τ.set i none) G
  ct := fun τ G => D.ct (τ.set i none) G
/-- the first clause that fits has what it wants -/
def Fits (K : PySem.W.Frag) (i : Nat) (D : Ends) : List (Value × Suite) → WX
  | [] => fun _ _ _ _ => False
  | one :: more => fun cls d τ G => (PySem.W.exmOne K cls one.1 = some true ∧ ∀ a, G a = none → one.2 a cls d (D.gone i) (τ.set i (some (.ref a))) G) ∨ (PySem.W.exmOne K cls one.1 = some false ∧ Fits K i D more cls d τ G)
inductive Clauses (X : Cx) (n : Str) : List ExceptHandler → List (Value × Suite) → Prop
  | nil : Clauses X n [] []
  | cons {x : Str} {one : Value × Suite} {st : Stmt} {sts : List Stmt} {p1 p2 : Pos} {hs : List ExceptHandler} {more : List (Value × Suite)} (named : Names X x one.1)
      (suite : ∀ (a : Addr) (oe : Obj) (cls : Value) (d : Option Addr) (pn : List (Addr × Obj)), Zc cls d oe → (∃ vs, oe.data = .fields vs) → PSs (X.suite a ((a, oe) :: pn)) (st :: sts) (one.2 a cls d)) (rest : Clauses X n hs more) :
      Clauses X n (.ExceptHandler (some (.Name x p1)) (some n) (st :: sts) p2 :: hs) (one :: more)
section
variable {X : Cx} {n : Str} {i : Nat} {D : Ends} {pins : List (Addr × Obj)} {τ : St} {G : Hp} {a B : Addr} {cls : Value} {d : Option Addr}
/-- the handlers, once the exception at a has landed: every landing of it keeps the invariant, and a is apart -/
theorem fits_go {base : Heap} {hp : Heap} {s0 : Shared} {oe : Obj} {vs : Array Value} (nd : X.N.Nodup) (slot : X.N[i]? = some n) (loc : X.env.kindOf n = some .local) (stk : X.stack = X.env :: X.outer) (frm : X.env.frame = some X.env.locals)
    (fly : HandSPX.FlyingZ base (X.env :: X.outer) a (Zc cls d) hp) (inv : ∀ h', HandSPX.FlyingZ base (X.env :: X.outer) a (Zc cls d) h' → hp.UpToSlots h' → Inv X pins τ G { s0 with heap := h' }) (here : Inv X pins τ G { s0 with heap := hp }) (free : G a = none) (apart : a ≠ X.env.locals ∧ a ∉ X.fs)
    (obj : hp.get? a = some oe) (of : Zc cls d oe) (dat : oe.data = .fields vs) :
    ∀ {hs : List ExceptHandler} {l : List (Value × Suite)}, Clauses X n hs l → Fits X.K i D l cls d τ G → wpAny (model X.prog X.w) X.A (handleBy (.ref a) X.env hs) (SP X pins D) X.xe { s0 with heap := hp } := by
  intro hs l cl
  induction cl with
  | nil => exact fun z => z.elim
  | @cons x one st sts p1 p2 hs more named suite rest ih =>
    intro w
    have inSuite := here.suite obj dat free apart.1 apart.2
    have kind : PySem.W.Looks (model X.prog X.w) hp (typeOf (.ref a)) cls := fun _ _ _ _ keep z => wpAny_typeOf_ref (keep _ _ obj) (by rw [of.1]; exact z)
    refine wpAny_handleBy_cons (codeAny_handlers_test ?_) (fun z => by cases z)
    have asked : ∀ {Q : Value → Shared → Prop} {E : Value → Shared → Prop}, Q one.1 { s0 with heap := hp } → wpAny (model X.prog X.w) (X.A.mark (some (.ref a))) (eval (.Name x p1) X.env) Q E { s0 with heap := hp } := by
      intro Q E z
      rcases named with ⟨gl, nodebug, own | ⟨none_, boot, noname⟩⟩
      · exact ld_glob (X := X.suite a ((a, oe) :: (X.pn ++ pins))) inSuite gl own z nodebug
      · exact ld_blt (X := X.suite a ((a, oe) :: (X.pn ++ pins))) inSuite gl none_ boot z noname nodebug
    rcases w with ⟨yes, w⟩ | ⟨no, w⟩
    · refine asked ((PySem.W.exm_one (M := model X.prog X.w) here.kIn kind yes).here (codeAny_handlers_suite_as (HandSPX.lands_againZ fly fun h4 fly4 up4 => ?_)))
      have J := inv h4 fly4 up4
      obtain ⟨o4, v4, g4, z4, d4⟩ := fly4.there
      refine store_ok (X := X.suite a ((a, o4) :: (X.pn ++ pins))) (v := .ref a) (J.suite g4 d4 free apart.1 apart.2) nd slot (.inl loc) rfl (fun s5 J5 => ?_) (.inr loc)
      refine wpAny_mono ((suite a o4 cls d (X.pn ++ pins) z4 ⟨_, d4⟩).run [] s5 _ G (D.gone i) J5 (w a free)) (fun fl s6 z => ?_) (fun _ _ z => z.elim)
      have leave : ∀ {τ6 : St} {G6 : Hp} {R : Shared → Prop}, Inv (X.suite a ((a, o4) :: (X.pn ++ pins))) [] τ6 G6 s6 → (∀ s7, Inv X pins (τ6.set i none) G6 s7 → R s7) → wpAny (model X.prog X.w) X.A (do bindName X.env n .none; unbindBehindTheSuite X.env n p2) (fun _ s7 => R s7) X.xe s6 :=
        fun J6 k => gone_ok (J6.unsuite here.ok) nd slot loc k
      cases fl with
      | ret u => obtain ⟨v6, τ6, G6, J6, r6, q6⟩ := z; exact leave J6 fun s7 J7 => ⟨v6, _, G6, J7, r6, q6⟩
      | next => obtain ⟨τ6, G6, J6, q6⟩ := z; exact leave J6 fun s7 J7 => ⟨_, G6, J7, q6⟩
      | brk => obtain ⟨τ6, G6, J6, q6⟩ := z; exact leave J6 fun s7 J7 => ⟨_, G6, J7, q6⟩
      | cont => obtain ⟨τ6, G6, J6, q6⟩ := z; exact leave J6 fun s7 J7 => ⟨_, G6, J7, q6⟩
    · exact asked ((PySem.W.exm_one (M := model X.prog X.w) here.kIn kind no).here (ih w))
end
section
variable {X : Cx} {n : Str} {i : Nat} {body : List Stmt} {h0 : ExceptHandler} {hs : List ExceptHandler} {l : List (Value × Suite)} {pos : Pos} {tb : WX → TS}
theorem ps_try_fits (stk : X.stack = X.env :: X.outer) (frm : X.env.frame = some X.env.locals) (nd : X.N.Nodup) (slot : X.N[i]? = some n) (loc : X.env.kindOf n = some .local)
    (inner : ∀ (W : WX) (pn : List (Addr × Obj)) (xe : Value → Shared → Prop), Takes (X.tr pn xe) W → PassesOwn (model X.prog X.w) X.A X.env xe → PSs (X.tr pn xe) body (tb W))
    (cl : Clauses X n (h0 :: hs) l) : PS X (.Try body (h0 :: hs) [] [] pos) (fun D σ H => tb (Fits X.K i D l) D σ H) := by
  constructor
  intro pins s σ H D I w
  have frames : X.A.frames = some (X.env :: X.outer) := stk ▸ I.ok.frames
  have catching : Takes (X.tr (X.pn ++ pins) (fun ex s1 => wpAny (model X.prog X.w) X.A (noteFrame ex X.env) (fun _ s2 => wpAny (model X.prog X.w) X.A (setFlight ex none) (fun _ s3 => wpAny (model X.prog X.w) X.A (handleBy ex X.env (h0 :: hs)) (SP X pins D) X.xe s3) X.xe s2) X.xe s1)) (Fits X.K i D l) := by
    rintro _ s1 ⟨a, B, sI, _, τ, G, cls, d, rfl, J0, ground, up, sky, free, os, bare, fit⟩
    have J : Inv X pins τ G sI := J0.ofTry I.ok
    have any : ∀ h', HandSPX.FlyingZ B (X.env :: X.outer) a (Zc cls d) h' → s1.heap.UpToSlots h' → Inv X pins τ G { s1 with heap := h' } := fun h' fly to => J.landed ground fly.1 (up.trans to) os bare
    refine Sky.land Zc.steady frames frm (stk ▸ sky) fun h3 fly to => ?_
    obtain ⟨o3, v3, g3, z3, d3⟩ := fly.there
    have out : a ∉ frs (X.env :: X.outer) := fun inn => by
      obtain ⟨_, o, go, nofields⟩ := fly.2.2.1.mem inn
      exact nofields v3 (by rw [← d3, Option.some.inj (g3.symm.trans go)])
    refine fits_go (oe := o3) (vs := v3) (s0 := s1) nd slot loc stk frm fly (fun h' f2 t2 => any h' f2 (to.trans t2)) (any h3 fly to) free ⟨fun z => out ?_, fun z => out ?_⟩ g3 z3 d3 cl fit
    · exact List.mem_filterMap.mpr ⟨X.env, by simp, z ▸ frm⟩
    · obtain ⟨en, inOuter, fr⟩ := List.mem_filterMap.mp z
      exact List.mem_filterMap.mpr ⟨en, by simp [inOuter], fr⟩
  refine wpAny_Try_except (wpAny_mono ((inner _ _ _ catching PassesOwn.looking).run [] s σ H D (I.toTry _) w) (fun fl s1 z => ?_) (fun _ _ z => z))
  cases fl with
  | ret u => obtain ⟨v, τ, G, J, rel, q⟩ := z; exact ⟨v, τ, G, J.ofTry I.ok, rel, q⟩
  | next => obtain ⟨τ, G, J, q⟩ := z; exact wpAny_execs_nil ⟨τ, G, J.ofTry I.ok, q⟩
  | brk => obtain ⟨τ, G, J, q⟩ := z; exact ⟨τ, G, J.ofTry I.ok, q⟩
  | cont => obtain ⟨τ, G, J, q⟩ := z; exact ⟨τ, G, J.ofTry I.ok, q⟩
end
end L2

/-! x(lambda: body): the lambda is called by a def with one parameter; no repr is under way. -/
namespace L2
open PySem PySem.Spec PyProof.Rows LamX
/-- the def that calls what it got -/
def GivesTo1 (X : Cx) (Ng : List Str) (x : Str) (sg : Scope) (g : Addr) (cdg : Value) (bg : List Stmt) (a : Str) (q : Str) (k : Nat) (TT : (XK → Hp → VK → Prop) → Hp → VK → Prop) : Prop :=
  ∀ (f c' : Addr) (s : Shared) (H : Hp) (Q : VK) (tl : XK → Hp → VK → Prop),
    (∀ (W : WX) (pn : List (Addr × Obj)) (xe : Value → Shared → Prop) (p1 p2 : Pos), Takes ((cxOf C8.CX0 X.prog X.w X.K X.mg X.base Ng x sg g cdg X.A X.stack s H C8.E0).tr pn xe) W →
      PE ((cxOf C8.CX0 X.prog X.w X.K X.mg X.base Ng x sg g cdg X.A X.stack s H C8.E0).tr pn xe) (.Call (.Name a p1) [] [] p2) (fun σZ HZ Q => σZ[0]? = some (some (.ref f)) ∧ HZ c' = some (CodeO c' q) ∧ tl (WE W σZ) HZ Q)) →
    Room k (X.A.deeper (envOfC x sg s.heap.objs.size g cdg)) → H c' = some (CodeO c' q) → TT tl H Q →
    ∃ t, PSs (cxOf C8.CX0 X.prog X.w X.K X.mg X.base Ng x sg g cdg X.A X.stack s H C8.E0).nox bg t ∧ t { nx := fun _ H' => Q .non H', rt := Q } (L2.start Ng [.ref f]) H
theorem pe_lamcall1 {X : Cx} {T : List (Addr × Str)} {TT : (XK → Hp → VK → Prop) → Hp → VK → Prop} {x a : Str} {g c P : Addr} {k : Nat} {pg : Arguments} {bg : List Stmt} {sg : Scope} {dV kV doc pm cdv ct oc : Value} {an od : Option Addr} {osl : Array (Option Value)} {Ng : List Str}
    {params : Arguments} {body : Expr} {scope : Scope} {t : XK → TE} {p lpos pos : Pos} (quiet : X.A.guards = some []) (gl : Gl X x) (mod : X.mg x = some (.ref g)) (keep : PySem.W.keepIn X.K (.ref g) = true)
    (lk : X.K.lookup g = some ⟨oc, od, .func (PySem.W.fnOf x x pg bg sg dV kV doc pm an cdv ct), osl⟩) (code : PySem.W.codeIn X.K cdv x = true) (binds : L2.Binds X.K (PySem.W.fnOf x x pg bg sg dV kV doc pm an cdv ct) [a] []) (Sg : FnScope Ng [a] sg) (first : Ng[0]? = some a) (seen : Vis sg a)
    (gives : GivesTo1 X Ng x sg g cdv bg a (X.env.qual ++ "<lambda>") (k + 1) TT)
    (TB : TabB X.base X.mg c P) (own : X.env.code = .ref c) (inT : (P, X.env.qual ++ "<lambda>") ∈ T) (one : ∀ p ∈ T, p.1 = P → p.2 = X.env.qual ++ "<lambda>") (room : Room (k + 2) X.A) (L : LamS X.env.scope scope) (nodef : defaultsOf params X.env = ([], []))
    (nobind : ∀ (q : Str) (cl : List (Str × Addr)) (pm cv ctv : Value), bindArgs (PySem.W.kla_fn "<lambda>" q params body scope cl pm cv ctv) ⟨[], []⟩ = pure [])
    (inside : ∀ (A : Around) (outer : List Env) (s : Shared) (H : Hp) (E : XK) (f c' : Addr), A.guards = some [] → Room k (A.deeper (lamEnv X scope s.heap.objs.size f c')) → PE (lamCx X A outer s H E scope f c') body (t E))
    (nd1 : (x == ("__debug__" : Str)) = false := by decide) (nd2 : (a == ("__debug__" : Str)) = false := by decide) (nc : (a == ("__classdict__" : Str)) = false := by decide) :
    PE X (.Call (.Name x p) [.Lambda params body scope lpos] [] pos) (fun σ H Q => Tabs T H ∧ ∀ H1, ExtN H H1 → Tabs T H1 → TT (fun E H' Q' => t E σ H' Q') H1 Q) := by
  constructor
  rintro pins s0 σ H W J ⟨tabs, w⟩
  refine wpAny_Call_Name_kw (ld_glob J gl mod (PySem.W.callWith_K (h₀ := X.base) J.ok.mod.kin keep ?_ (by rfl) (by rfl)) nd1)
  show wpAny _ _ (spliced [(false, eval (.Lambda params body scope lpos) X.env)]) _ _ s0
  refine Calls.spliced_cons (lam_make2 J TB own inT one tabs nodef (L.has J.ok) fun f c' pm' ctv H1 s1 J1 grown tabs1 hf hfn hfr hco => Calls.spliced_nil ⟨J1.kIn, ?_⟩)
  have run : codeAny (model X.prog X.w) X.A (.call (.ref g) ⟨[.ref f], []⟩) (CR C8.CX0 X.stack X.prog X.w H1 s1 W C8.E0) s1 := by
    refine run_ofS (N := Ng) (ps := [a]) (us := [.ref f]) (vs := [.ref f]) lk code Sg room J1.env0 (binds s1 [.ref f] J1.kIn rfl) (show Vals [V.ref f] [Value.ref f] from .cons rfl .nil) rfl fun room2 => ?_
    obtain ⟨ts, hts, hq⟩ := gives f c' s1 H1 W (fun E H' Q' => t E σ H' Q') (fun V0 pn xe p1 p2 tk => pe_actG (i := 0) quiet J1 L hf hfn hfr (nobind _ _ _ _ _) tk room2 (fun A outer s H E q r => inside A outer s H E f c' q r) first seen nd2 nc) room2 hco (w H1 grown tabs1)
    exact ⟨ts, hts.nox, hq⟩
  have d := fun r s2 z => ended (X := X) (CX := C8.CX0) (E := C8.E0) (R := EP X pins σ W) (fun _ _ _ _ _ _ _ z => (show False from z).elim) J1 (fun _ _ y => y) r s2 z
  refine wpAny_call (codeAny_mono run fun r s2 z => ?_)
  have y := d r s2 z
  cases r with
  | error er => exact y
  | ok fl =>
    cases fl with
    | ret u => exact y
    | _ => exact y.elim
end L2

/-! x(lambda: body, y): the lambda is called by a def with two parameters; no repr is under way. -/
namespace L2
open PySem PySem.Spec PyProof.Rows LamX
/-- a name of the frame is read, and the state stays -/
theorem slot_read {X : Cx} {pins : List (Addr × Obj)} {σ : L2.St} {H : Hp} {s0 : Shared} {i : Nat} {y : Str} {pos : Pos} {v : V} (J : Inv X pins σ H s0) (nth : X.N[i]? = some y) (vis : Vis X.env.scope y) (at_ : σ[i]? = some (some v)) (nd : (y == ("__debug__" : Str)) = false) (nc : (y == ("__classdict__" : Str)) = false) :
    ∃ u, RelV v u ∧ ∀ (W E : Value → Shared → Prop), W u s0 → wpAny (model X.prog X.w) X.A (eval (.Name y pos) X.env) W E s0 := by
  obtain ⟨m, ns, slots⟩ := J.loc
  obtain ⟨u, rel, look⟩ := slots i y v nth at_ vis
  refine ⟨u, rel, fun W E w => wpAny_Name ?_ nd⟩
  rcases look with ⟨kind, here⟩ | ⟨kind | kind, c, has, cell⟩
  · exact wpAny_loadName_local J.ok.kind kind ns here w
  · exact wpAny_loadName_cell J.ok.kind kind has cell w
  · exact wpAny_loadName_free J.ok.kind kind has cell w nc
/-- the def that calls what it got, with a second argument -/
def GivesTo2 (X : Cx) (Ng : List Str) (x : Str) (sg : Scope) (g : Addr) (cdg : Value) (bg : List Stmt) (a : Str) (q : Str) (k : Nat) (TT : V → (XK → Hp → VK → Prop) → Hp → VK → Prop) : Prop :=
  ∀ (f c' : Addr) (s : Shared) (H : Hp) (v2 : V) (Q : VK) (tl : XK → Hp → VK → Prop),
    (∀ (W : WX) (pn : List (Addr × Obj)) (xe : Value → Shared → Prop) (p1 p2 : Pos), Takes ((cxOf C8.CX0 X.prog X.w X.K X.mg X.base Ng x sg g cdg X.A X.stack s H C8.E0).tr pn xe) W →
      PE ((cxOf C8.CX0 X.prog X.w X.K X.mg X.base Ng x sg g cdg X.A X.stack s H C8.E0).tr pn xe) (.Call (.Name a p1) [] [] p2) (fun σZ HZ Q => σZ[0]? = some (some (.ref f)) ∧ HZ c' = some (CodeO c' q) ∧ tl (WE W σZ) HZ Q)) →
    Room k (X.A.deeper (envOfC x sg s.heap.objs.size g cdg)) → H c' = some (CodeO c' q) → TT v2 tl H Q →
    ∃ t, PSs (cxOf C8.CX0 X.prog X.w X.K X.mg X.base Ng x sg g cdg X.A X.stack s H C8.E0).nox bg t ∧ t { nx := fun _ H' => Q .non H', rt := Q } (L2.start Ng [.ref f, v2]) H
theorem pe_lamcall2 {X : Cx} {T : List (Addr × Str)} {TT : V → (XK → Hp → VK → Prop) → Hp → VK → Prop} {x a b : Str} {g c P : Addr} {k : Nat} {pg : Arguments} {bg : List Stmt} {sg : Scope} {dV kV doc pm cdv ct oc : Value} {an od : Option Addr} {osl : Array (Option Value)} {Ng : List Str}
    {params : Arguments} {body : Expr} {scope : Scope} {t : XK → TE} {p lpos pos : Pos} {j : Nat} {y : Str} {py : Pos} (quiet : X.A.guards = some []) (gl : Gl X x) (mod : X.mg x = some (.ref g)) (keep : PySem.W.keepIn X.K (.ref g) = true)
    (lk : X.K.lookup g = some ⟨oc, od, .func (PySem.W.fnOf x x pg bg sg dV kV doc pm an cdv ct), osl⟩) (code : PySem.W.codeIn X.K cdv x = true) (binds : L2.Binds X.K (PySem.W.fnOf x x pg bg sg dV kV doc pm an cdv ct) [a, b] []) (Sg : FnScope Ng [a, b] sg) (first : Ng[0]? = some a) (seen : Vis sg a)
    (gives : GivesTo2 X Ng x sg g cdv bg a (X.env.qual ++ "<lambda>") (k + 1) TT)
    (TB : TabB X.base X.mg c P) (own : X.env.code = .ref c) (inT : (P, X.env.qual ++ "<lambda>") ∈ T) (one : ∀ p ∈ T, p.1 = P → p.2 = X.env.qual ++ "<lambda>") (room : Room (k + 2) X.A) (L : LamS X.env.scope scope) (nodef : defaultsOf params X.env = ([], []))
    (nobind : ∀ (q : Str) (cl : List (Str × Addr)) (pm cv ctv : Value), bindArgs (PySem.W.kla_fn "<lambda>" q params body scope cl pm cv ctv) ⟨[], []⟩ = pure [])
    (inside : ∀ (A : Around) (outer : List Env) (s : Shared) (H : Hp) (E : XK) (f c' : Addr), A.guards = some [] → Room k (A.deeper (lamEnv X scope s.heap.objs.size f c')) → PE (lamCx X A outer s H E scope f c') body (t E))
    (nth : X.N[j]? = some y) (visy : Vis X.env.scope y)
    (nd1 : (x == ("__debug__" : Str)) = false := by decide) (nd2 : (a == ("__debug__" : Str)) = false := by decide) (nc : (a == ("__classdict__" : Str)) = false := by decide) (nd3 : (y == ("__debug__" : Str)) = false := by decide) (nc3 : (y == ("__classdict__" : Str)) = false := by decide) :
    PE X (.Call (.Name x p) [.Lambda params body scope lpos, .Name y py] [] pos) (fun σ H Q => Tabs T H ∧ ∃ v2, σ[j]? = some (some v2) ∧ ∀ H1, ExtN H H1 → Tabs T H1 → TT v2 (fun E H' Q' => t E σ H' Q') H1 Q) := by
  constructor
  rintro pins s0 σ H W J ⟨tabs, v2, at2, w⟩
  refine wpAny_Call_Name_kw (ld_glob J gl mod (PySem.W.callWith_K (h₀ := X.base) J.ok.mod.kin keep ?_ (by rfl) (by rfl)) nd1)
  show wpAny _ _ (spliced ((false, eval (.Lambda params body scope lpos) X.env) :: backTo pos (starEach [.Name y py] X.env))) _ _ s0
  refine Calls.spliced_cons (lam_make2 J TB own inT one tabs nodef (L.has J.ok) fun f c' pm' ctv H1 s1 J1 grown tabs1 hf hfn hfr hco => ?_)
  show wpAny _ _ (spliced ((false, eval (.Name y py) X.env) :: backTo pos (starEach [] X.env))) _ _ s1
  obtain ⟨u2, rel2, read⟩ := slot_read (pos := py) J1 nth visy at2 nd3 nc3
  refine Calls.spliced_cons (read _ _ (Calls.spliced_nil ⟨J1.kIn, ?_⟩))
  have run : codeAny (model X.prog X.w) X.A (.call (.ref g) ⟨[.ref f, u2], []⟩) (CR C8.CX0 X.stack X.prog X.w H1 s1 W C8.E0) s1 := by
    refine run_ofS (N := Ng) (ps := [a, b]) (us := [.ref f, u2]) (vs := [.ref f, v2]) lk code Sg room J1.env0 (binds s1 [.ref f, u2] J1.kIn rfl) (show Vals [V.ref f, v2] [Value.ref f, u2] from .cons rfl (.cons rel2 .nil)) rfl fun room2 => ?_
    obtain ⟨ts, hts, hq⟩ := gives f c' s1 H1 v2 W (fun E H' Q' => t E σ H' Q') (fun V0 pn xe p1 p2 tk => pe_actG (i := 0) quiet J1 L hf hfn hfr (nobind _ _ _ _ _) tk room2 (fun A outer s H E q r => inside A outer s H E f c' q r) first seen nd2 nc) room2 hco (w H1 grown tabs1)
    exact ⟨ts, hts.nox, hq⟩
  have d := fun r s2 z => ended (X := X) (CX := C8.CX0) (E := C8.E0) (R := EP X pins σ W) (fun _ _ _ _ _ _ _ z => (show False from z).elim) J1 (fun _ _ y => y) r s2 z
  refine wpAny_call (codeAny_mono run fun r s2 z => ?_)
  have y := d r s2 z
  cases r with
  | error er => exact y
  | ok fl =>
    cases fl with
    | ret u => exact y
    | _ => exact y.elim
end L2

/-! C.m(e, ..) and C.m() of a classmethod, o.m(e, ..) that may raise: where no repr is under way. -/
namespace L2
open PySem PySem.Spec PyProof.Rows
theorem pe_cmethG {X : Cx} {CX : CXT} {n : Nat} {C p g : Addr} {mc : Value} {pr : Sp} {E : XK} {o e : Expr} {es : List Expr} {m : Str} {pos apos : Pos} {ta : TE} {t : TA} {pl : Sem Bool} (ob : PE X o ta) (rd : ClX.CRead X.K C mc) (met : ClX.CMet X.K C mc m p g) (F : FnRG X.prog X.w X.K X.mg X.base CX n g pr) (quiet : X.A.guards = some []) (room : Room n X.A) (pass : Passes CX X E) (args : PA X (e :: es) t)
    (st : starEach (e :: es) X.env = (false, eval e X.env) :: starEach es X.env := by rfl) (pn : (backTo pos (starEach es X.env)).any (·.1) = false := by rfl)
    (ht : eval (.Call (.Attribute o m apos) (e :: es) [] pos) X.env = (eval o X.env >>= fun ov => standAt apos.atName >>= fun _ => holding [ov] (getMethod ov m pl) >>= fun fb => callWith pos fb.1 fb.2 (backTo pos (starEach (e :: es) X.env)) (backToKw pos (keywordEach [] X.env))) := by rfl) :
    PE X (.Call (.Attribute o m apos) (e :: es) [] pos) (ClX.tCMeth C pr E ta t) := by
  constructor
  intro pins s0 σ H W J w
  refine PySem.W.methodCall_KW (pl := pl) (thn (ob.run pins s0 σ H _ J w) ?_) ht
  rintro _ s1 ⟨_, H1, J1, rel, rfl, w1⟩
  cases rel
  have unknown := ClX.base_none J1 (Nat.le_refl _)
  refine ClX.getmethcm_ok J1 rd met fun s2 J2 => ClX.callwith_cm J2 unknown met.fi (thn (args.run pos _ s2 σ H1 _ J2 w1) ?_) st pn
  rintro us s3 ⟨as, H2, J3, rv, w2⟩
  have run := F X.A X.stack s3 H2 (.ref C :: us) (.ref C :: as) W E quiet room J3.env0 (.cons rfl rv) w2
  refine ⟨⟨ClX.pin_at J3, J3.kIn⟩, wpAny_call (PySem.W.method_call (ClX.pin_at J3) (codeAny_mono run fun r s4 z => ?_))⟩
  have y := ended (R := EP X pins σ W) pass J3 (fun _ _ q => ClX.unpinE q) r s4 z
  cases r with
  | error er => exact y
  | ok fl =>
    cases fl with
    | ret u => exact y
    | _ => exact y.elim
/-- C.m() -/
theorem pe_cmeth0 {X : Cx} {CX : CXT} {n : Nat} {C p g : Addr} {mc : Value} {pr : Sp} {E : XK} {o : Expr} {m : Str} {pos apos : Pos} {ta : TE} {pl : Sem Bool} (ob : PE X o ta) (rd : ClX.CRead X.K C mc) (met : ClX.CMet X.K C mc m p g) (F : FnR X.prog X.w X.K X.mg X.base CX n g pr) (room : Room n X.A) (pass : Passes CX X E)
    (ht : eval (.Call (.Attribute o m apos) [] [] pos) X.env = (eval o X.env >>= fun ov => standAt apos.atName >>= fun _ => holding [ov] (getMethod ov m pl) >>= fun fb => callWith pos fb.1 fb.2 (backTo pos (starEach [] X.env)) (backToKw pos (keywordEach [] X.env))) := by rfl) :
    PE X (.Call (.Attribute o m apos) [] [] pos) (fun σ H Q => ta σ H fun x H1 => x = .ref C ∧ pr [.ref C] H1 Q E) := by
  constructor
  intro pins s0 σ H W J w
  refine PySem.W.methodCall_KW (pl := pl) (thn (ob.run pins s0 σ H _ J w) ?_) ht
  rintro _ s1 ⟨_, H1, J1, rel, rfl, w1⟩
  cases rel
  exact ClX.getmethcm_ok J1 rd met fun s2 J2 => PySem.W.callWith_M0 (K := X.K) ⟨ClX.pin_at J2, J2.kIn⟩ met.fi (ClX.run_cm F room pass J2 .nil w1)
def tMethW (C : Addr) (m : Str) (sp : Sp) (E : St → XK) (ta : TE) (t : TA) : TE := fun σ H Q => ta σ H fun x H1 => ∃ a dx fs, x = .ref a ∧ H1 a = some (.ins C dx fs) ∧ fs.lookup m = none ∧ t σ H1 fun vs H2 => sp (x :: vs) H2 Q (E σ)
/-- o.m(e, ..), where no repr is under way; what is let out goes by the slots -/
theorem pe_methW {X : Cx} {CX : CXT} {n : Nat} {C g : Addr} {m : Str} {fd : FuncData} {ps : List Str} {pr : Sp} {E : St → XK} {o e : Expr} {es : List Expr} {ta : TE} {t : TA} {apos pos : Pos} {pl : Sem Bool} (ob : PE X o ta) (c : Cls X.K C) (met : Meth X.K C m g) (F : FnG X.prog X.w X.K X.mg X.base CX n g fd ps pr) (quiet : X.A.guards = some []) (room : Room n X.A) (bn : Binds X.K fd ps []) (pass : ∀ σ, PassesAt CX X σ (E σ)) (args : PA X (e :: es) t)
    (st : starEach (e :: es) X.env = (false, eval e X.env) :: starEach es X.env := by rfl) (pn : (backTo pos (starEach es X.env)).any (·.1) = false := by rfl)
    (ht : eval (.Call (.Attribute o m apos) (e :: es) [] pos) X.env = (eval o X.env >>= fun ov => standAt apos.atName >>= fun _ => holding [ov] (getMethod ov m pl) >>= fun fb => callWith pos fb.1 fb.2 (backTo pos (starEach (e :: es) X.env)) (backToKw pos (keywordEach [] X.env))) := by rfl) :
    PE X (.Call (.Attribute o m apos) (e :: es) [] pos) (tMethW C m pr E ta t) := by
  constructor
  intro pins s0 σ H W J w
  refine PySem.W.methodCall_KW (pl := pl) (thn (ob.run pins s0 σ H _ J w) ?_) ht
  rintro _ s1 ⟨_, H1, J1, rel, a, dx, fs, rfl, ea, lk, w1⟩
  cases rel
  refine getmeth_ok J1 ea c met lk (PySem.W.callWith_K (first := [.ref a]) (h₀ := X.base) J.ok.mod.kin met.kp (thn (args.run pos pins s1 σ H1 _ J1 w1) ?_) st pn)
  rintro us s2 ⟨as, H2, J2, rv, w2⟩
  have all : Vals (.ref a :: as) (.ref a :: us) := .cons rfl rv
  have many : ((Value.ref a :: us) ++ []).length = ps.length := by
    rw [List.append_nil]
    exact all.length.symm.trans (F.len _ _ _ _ w2)
  have bound := bn s2 (.ref a :: us) J2.kIn many
  rw [List.append_nil] at bound
  have run := F.run X.A X.stack s2 H2 ⟨.ref a :: us, []⟩ (.ref a :: us) (.ref a :: as) W (E σ) quiet room J2.env0 bound all w2
  refine ⟨J2.kIn, wpAny_call (codeAny_mono run ?_)⟩
  rintro (er | fl) s3 z
  · exact pass σ pins H2 s2 er s3 J2 z
  · cases fl with
    | ret u => exact J2.after z
    | _ => exact z.elim
def tMethX (C : Addr) (m : Str) (sp : Sp) (E : XK) (ta : TE) (t : TA) : TE := fun σ H Q => ta σ H fun x H1 => ∃ a dx fs, x = .ref a ∧ H1 a = some (.ins C dx fs) ∧ fs.lookup m = none ∧ t σ H1 fun vs H2 => sp (x :: vs) H2 Q E
/-- o.m(e, ..), where no repr is under way; it may raise -/
theorem pe_methX {X : Cx} {CX : CXT} {n : Nat} {C g : Addr} {m : Str} {fd : FuncData} {ps : List Str} {pr : Sp} {E : XK} {o e : Expr} {es : List Expr} {ta : TE} {t : TA} {apos pos : Pos} {pl : Sem Bool} (ob : PE X o ta) (c : Cls X.K C) (met : Meth X.K C m g) (F : FnG X.prog X.w X.K X.mg X.base CX n g fd ps pr) (quiet : X.A.guards = some []) (room : Room n X.A) (bn : Binds X.K fd ps []) (pass : Passes CX X E) (args : PA X (e :: es) t)
    (st : starEach (e :: es) X.env = (false, eval e X.env) :: starEach es X.env := by rfl) (pn : (backTo pos (starEach es X.env)).any (·.1) = false := by rfl)
    (ht : eval (.Call (.Attribute o m apos) (e :: es) [] pos) X.env = (eval o X.env >>= fun ov => standAt apos.atName >>= fun _ => holding [ov] (getMethod ov m pl) >>= fun fb => callWith pos fb.1 fb.2 (backTo pos (starEach (e :: es) X.env)) (backToKw pos (keywordEach [] X.env))) := by rfl) :
    PE X (.Call (.Attribute o m apos) (e :: es) [] pos) (tMethX C m pr E ta t) := by
  constructor
  intro pins s0 σ H W J w
  refine PySem.W.methodCall_KW (pl := pl) (thn (ob.run pins s0 σ H _ J w) ?_) ht
  rintro _ s1 ⟨_, H1, J1, rel, a, dx, fs, rfl, ea, lk, w1⟩
  cases rel
  refine getmeth_ok J1 ea c met lk (PySem.W.callWith_K (first := [.ref a]) (h₀ := X.base) J.ok.mod.kin met.kp (thn (args.run pos pins s1 σ H1 _ J1 w1) ?_) st pn)
  rintro us s2 ⟨as, H2, J2, rv, w2⟩
  exact ⟨J2.kIn, run_fnG (vs := .ref a :: as) (us := .ref a :: us) F quiet room bn .nil pass J2 (.cons rfl rv) (by rw [List.append_nil]; exact w2)⟩
/-- o.m(e, ..), where no repr is under way; with no defaults -/
theorem pe_methG0 {X : Cx} {CX : CXT} {n : Nat} {C g : Addr} {m : Str} {fd : FuncData} {ps : List Str} {pr : Sp} {E : XK} {o e : Expr} {es : List Expr} {ta : TE} {t : TA} {apos pos : Pos} {pl : Sem Bool} (ob : PE X o ta) (c : Cls X.K C) (met : Meth X.K C m g) (F : FnG X.prog X.w X.K X.mg X.base CX n g fd ps pr) (quiet : X.A.guards = some []) (room : Room n X.A) (bn : Binds X.K fd ps []) (pass : Passes CX X E) (args : PA X (e :: es) t)
    (st : starEach (e :: es) X.env = (false, eval e X.env) :: starEach es X.env := by rfl) (pn : (backTo pos (starEach es X.env)).any (·.1) = false := by rfl)
    (ht : eval (.Call (.Attribute o m apos) (e :: es) [] pos) X.env = (eval o X.env >>= fun ov => standAt apos.atName >>= fun _ => holding [ov] (getMethod ov m pl) >>= fun fb => callWith pos fb.1 fb.2 (backTo pos (starEach (e :: es) X.env)) (backToKw pos (keywordEach [] X.env))) := by rfl) :
    PE X (.Call (.Attribute o m apos) (e :: es) [] pos) (tMeth C m pr [] E ta t) := by
  constructor
  intro pins s0 σ H W J w
  refine PySem.W.methodCall_KW (pl := pl) (thn (ob.run pins s0 σ H _ J w) ?_) ht
  rintro _ s1 ⟨_, H1, J1, rel, a, dx, fs, rfl, ea, lk, w1⟩
  cases rel
  refine getmeth_ok J1 ea c met lk (PySem.W.callWith_K (first := [.ref a]) (h₀ := X.base) J.ok.mod.kin met.kp (thn (args.run pos pins s1 σ H1 _ J1 w1) ?_) st pn)
  rintro us s2 ⟨as, H2, J2, rv, w2⟩
  exact ⟨J2.kIn, run_fnG (vs := .ref a :: as) (us := .ref a :: us) F quiet room bn .nil pass J2 (.cons rfl rv) w2⟩
end L2

/-! xs[-2::-1], xs a list of at least one item: all but the last, reversed -/
namespace L2
open PySem PySem.Spec PyProof.Rows
section
variable {X : Cx}
def tBack2 (K : PySem.W.Frag) (te : TE) : TE := fun σ H Q => te σ H fun x H1 => ∃ a xs, x = .ref a ∧ SqL K H1 a xs ∧ xs ≠ [] ∧ ∀ p, H1 p = none → Q (.ref p) (upd H1 p (.lst xs.dropLast.reverse))
theorem pick_back2 (items : Array Value) (h : 0 < items.size) : slicePick items (some (-2)) none (some (-1)) = items.toList.dropLast.reverse.toArray := by
  have where_ : sliceBounds (some (-2)) none (some (-1)) items.size = ((((items.size - 1 : Nat) : Int) - 1), -1, -1) := by
    simp only [sliceBounds]
    simp
    omega
  have front := pick_run items 0 (items.size - 1)
  rw [show (List.range (items.size - 1)).map (0 + ·) = List.range (items.size - 1) from by simp, List.drop_zero] at front
  unfold slicePick
  rw [where_]
  change ((sliceRange (((items.size - 1 : Nat) : Int) - 1) (-1) (-1)).filterMap (items[·]?)).toArray = _
  rw [PySem.W.krv_sliceRange, PySem.W.krv_range, List.filterMap_reverse, front, List.dropLast_eq_take, Array.length_toList]
theorem vals_init {xs : List V} {its : List Value} (r : Vals xs its) : Vals xs.dropLast its.dropLast := by
  simpa [List.dropLast_eq_take, r.length] using r.take (its.length - 1)
theorem pe_back2 {e : Expr} {te : TE} {k k2 : Nat} {p1 p2 p3 p4 p5 pos : Pos} (he : PE X e te) : PE X (.Subscript e (.Slice (some (.UnaryOp .USub (.Constant (.int 2) k2 p4) p5)) none (some (.UnaryOp .USub (.Constant (.int 1) k p1) p2)) p3) pos) (tBack2 X.K te) := by
  constructor
  intro pins s0 σ H W J w
  have minus : ∀ (m : Int) (k : Nat) (p q : Pos), PO X (some (.UnaryOp .USub (.Constant (.int m) k p) q)) (tPart (tUn (rU fun i => .int (-i)) (tC (.int m)))) := fun _ _ _ _ => po_some (pe_un un_neg pe_int)
  refine Subscript_ (thn (he.run pins s0 σ H _ J w) ?_)
  rintro _ s1 ⟨_, H1, J1, rel, a, xs, rfl, lst, some_, w1⟩
  cases rel
  refine wpAny_Slice (thn ((minus 2 k2 p4 p5).run pins s1 σ H1 (fun o G => o = some (-2) ∧ G = H1) J1 ⟨2, rfl, -2, rfl, rfl, rfl⟩) ?_)
  rintro low s2 ⟨_, _, J2, n2, rfl, rfl⟩
  refine thn (po_none.run pins s2 σ _ (fun o G => o = none ∧ G = _) J2 ⟨rfl, rfl⟩) ?_
  rintro up s3 ⟨_, _, J3, n3, rfl, rfl⟩
  refine thn ((minus 1 k p1 p2).run pins s3 σ _ (fun o G => o = some (-1) ∧ G = _) J3 ⟨1, rfl, -1, rfl, rfl, rfl⟩) ?_
  rintro step s4 ⟨_, _, J4, part, rfl, rfl⟩
  have J5 := J4.kept (t' := s4.toks) (h' := s4.heap.push { cls := .type "slice", data := .fields #[low, up, step] }) fun _ _ z => Heap.get?_push_of_some _ z
  obtain ⟨its, vals, isL, line⟩ := J5.list lst
  have many : its.toArray.size ≤ sizeLine := by
    rw [List.size_toArray, ← vals.length]
    exact line
  have any_ : 0 < its.toArray.size := by
    rw [List.size_toArray, ← vals.length]
    exact List.length_pos_iff.mpr some_
  change wpAny (model X.prog X.w) X.A (subscriptTail e (.Slice (some (.UnaryOp .USub (.Constant (.int 2) k2 p4) p5)) none (some (.UnaryOp .USub (.Constant (.int 1) k p1) p2)) p3) (.ref a) (.ref s4.heap.objs.size)) (EP X pins σ W) X.xe { s4 with heap := s4.heap.push { cls := .type "slice", data := .fields #[low, up, step] } }
  refine tail_any (ops := [.ref a, .ref s4.heap.objs.size]) isL.isList.typeIs (PySem.slot_list_getitem.lookup) (wpAny_getItem_list_slice isL.isList (Heap.IsSliceOf.new _ low up step) n2 n3 part (by decide) ?_ many) (by with_unfolding_all rfl)
  have short : xs.dropLast.reverse.length ≤ sizeLine := by
    rw [List.length_reverse, List.length_dropLast]
    omega
  have laid := J5.laid (t' := s4.toks) (o := .lst xs.dropLast.reverse) (fun _ _ z => Heap.get?_push_of_some _ z) (Nat.le_refl _) ⟨short, _, 0, (vals_init vals).reverse, Heap.get?_push_size _ rfl⟩
  rw [pick_back2 _ any_]
  exact ⟨.ref _, _, laid, rfl, w1 _ (J5.hok.fresh (Nat.le_refl _))⟩
end
end L2

/-! set(xs), xs a list of nums: the set that sorted() and 'in' know -/
namespace L2
open PySem PySem.Spec PyProof.Rows
/-- a set without members, as it is made -/
abbrev setE (w : World) : Obj := { cls := .type "set", dict := none, data := .set #[] 0 (.fresh 0 0 (!w.params.followText "set-order")) }
section
variable {P : Program} {w : World} {A : Around} {E : Value → Shared → Prop} {s : Shared}
/-- the members of a list are put into the set just made -/
def FilledBy (w : World) (ns : List Int) (s : Shared) (r : Value) (s2 : Shared) : Prop :=
  r = .none ∧ ∃ (h2 : Heap) (tk c : Nat), s2 = { s with heap := h2, toks := tk } ∧ SetR w h2 s.heap.objs.size (fun j => decide (j ∈ ns)) c ∧ c ≤ ns.length ∧ ∀ b o, s.heap.get? b = some o → h2.get? b = some o
theorem set_fills {l : Addr} {items : Array Value} {ns : List Int} (calm : A.handled = none) (isL : s.heap.IsList l items) (nums : IntsAre items.toList ns) (few : ns.length + 1 < scanBound) :
    codeAny (model P w) A (.call (.builtin "set.__init__") ⟨[.ref s.heap.objs.size, .ref l], []⟩) (wants (FilledBy w ns s) E) { s with heap := s.heap.push (setE w) } := by
  have many : items.size = ns.length := by
    have e := nums.length
    simpa using e
  have old : l < s.heap.objs.size := let ⟨_, e, _⟩ := isL; Heap.lt_size e
  have made : (s.heap.push (setE w)).get? s.heap.objs.size = some (setE w) := Heap.get?_push_size _ rfl
  have each : ∀ (i : Nat) (v : Value), items[i]? = some v → ∃ k t, ns[i]? = some k ∧ v = .int k t := by
    intro i v hv
    have lt : i < ns.length := many ▸ (Array.getElem?_eq_some_iff.mp hv).1
    obtain ⟨t, e⟩ := PyProof.Rows.IntsAre.int_at nums i v (by rw [Array.getElem?_toList, hv])
    exact ⟨ns[i], t, List.getElem?_eq_getElem lt, by simpa [List.getD_eq_getElem?_getD, List.getElem?_eq_getElem lt] using e⟩
  refine codeAny_call_builtin F.called_set.init.plain F.entry_set_init (check_set_init_1 ⟨_, made, rfl⟩ ?_)
  obtain ⟨⟨_, dd, _, sl⟩, at_, rfl, n, rfl⟩ := isL
  have list1 : (s.heap.push (setE w)).IsList l items := ⟨_, Heap.get?_push_of_some _ at_, rfl, n, rfl⟩
  have at1 := Heap.get?_push_of_some (setE w) at_
  have n1 := F.sub_list_set
  have n2 := F.sub_list_frozenset
  have n3 : (Value.type "list" == Value.type "dict") = false := rfl
  unfold Builtin.«set.__init__» noKeywords Builtin.Frozenset.updateFrom
  generalize it : pyIter = PI
  wp_walk
  subst it
  refine wpAny_pyIter_list list1 (wpAny_bind (wpAny_runValue ?_))
  have above : (s.heap.push (setE w)).objs.size = s.heap.objs.size + 1 := Heap.size_push ..
  have apart : l ≠ (s.heap.push (setE w)).objs.size := Nat.ne_of_lt (above ▸ Nat.lt_succ_of_lt old)
  have off : s.heap.objs.size ∉ [(s.heap.push (setE w)).objs.size, l] := by
    rw [above, List.mem_cons, List.mem_singleton]
    exact fun z => z.elim (fun e => Nat.ne_of_lt (Nat.lt_succ_self _) e) fun e => Nat.ne_of_gt old e
  refine set_update_ints ((Walks.list (by simp [calm]) _ l apart items).toS) s.heap.objs.size off ns many few each items.size 0 _ (Nat.sub_zero _) (Nat.zero_le _)
    ⟨⟨_, Heap.get?_push_size _ rfl, rfl, rfl⟩, list1.push _⟩ ⟨0, Nat.le_refl 0, setR_new_at (Heap.get?_push_of_some _ made)⟩ ?_
  rintro ⟨h2, gens, dr, tk, os⟩ c mv le R
  obtain ⟨rfl, rfl, rfl⟩ : gens = s.gens ∧ dr = s.drawn ∧ os = s.os := ⟨mv.gens, mv.drawn, mv.os⟩
  refine wpAny_pure (wpAny_pure ⟨rfl, h2, tk, c, rfl, R, many ▸ le, fun b o e => ?_⟩)
  have lt := Heap.lt_size e
  refine mv.heap b o ?_ (Heap.get?_push_of_some _ (Heap.get?_push_of_some _ e))
  rw [List.mem_cons, List.mem_singleton, above]
  exact fun z => z.elim (fun e => Nat.ne_of_lt lt e) fun e => Nat.ne_of_lt (Nat.lt_succ_of_lt lt) e
theorem call_set_ofL {l : Addr} {items : Array Value} {ns : List Int} {Q : Value → Shared → Prop} (calm : A.handled = none) (isL : s.heap.IsList l items) (nums : IntsAre items.toList ns) (few : ns.length + 1 < scanBound)
    (fin : ∀ (h2 : Heap) (tk c : Nat), SetR w h2 s.heap.objs.size (fun j => decide (j ∈ ns)) c → c ≤ ns.length → (∀ b o, s.heap.get? b = some o → h2.get? b = some o) → Q (.ref s.heap.objs.size) { s with heap := h2, toks := tk }) :
    wpAny (model P w) A (call (.type "set") [.ref l]) Q E s := by
  obtain ⟨_, _, mro⟩ := F.called_set.mro
  have facts := And.intro F.called_set.made (And.intro F.called_set.sub (And.intro F.called_set.notType (And.intro F.called_set.canCreate (F.typeCall_set_1 (.ref l)))))
  obtain ⟨f1, f2, f3, f4, f5⟩ := facts
  refine wpAny_call (codeAny_of_tree (show wpAny _ _ (callAny (.type "set") _) _ _ _ from wpAny_pure ⟨Code.quiet_builtin _ (by decide +kernel), codeAny_builtin F.entry_type_call ?_⟩))
  rw [Around.under_plain (weight_type_call_type "set" [.ref l] []) rfl]
  repeat any_goals first | wp_step | assumption
  refine codeAny_mono (code_set_led1 (.ref l) (E := E) (Q₁ := fun v s1 => v = .ref s.heap.objs.size ∧ s1 = { s with heap := s.heap.push (setE w) }) ⟨rfl, rfl⟩) ?_
  rintro (er | fl) s1 z
  · exact z
  cases fl with
  | ret v =>
    obtain ⟨rfl, rfl⟩ := z
    have made : Shared.TypeIs { s with heap := s.heap.push (setE w) } (.ref s.heap.objs.size) "set" := ⟨_, Heap.get?_push_size _ rfl, rfl⟩
    have g1 := F.called_set.init.lookup
    have g2 := F.called_set.init.bind (.ref s.heap.objs.size)
    repeat any_goals first | wp_step | assumption
    refine codeAny_mono (set_fills (P := P) (w := w) (E := E) (by simp [calm]) isL nums few) ?_
    rintro (er | fl) s2 y
    · exact y
    cases fl with
    | ret v =>
      obtain ⟨rfl, h2, tk, c, rfl, R, le, keep⟩ := y
      repeat any_goals first | wp_step | assumption
      exact fin h2 tk c R le keep
    | _ => exact y.elim
  | _ => exact z.elim
end
section
variable {X : Cx}
/-- set(xs), xs a list of nums -/
def rSetOfL (K : PySem.W.Frag) (w : World) : List V → Hp → VK → Prop := fun us H Q => ∃ (l : Addr) (ns : List Int), us = [V.ref l] ∧ SqL K H l (ns.map V.int) ∧ ns.length < 60 ∧ ∀ (a : Addr) (c : Nat), H a = none → c ≤ ns.length → Q (.ref a) (upd H a (SetO w a (fun j => decide (j ∈ ns)) c))
theorem cr_setOfL (calm : X.calm = true) : CallR X (.type "set") (rSetOfL X.K X.w) := by
  rintro pins s σ H _ us Q I r ⟨l, ns, rfl, list, few, q⟩
  rw [Vals.ref1 r]
  obtain ⟨its, vals, plain, line⟩ := I.list list
  have fresh := I.hok.fresh (Nat.le_refl s.heap.objs.size)
  refine call_set_ofL (ns := ns) (I.ok.hd calm) plain.isList (by simpa using ints_of_vals vals) (Nat.lt_of_lt_of_le (show ns.length + 1 < 62 by omega) (by decide)) fun h2 tk c R le keep => ?_
  exact ⟨.ref s.heap.objs.size, _, I.laid (t' := tk) keep (Nat.le_refl _) (setO_new R), rfl, q _ c fresh le⟩
end
end L2

/-! How values are shown, also where an exception is handled. -/
namespace L2
open PySem PySem.Spec PyProof.Rows PySem.Builtin
/-- room; the exception that is handled, if any, stands at a pin -/
structure RmX (pn : List (Addr × Obj)) (k : Nat) (A : Around) : Prop where
  dp : A.depth + 3 * k + 5 < recursionLimit
  un : A.units + 16 * k + 200 < cLine
  hot : A.handled = none ∨ ∃ p ∈ pn, L2H.Hot1 A p
theorem hot_on {pn : List (Addr × Obj)} {A A' : Around} (e : A'.handled = A.handled) (h : A.handled = none ∨ ∃ p ∈ pn, L2H.Hot1 A p) : A'.handled = none ∨ ∃ p ∈ pn, L2H.Hot1 A' p :=
  h.imp (fun z => e.trans z) fun ⟨p, m, z, r⟩ => ⟨p, m, e.trans z, r⟩
section
variable {pn : List (Addr × Obj)} {k : Nat} {A : Around}
theorem RmX.mono {j : Nat} (r : RmX pn j A) (h : k ≤ j) : RmX pn k A := ⟨by have := r.dp; omega, by have := r.un; omega, r.hot⟩
theorem RmX.units0 (r : RmX pn k A) : A.units < cLine := by
  have := r.un
  omega
theorem RmX.in1' (r : RmX pn (k + 1) A) : RmX pn k A.in1 := ⟨by have := r.dp; have := @in1_depth A; omega, by have := r.un; have e : A.in1.units = A.units + 1 := rfl; omega, hot_on rfl r.hot⟩
theorem RmX.rl (r : RmX pn (k + 1) A) (args : Args) : RmX pn k (A.under (.builtin "list.__repr__.loop" args)) := ⟨by have := r.dp; have := @rl_depth A args; omega, by have := r.un; have := @rl_units A args; omega, hot_on rl_handled r.hot⟩
theorem RmX.tr (r : RmX pn (k + 1) A) (args : Args) : RmX pn k (A.under (.builtin "tuple.__repr__" args)) := ⟨by have := r.dp; have := @tr_depth A args; omega, by have := r.un; have := units_under_tuple_repr A args; omega, hot_on tr_handled r.hot⟩
theorem RmX.tu (r : RmX pn (k + 1) A) (args : Args) : RmX pn k (A.under (.builtin "tuple.__repr__.under" args)) := ⟨by have := r.dp; have := @tu_depth A args; omega, by have := r.un; have := units_under_tuple_repr_under A args; omega, hot_on tu_handled r.hot⟩
theorem Room.rmX (r : Room k A) : RmX pn k A := ⟨r.dp, r.un, .inl r.hd⟩
end
/-- v is shown as t: within a container, by !r, by repr(..); J holds of the heap before and behind -/
structure Sx (X : Cx) (k : Nat) (J : Hp → Prop) (B : Addr → Prop) (v : V) (t : Str) : Prop where
  under : ∀ (A' : Around) (g : List Code) (pins : List (Addr × Obj)) (s : Shared) (σ : St) (H : Hp) (u : Value) (b : Nat) (E : Value → Shared → Prop) (Q : Str → Shared → Prop), A'.frames = some X.stack → A'.guards = some g → Clr g B → RmX X.pn k A' → Inv X pins σ H s → J H → RelV v u → b + t.length ≤ sizeLine →
    (∀ s' H', Inv X pins σ H' s' → J H' → Q t s') → wpAny (model X.prog X.w) A' (pyReprUnder b u) Q E s
  obj : ∀ (A' : Around) (g : List Code) (pins : List (Addr × Obj)) (s : Shared) (σ : St) (H : Hp) (u : Value) (E : Value → Shared → Prop) (Q : Value → Shared → Prop), A'.frames = some X.stack → A'.guards = some g → Clr g B → RmX X.pn k A' → Inv X pins σ H s → J H → RelV v u → t.length ≤ sizeLine →
    (∀ s' H' tk, Inv X pins σ H' s' → J H' → Q (.str t tk) s') → wpAny (model X.prog X.w) A' (pyReprObj u) Q E s
  call : ∀ (A' : Around) (g : List Code) (pins : List (Addr × Obj)) (s : Shared) (σ : St) (H : Hp) (u : Value) (E : Value → Shared → Prop) (Q : Value → Shared → Prop), A'.frames = some X.stack → A'.guards = some g → Clr g B → RmX X.pn (k + 1) A' → Inv X pins σ H s → J H → RelV v u → t.length ≤ sizeLine →
    (∀ s' H' tk, Inv X pins σ H' s' → J H' → Q (.str t tk) s') → wpAny (model X.prog X.w) A' (PySem.call (.builtin "repr") [u]) Q E s
theorem Sx.mono {X : Cx} {j k : Nat} {J : Hp → Prop} {B B' : Addr → Prop} {v : V} {t : Str} (S : Sx X j J B v t) (h : j ≤ k) (hB : ∀ b, B b → B' b) : Sx X k J B' v t :=
  ⟨fun A' g pins s σ H u b E Q hf hg hc hr => S.under A' g pins s σ H u b E Q hf hg (fun c hc' => hc c (hB c hc')) (hr.mono h), fun A' g pins s σ H u E Q hf hg hc hr => S.obj A' g pins s σ H u E Q hf hg (fun c hc' => hc c (hB c hc')) (hr.mono h),
   fun A' g pins s σ H u E Q hf hg hc hr => S.call A' g pins s σ H u E Q hf hg (fun c hc' => hc c (hB c hc')) (hr.mono (Nat.succ_le_succ h))⟩
section
variable {X : Cx} {k : Nat} {J : Hp → Prop} {B : Addr → Prop}
theorem sx_int {i : Int} (hi : i.natAbs.log2 < 1920) : Sx X k J B (.int i) (toString i) :=
  ⟨fun A' g pins s σ H u b E Q hf hg hc hr I j r hb q => by
    obtain ⟨t, rfl⟩ := r
    exact ReprIs.int t hi b hb A' E s Q fun tk => q _ H (I.tok tk) j,
  fun A' g pins s σ H u E Q hf hg hc hr I j r hb q => by
    obtain ⟨t, rfl⟩ := r
    exact pyReprObj_int hi (q _ H _ (I.tok _) j),
  fun A' g pins s σ H u E Q hf hg hc hr I j r hb q => by
    obtain ⟨t, rfl⟩ := r
    exact PySem.P.repr_of_int hi (q _ H _ (I.tok _) j)⟩
theorem sx_str {x : Str} (hx : (reprText x).length ≤ sizeLine) : Sx X k J B (.str x) (reprText x) :=
  ⟨fun A' g pins s σ H u b E Q hf hg hc hr I j r hb q => by
    obtain ⟨t, rfl⟩ := r
    exact ReprIs.str x t hx b hb A' E s Q fun tk => q _ H (I.tok tk) j,
  fun A' g pins s σ H u E Q hf hg hc hr I j r hb q => by
    obtain ⟨t, rfl⟩ := r
    exact pyReprObj_str (q _ H _ (I.tok _) j) hx,
  fun A' g pins s σ H u E Q hf hg hc hr I j r hb q => by
    obtain ⟨t, rfl⟩ := r
    exact PySem.P.repr_of_str (q _ H _ (I.tok _) j) hx⟩
theorem sx_bl {x : Bool} : Sx X k J B (.bl x) (if x then "True" else "False") :=
  ⟨fun A' g pins s σ H u b E Q hf hg hc hr I j r hb q => by
    obtain rfl : u = Value.bool x := r
    exact ReprIs.bool x b hb A' E s Q fun tk => q _ H (I.tok tk) j,
  fun A' g pins s σ H u E Q hf hg hc hr I j r hb q => by
    obtain rfl : u = Value.bool x := r
    exact pyReprObj_bool (q _ H _ (I.tok _) j),
  fun A' g pins s σ H u E Q hf hg hc hr I j r hb q => by
    obtain rfl : u = Value.bool x := r
    exact PySem.P.repr_of_bool (q _ H _ (I.tok _) j)⟩
theorem sx_non : Sx X k J B .non "None" :=
  ⟨fun A' g pins s σ H u b E Q hf hg hc hr I j r hb q => by
    obtain rfl : u = Value.none := r
    exact ReprIs.none b hb A' E s Q fun tk => q _ H (I.tok tk) j,
  fun A' g pins s σ H u E Q hf hg hc hr I j r hb q => by
    obtain rfl : u = Value.none := r
    exact pyReprObj_none (q _ H _ (I.tok _) j),
  fun A' g pins s σ H u E Q hf hg hc hr I j r hb q => by
    obtain rfl : u = Value.none := r
    exact PySem.P.repr_of_none (q _ H _ (I.tok _) j)⟩
/-- the empty list -/
theorem sx_nil {a : Addr} (hJ : ∀ H, J H → H a = some (.lst [])) : Sx X k J B (.ref a) "[]" :=
  ⟨fun A' g pins s σ H u b E Q hf hg hc hr I j r hb q => by
    obtain rfl : u = Value.ref a := r
    obtain ⟨_, its, nn, rv, ha⟩ := (show ObjOk X.prog X.w H s.heap a (.lst []) from I.hok a _ (hJ H j))
    cases rv
    exact wpAny_pyReprUnder_ref (by omega) (wpAny_pyReprObjUnder_list_empty ⟨_, ha, rfl⟩ hr.units0 ha rfl ⟨_, _, rfl, q _ H (I.tok _) j⟩),
  fun A' g pins s σ H u E Q hf hg hc hr I j r hb q => by
    obtain rfl : u = Value.ref a := r
    obtain ⟨_, its, nn, rv, ha⟩ := (show ObjOk X.prog X.w H s.heap a (.lst []) from I.hok a _ (hJ H j))
    cases rv
    exact wpAny_pyReprObj_list_empty ⟨_, ha, rfl⟩ hr.units0 ha rfl (q _ H _ (I.tok _) j),
  fun A' g pins s σ H u E Q hf hg hc hr I j r hb q => by
    obtain rfl : u = Value.ref a := r
    obtain ⟨_, its, nn, rv, ha⟩ := (show ObjOk X.prog X.w H s.heap a (.lst []) from I.hok a _ (hJ H j))
    cases rv
    exact call_repr_slot (by have := hr.un; omega) ⟨_, ha, rfl⟩ F.slot_list_repr.toG (call_list_repr_empty ⟨_, ha, rfl⟩ ha rfl ⟨_, _, rfl, q _ H _ (I.tok _) j⟩)⟩
end
section
variable {X : Cx} {k : Nat} {J : Hp → Prop} {B : Addr → Prop}
theorem rx_run {A : Around} {g : List Code} {R : Result → Shared → Prop} {a P : Addr} {xs : List V} {ts : List Str} {b : Nat} {pins : List (Addr × Obj)} {σ : St} (hfr : A.frames = some X.stack) (hg : A.guards = some g) (hcl : Clr g B) (hna : ¬ B a) (hr : RmX X.pn (k + 1) A) (hJ : ∀ H, J H → H a = some (.lst xs))
    (hlen : ts.length = xs.length) (hT : ∀ (i : Nat) (v : V), xs[i]? = some v → ∃ t, ts[i]? = some t ∧ Sx X k J B v t) (hsz : b + (listText ts).length ≤ sizeLine)
    (hP1 : X.s_0.heap.objs.size ≤ P) (hP2 : ∀ p ∈ X.pn ++ pins, p.1 ≠ P)
    (hR : ∀ s' H' u, Inv X pins σ H' s' → J H' → R (.ok (.ret (.str (listText ts) u))) s') :
    ∀ (n i : Nat) (s : Shared) (H : Hp) (acc : Array Value) (c : Nat) (done : List (Str × Tok)), xs.length - i = n → i ≤ xs.length → Inv X ((P, lobj acc c) :: pins) σ H s → J H → acc.toList = strValues done → done.map (·.1) = ts.take i →
    codeAny (model X.prog X.w) A (.builtin "list.__repr__.loop" ⟨[.ref a, rawInt i, .ref P, rawInt ((b + piled (ts.take i) : Nat) : Int)], []⟩) R s := by
  obtain ⟨hsz1, hsz2⟩ := shown_in_line hlen (Nat.le_trans (Nat.le_add_left _ _) hsz)
  have hsz3 : (listText ts).length ≤ sizeLine := by omega
  have hp3 := piled_le_listText ts
  have drop : ∀ {acc : Array Value} {c : Nat} {H : Hp} {s : Shared}, Inv X ((P, lobj acc c) :: pins) σ H s → Inv X pins σ H s := fun I => I.pins_of fun p hp => I.pin p (List.mem_append_right _ (List.mem_cons_of_mem _ hp))
  intro n
  induction n with
  | zero =>
    intro i s H acc c done hk hi I j hacc hdone
    have hin : i = xs.length := by omega
    obtain ⟨_, its, nn, rv, ha⟩ := (show ObjOk X.prog X.w H s.heap a (.lst xs) from I.hok a _ (hJ H j))
    have hlv := rv.length
    obtain ⟨hPo, hPn, hPl, hPf, _⟩ := I.pin (P, lobj acc c) (List.mem_append_right _ List.mem_cons_self)
    refine codeAny_builtin F.entry_list_repr_loop ?_
    show wpAny _ _ (Builtin.«list.__repr__.loop» ⟨[.ref a, .int i 0, .ref P, .int ((b + piled (ts.take i) : Nat) : Int) 0], []⟩) _ _ s
    rw [repr_loop_tree]
    refine wpAny_bind (wpAny_listItems ha rfl ?_)
    have over : its.toArray[(i : Int).toNat]? = none := by simp [hin, hlv]
    have whole : done.map (·.1) = ts := by simpa [hin, ← hlen] using hdone
    rw [over]
    dsimp only
    unfold reprEnd
    exact wpAny_bind (wpAny_listItems hPo rfl (by rw [hacc, repr_fold, whole]; exact wpAny_bind (wpAny_pure (wpAny_bind (wpAny_mkStr (wpAny_pure (hR _ H _ ((drop I).tok _) j)) hsz3)))))
  | succ n ih =>
    intro i s H acc c done hk hi I j hacc hdone
    have hlt : i < xs.length := by omega
    obtain ⟨_, its, nn, rv, ha⟩ := (show ObjOk X.prog X.w H s.heap a (.lst xs) from I.hok a _ (hJ H j))
    have hlv := rv.length
    obtain ⟨t, ht, hrep⟩ := hT i xs[i] (by simp [hlt])
    obtain ⟨u, hu, ru⟩ := rv.get (show xs[i]? = some xs[i] by simp [hlt])
    have grown := And.intro (piled_take_succ ht) (piled_take_le ts (i + 1))
    obtain ⟨hp1, hp2⟩ := grown
    have here : its.toArray[(i : Int).toNat]? = some u := by simpa using hu
    refine codeAny_builtin F.entry_list_repr_loop ?_
    change wpAny _ _ (Builtin.«list.__repr__.loop» ⟨[.ref a, .int i 0, .ref P, .int ((b + piled (ts.take i) : Nat) : Int) 0], []⟩) _ _ s
    rw [repr_loop_tree]
    refine wpAny_bind (wpAny_listItems ha rfl ?_)
    rw [here, Int.toNat_natCast]
    dsimp only
    refine wpAny_bind (wpAny_holding (hrep.under _ _ ((P, lobj acc c) :: pins) s σ H u (b + piled (ts.take i) + 1) _ _ (by rw [rl_frames]; exact hfr) (guards_under_guard (isGuard_list_loop _) hg) (fun c hc => (hcl c hc).cons (a := a) fun e => hna (e ▸ hc)) (hr.rl _) I j ru (by omega) fun s1 H1 I1 j1 => ?_))
    have short := hsz2 t (List.mem_of_getElem? ht)
    refine wpAny_bind (wpAny_mkStr (wpAny_bind ?_) short)
    change wpAny _ _ (updateSeq P _) _ _ _
    have hasz : acc.size ≤ sizeLine := by
      have gathered := congrArg List.length hacc
      have told := congrArg List.length hdone
      simp only [strValues, List.length_map, List.length_take, Array.length_toList] at gathered told
      omega
    obtain ⟨hPo, hPn, hPl, hPf, _⟩ := I1.pin (P, lobj acc c) (List.mem_append_right _ List.mem_cons_self)
    refine wpAny_updateSeq hPo rfl (wpAny_pure ⟨F.quiet_list_repr_loop _, ?_⟩) hasz
    rw [show ((i : Int) + 1) = ((i + 1 : Nat) : Int) by omega, show b + piled (ts.take i) + (t.length + 2) = b + piled (ts.take (i + 1)) by omega]
    obtain ⟨c', hself⟩ : ∃ c', (s1.heap.update P (Obj.mapSeq (·.push (.str t s1.toks)))).get? P = some (lobj (acc.push (.str t s1.toks)) c') := ⟨_, Heap.get?_update_self _ hPo rfl⟩
    refine ih (i + 1) _ H1 (acc.push (.str t s1.toks)) c' (done ++ [(t, s1.toks)]) (by omega) hlt ?_ j1 (by simp [hacc, strValues]) (by simp [List.take_add_one, ht, hdone])
    refine Inv.pins_of (pins := pins) ?_ fun p hp => ?_
    · refine ((drop I1).tok (s1.toks + 1)).turned (it := P) (t' := s1.toks + 1) (fun b o hb e => (Heap.get?_update_other _ _ (fun h : P = b => hb h.symm)).trans e) hPn hPl (.inr hP1) (fun x c' hc z => ?_) hP2
      obtain ⟨v, o, ho, hd⟩ := I1.cell x c' hc
      rw [z, hPo] at ho
      cases ho
      cases hd
    · rcases List.mem_cons.mp hp with rfl | hp
      · exact ⟨hself, hPn, hPl, hPf, fun v z => by cases z⟩
      · obtain ⟨q1, q2, q3, q4, q5⟩ := I1.pin p (List.mem_append_right _ (List.mem_cons_of_mem _ hp))
        exact ⟨(Heap.get?_update_other _ _ (fun h : P = p.1 => hP2 p (List.mem_append_right _ hp) h.symm)).trans q1, q2, q3, q4, q5⟩
/-- what listReprAt does -/
theorem rx_at {A : Around} {g : List Code} {R : Result → Shared → Prop} {a : Addr} {xs : List V} {ts : List Str} {b : Nat} {pins : List (Addr × Obj)} {σ : St} {s : Shared} {H : Hp} (hfr : A.frames = some X.stack) (hg : A.guards = some g) (hcl : Clr g fun c => c = a ∨ B c) (hna : ¬ B a) (hr : RmX X.pn (k + 1) A) (I : Inv X pins σ H s) (j : J H) (hJ : ∀ H, J H → H a = some (.lst xs)) (hne : xs ≠ [])
    (hlen : ts.length = xs.length) (hT : ∀ (i : Nat) (v : V), xs[i]? = some v → ∃ t, ts[i]? = some t ∧ Sx X k J B v t) (hsz : b + (listText ts).length ≤ sizeLine)
    (hR : ∀ s' H' u, Inv X pins σ H' s' → J H' → R (.ok (.ret (.str (listText ts) u))) s') :
    wpAny (model X.prog X.w) A.in1 (Builtin.listReprAt b ⟨[.ref a], []⟩) (fun fin s' => match fin with | .done f => R (.ok f) s' | .again c' => c'.quiet = true ∧ codeAny (model X.prog X.w) A c' R s') (fun e s' => R (.error e) s') s := by
  obtain ⟨_, its, nn, rv, ha⟩ := (show ObjOk X.prog X.w H s.heap a (.lst xs) from I.hok a _ (hJ H j))
  cases its with
  | nil =>
    cases rv
    exact absurd rfl hne
  | cons x l =>
    have hca : Clear g a := hcl a (.inl rfl)
    refine wpAny_list_repr_head (A := A.in1) (g := g) hg (fun v rest kw hm => listSameRef_of_ne (hca _ _ _ _ hm)) ha rfl ?_
    refine wpAny_bind (m := newList []) (wpAny_newObj_type ?_)
    refine wpAny_pure ⟨F.quiet_list_repr_loop _, ?_⟩
    have kk : ∀ b o, s.heap.get? b = some o → (s.heap.push (lobj #[] 0)).get? b = some o := fun b o e => Heap.get?_push_of_some _ e
    have I1 : Inv X pins σ H { s with heap := s.heap.push (lobj #[] 0), toks := s.toks } := I.kept (t' := s.toks) kk
    have hget : (s.heap.push (lobj #[] 0)).get? s.heap.objs.size = some (lobj #[] 0) := Heap.get?_push_size _ rfl
    have nP : ∀ p ∈ X.pn ++ pins, p.1 ≠ s.heap.objs.size := fun p hp => Nat.ne_of_lt (Heap.lt_size (I.pin p hp).1)
    have I2 : Inv X ((s.heap.objs.size, lobj #[] 0) :: pins) σ H { s with heap := s.heap.push (lobj #[] 0), toks := s.toks } := I1.pins_of fun p hp => by
      rcases List.mem_cons.mp hp with rfl | hp
      · exact ⟨hget, I.hok.fresh (Nat.le_refl _), Nat.ne_of_gt I.lt, I.nofs (Nat.le_refl _), fun v z => by cases z⟩
      · exact I1.pin p (List.mem_append_right _ hp)
    exact rx_run (A := A) (R := R) (b := b) (σ := σ) (pins := pins) hfr hg (fun c hc => hcl c (.inr hc)) hna hr hJ hlen hT hsz I.sz nP hR xs.length 0 _ H #[] 0 [] (by omega) (Nat.zero_le _) I2 j rfl rfl
theorem rx_call {A : Around} {g : List Code} {E : Value → Shared → Prop} {Q : Value → Shared → Prop} {a : Addr} {xs : List V} {ts : List Str} {pins : List (Addr × Obj)} {σ : St} {s : Shared} {H : Hp} (hfr : A.frames = some X.stack) (hg : A.guards = some g) (hcl : Clr g fun c => c = a ∨ B c) (hna : ¬ B a) (hr : RmX X.pn (k + 1) A) (I : Inv X pins σ H s) (j : J H) (hJ : ∀ H, J H → H a = some (.lst xs)) (hne : xs ≠ [])
    (hlen : ts.length = xs.length) (hT : ∀ (i : Nat) (v : V), xs[i]? = some v → ∃ t, ts[i]? = some t ∧ Sx X k J B v t) (hsz : (listText ts).length ≤ sizeLine)
    (hR : ∀ s' H' u, Inv X pins σ H' s' → J H' → Q (.str (listText ts) u) s') : wpAny (model X.prog X.w) A (call (.builtin "list.__repr__") [.ref a]) Q E s := by
  obtain ⟨_, its, nn, rv, ha⟩ := (show ObjOk X.prog X.w H s.heap a (.lst xs) from I.hok a _ (hJ H j))
  exact wpAny_call (codeAny_call_builtin F.slot_list_repr.plain F.entry_list_repr (F.slot_list_repr.check _ _ _ _ _ _ _ _ ⟨_, ha, rfl⟩ (F.args_list_repr_1 _)
    (rx_at (R := callEnd Q E) (b := 0) hfr hg hcl hna hr I j hJ hne hlen hT (by omega) hR)))
/-- a list -/
theorem sx_list {a : Addr} {xs : List V} {ts : List Str} (hJ : ∀ H, J H → H a = some (.lst xs)) (hne : xs ≠ []) (hna : ¬ B a) (hlen : ts.length = xs.length) (hT : ∀ (i : Nat) (v : V), xs[i]? = some v → ∃ t, ts[i]? = some t ∧ Sx X k J B v t) :
    Sx X (k + 1) J (fun c => c = a ∨ B c) (.ref a) (listText ts) :=
  ⟨fun A' g pins s σ H u b E Q hf hg hc hr I j r hb q => by
    obtain rfl : u = Value.ref a := r
    obtain ⟨_, its, nn, rv, ha⟩ := (show ObjOk X.prog X.w H s.heap a (.lst xs) from I.hok a _ (hJ H j))
    refine wpAny_pyReprUnder_ref (by omega) (wpAny_pyReprObjUnder_twin (twin := "list.__repr__.under") ⟨_, ha, rfl⟩ F.slot_list_repr.toG rfl hr.units0 ?_)
    exact call_twin_plain F.plain_list_repr_under F.entry_list_repr_under F.check_list_repr_under ⟨_, ha, rfl⟩ F.slot_list_repr.toG (F.args_list_repr_1 _)
      (rx_at (R := callEnd _ E) (b := b) hf hg hc hna hr I j hJ hne hlen hT hb fun s' H' u I' j' => ⟨⟨_, _, rfl⟩, _, _, rfl, q s' H' I' j'⟩),
  fun A' g pins s σ H u E Q hf hg hc hr I j r hb q => by
    obtain rfl : u = Value.ref a := r
    obtain ⟨_, its, nn, rv, ha⟩ := (show ObjOk X.prog X.w H s.heap a (.lst xs) from I.hok a _ (hJ H j))
    have hTy : s.TypeIs (.ref a) "list" := ⟨_, ha, rfl⟩
    unfold pyReprObj
    refine wpAny_bind (wpAny_cRoomFor hr.units0 ?_)
    refine wpAny_bind (wpAny_specialOf (name := Str.ofString "__repr__") hTy F.slot_list_repr.lookup ?_)
    refine wpAny_bind (m := callSpecialIfBound? (.ref a) (Str.ofString "__repr__")) (wpAny_callSpecialIfBound?_slot (name := Str.ofString "__repr__") hTy F.slot_list_repr ?_)
    refine rx_call hf hg hc hna hr I j hJ hne hlen hT hb fun s' H' u I' j' => ?_
    exact wpAny_bind (wpAny_isInstance (T := "str") (b := true) rfl isSubtype_str_str (wpAny_pure (q s' H' u I' j'))),
  fun A' g pins s σ H u E Q hf hg hc hr I j r hb q => by
    obtain rfl : u = Value.ref a := r
    obtain ⟨_, its, nn, rv, ha⟩ := (show ObjOk X.prog X.w H s.heap a (.lst xs) from I.hok a _ (hJ H j))
    refine call_repr_slot (by have := hr.un; omega) ⟨_, ha, rfl⟩ F.slot_list_repr.toG ?_
    exact rx_call (A := A'.in1) hf hg hc hna hr.in1' I j hJ hne hlen hT hb fun s' H' u I' j' => ⟨_, _, rfl, q s' H' u I' j'⟩⟩
end
inductive SxAll (X : Cx) (k : Nat) (J : Hp → Prop) (B : Addr → Prop) : List V → List Str → Prop
  | nil : SxAll X k J B [] []
  | cons {v : V} {t : Str} {vs : List V} {ts : List Str} : Sx X k J B v t → SxAll X k J B vs ts → SxAll X k J B (v :: vs) (t :: ts)
theorem SxAll.length {X : Cx} {k : Nat} {J : Hp → Prop} {B : Addr → Prop} : ∀ {vs : List V} {ts : List Str}, SxAll X k J B vs ts → ts.length = vs.length
  | _, _, .nil => rfl
  | _, _, .cons _ h => by simp [h.length]
theorem SxAll.at_ {X : Cx} {k : Nat} {J : Hp → Prop} {B : Addr → Prop} : ∀ {vs : List V} {ts : List Str}, SxAll X k J B vs ts → ∀ (i : Nat) (v : V), vs[i]? = some v → ∃ t, ts[i]? = some t ∧ Sx X k J B v t
  | _, _, .nil, i, v, h => by simp at h
  | _, _, .cons h r, 0, v, e => by
    obtain rfl := Option.some.inj e
    exact ⟨_, rfl, h⟩
  | _, _, .cons h r, i + 1, v, e => r.at_ i v (by simpa using e)
theorem SxAll.mono {X : Cx} {j k : Nat} {J : Hp → Prop} {B B' : Addr → Prop} (h : j ≤ k) (hB : ∀ b, B b → B' b) : ∀ {vs : List V} {ts : List Str}, SxAll X j J B vs ts → SxAll X k J B' vs ts
  | _, _, .nil => .nil
  | _, _, .cons a r => .cons (a.mono h hB) (r.mono h hB)
section
variable {X : Cx} {k : Nat} {J : Hp → Prop} {B : Addr → Prop}
theorem ty_fold {A : Around} {g : List Code} {E : Value → Shared → Prop} {pins : List (Addr × Obj)} {σ : St} (hfr : A.frames = some X.stack) (hg : A.guards = some g) (hcl : Clr g B) (hr : RmX X.pn k A) :
    ∀ (vs : List V) (us : List Value) (ts : List Str) (acc : Array Str) (n : Nat) (s : Shared) (H : Hp) (Q : (Array Str × Nat) → Shared → Prop), Vals vs us → SxAll X k J B vs ts → n + piled ts ≤ sizeLine → Inv X pins σ H s → J H →
    (∀ s' H', Inv X pins σ H' s' → J H' → Q ⟨acc ++ ts.toArray, n + piled ts⟩ s') → wpAny (model X.prog X.w) A (forIn us (⟨acc, n⟩ : (Array Str × Nat)) tupBody) Q E s := by
  intro vs
  induction vs with
  | nil =>
    intro us ts acc n s H Q rv hT _ I j h
    cases rv
    cases hT
    have h0 := h s H I j
    simp only [List.forIn_nil]
    exact wpAny_pure (by simpa [piled] using h0)
  | cons x l ih =>
    intro us ts acc n s H Q rv hT hn I j h
    cases rv with
    | cons r rr =>
      cases hT with
      | cons hx hl =>
        rename_i t ts'
        rw [piled_cons] at hn
        rw [List.forIn_cons]
        refine wpAny_bind (wpAny_bind (hx.under _ _ pins s σ H _ (n + 1) _ _ hfr hg hcl hr I j r (by omega) fun s1 H1 I1 j1 => wpAny_pure ?_))
        refine ih _ ts' (acc.push t) (n + (t.length + 2)) _ H1 Q rr hl (by omega) I1 j1 fun s2 H2 I2 j2 => ?_
        have h1 := h s2 H2 I2 j2
        have e : n + piled (t :: ts') = n + (t.length + 2) + piled ts' := by rw [piled_cons]; omega
        rw [e] at h1
        simpa using h1
theorem ty_at {A : Around} {g : List Code} {R : Result → Shared → Prop} {a : Addr} {xs : List V} {ts : List Str} {b : Nat} {pins : List (Addr × Obj)} {σ : St} {s : Shared} {H : Hp} {id : String} {rest : List Value}
    (hcg : (Code.builtin id ⟨.ref a :: rest, []⟩).isGuard = true) (hru : RmX X.pn k (A.under (.builtin id ⟨.ref a :: rest, []⟩))) (hfu : (A.under (.builtin id ⟨.ref a :: rest, []⟩)).frames = some X.stack) (hg : A.guards = some g) (hcl : Clr g fun c => c = a ∨ B c) (hna : ¬ B a) (I : Inv X pins σ H s) (j : J H) (hJ : ∀ H, J H → H a = some (.tup xs))
    (hT : SxAll X k J B xs ts) (hsz : b + (tupleText ts).length ≤ sizeLine) (hR : ∀ s' H' u, Inv X pins σ H' s' → J H' → R (.ok (.ret (.str (tupleText ts) u))) s') :
    wpOwn (model X.prog X.w) A (.builtin id ⟨.ref a :: rest, []⟩) (Builtin.tupleReprAt b ⟨[.ref a], []⟩) (fun fin s' => match fin with | .done f => R (.ok f) s' | .again c' => c'.quiet = true ∧ codeAny (model X.prog X.w) A c' R s') (fun e s' => R (.error e) s') s := by
  obtain ⟨_, its, rv, ob, ha, hc, hd⟩ := (show ObjOk X.prog X.w H s.heap a (.tup xs) from I.hok a _ (hJ H j))
  obtain ⟨n, hd⟩ := hd
  have hca : Clear g a := hcl a (.inl rfl)
  have hlen : ts.length = its.toArray.size := by rw [hT.length, rv.length]; simp
  have hp := piled_le_tupleText ts
  have hsz0 := Nat.le_trans (Nat.le_add_left (tupleText ts).length b) hsz
  rw [tuple_repr_tree, tupleReprUnderWay_eq]
  refine wpOwn_bind (wpOwn_stackTailAny hg (tupGuardF_off _) (tupGuardF_pos _) ?_)
  have away : (g.any fun c => tupGuardF (.ref a) (c, default)) = false := List.any_eq_false.mpr fun c hcm => by simp [tupGuardF_of_clear hca c hcm]
  rw [away]
  refine wpOwn_of_wpAny ?_
  show wpAny _ _ (tupleReprRest b (.ref a)) _ _ s
  unfold tupleReprRest Builtin.Tuple.tupleItemsOf
  refine wpAny_bind (wpAny_bind (wpAny_seqItems ha hd (wpAny_pure ?_)))
  rw [← Array.forIn_toList]
  refine wpAny_bind (ty_fold (pins := pins) (σ := σ) hfu (guards_under_guard hcg hg) (fun c hc => (hcl c (.inr hc)).cons (a := a) fun e => hna (e ▸ hc)) hru xs _ ts _ _ _ H _ rv hT (by omega) I j fun s1 H1 I1 j1 => ?_)
  refine wpAny_bind (wpAny_mkStr (wpAny_pure ?_) (by simpa [tupleText, hlen] using hsz0))
  have h1 := hR { s1 with toks := s1.toks + 1 } H1 s1.toks (I1.tok _) j1
  simpa [tupleText, hlen] using h1
end
section
variable {X : Cx} {k : Nat} {J : Hp → Prop} {B : Addr → Prop}
/-- a tuple -/
theorem sx_tup {a : Addr} {xs : List V} {ts : List Str} (hJ : ∀ H, J H → H a = some (.tup xs)) (hna : ¬ B a) (hT : SxAll X k J B xs ts) : Sx X (k + 1) J (fun c => c = a ∨ B c) (.ref a) (tupleText ts) :=
  ⟨fun A' g pins s σ H u b E Q hf hg hc hr I j r hb q => by
    obtain rfl : u = Value.ref a := r
    obtain ⟨_, its, rv, ob, ha, hcl, hd⟩ := (show ObjOk X.prog X.w H s.heap a (.tup xs) from I.hok a _ (hJ H j))
    refine wpAny_pyReprUnder_ref (by omega) (wpAny_pyReprObjUnder_twin (twin := "tuple.__repr__.under") ⟨_, ha, hcl⟩ F.slot_tuple_repr rfl hr.units0 ?_)
    exact call_twin_own (F.quiet_tuple_repr_under _) F.entry_tuple_repr_under F.check_tuple_repr_under ⟨_, ha, hcl⟩ F.slot_tuple_repr (F.args_tuple_repr_1 _)
      (ty_at (R := callEnd _ E) (b := b) (isGuard_tuple_repr_under _) (hr.tu _) (by rw [tu_frames]; exact hf) hg hc hna I j hJ hT hb fun s' H' u I' j' => ⟨⟨_, _, rfl⟩, _, _, rfl, q s' H' I' j'⟩),
  fun A' g pins s σ H u E Q hf hg hc hr I j r hb q => by
    obtain rfl : u = Value.ref a := r
    obtain ⟨_, its, rv, ob, ha, hcl, hd⟩ := (show ObjOk X.prog X.w H s.heap a (.tup xs) from I.hok a _ (hJ H j))
    have hTy : s.TypeIs (.ref a) "tuple" := ⟨_, ha, hcl⟩
    unfold pyReprObj
    refine wpAny_bind (wpAny_cRoomFor hr.units0 ?_)
    refine wpAny_bind (wpAny_specialOf (name := Str.ofString "__repr__") hTy F.slot_tuple_repr.lookup ?_)
    refine wpAny_bind (m := callSpecialIfBound? (.ref a) (Str.ofString "__repr__")) (wpAny_callSpecialIfBound?_slotG (name := Str.ofString "__repr__") hTy F.slot_tuple_repr ?_)
    refine wpAny_call (codeAny_call_builtin_own (Code.quiet_builtin _ (by decide +kernel)) F.entry_tuple_repr (F.slot_tuple_repr.check _ _ _ _ _ _ _ _ hTy (F.args_tuple_repr_1 _)
      (ty_at (R := callEnd _ E) (b := 0) (isGuard_tuple_repr _) (hr.tr _) (by rw [tr_frames]; exact hf) hg hc hna I j hJ hT (by omega) fun s' H' u I' j' => ?_)))
    exact wpAny_bind (wpAny_isInstance (T := "str") (b := true) rfl isSubtype_str_str (wpAny_pure (q s' H' u I' j'))),
  fun A' g pins s σ H u E Q hf hg hc hr I j r hb q => by
    obtain rfl : u = Value.ref a := r
    obtain ⟨_, its, rv, ob, ha, hcl, hd⟩ := (show ObjOk X.prog X.w H s.heap a (.tup xs) from I.hok a _ (hJ H j))
    have hTy : s.TypeIs (.ref a) "tuple" := ⟨_, ha, hcl⟩
    refine call_repr_slot (by have := hr.un; omega) hTy F.slot_tuple_repr ?_
    exact wpAny_call (codeAny_call_builtin_own (Code.quiet_builtin _ (by decide +kernel)) F.entry_tuple_repr (F.slot_tuple_repr.check _ _ _ _ _ _ _ _ hTy (F.args_tuple_repr_1 _)
      (ty_at (A := A'.in1) (R := callEnd _ E) (b := 0) (isGuard_tuple_repr _) (hr.in1'.tr _) (by rw [tr_frames]; exact hf) hg hc hna I j hJ hT (by omega) fun s' H' u I' j' => ⟨_, _, rfl, q s' H' u I' j'⟩)))⟩
/-- the empty dict -/
theorem sx_d0 {a : Addr} (hJ : ∀ H, J H → H a = some (.dK [])) (hB : B a) : Sx X (k + 1) J B (.ref a) (dictText []) :=
  ⟨fun A' g pins s σ H u b E Q hf hg hc hr I j r hb q => by
    obtain rfl : u = Value.ref a := r
    obtain ⟨_, hS, vs, rv, ob, es, ep, ha, hx, hd, hk, hp, hnd⟩ := (show ObjOk X.prog X.w H s.heap a (.dK []) from I.hok a _ (hJ H j))
    cases rv
    have he : es.toList = [] := by cases hes : es.toList with | nil => rfl | cons a b => rw [hes] at hp; cases hp
    refine (ReprK.dict (as := []) (h₀ := s.heap) (d := 0) ha hx.1 hd hS (by simp) (by rw [he]; exact .nil)) b hb A' g E s Q hg (fun c hc' => hc c (by rw [List.mem_singleton.mp hc']; exact hB)) (by have := hr.un; omega) (fun _ _ e => e) fun h' tk hkp => ?_
    exact q _ H (I.kept hkp) j,
  fun A' g pins s σ H u E Q hf hg hc hr I j r hb q => by
    obtain rfl : u = Value.ref a := r
    obtain ⟨_, hS, vs, rv, ob, es, ep, ha, hx, hd, hk, hp, hnd⟩ := (show ObjOk X.prog X.w H s.heap a (.dK []) from I.hok a _ (hJ H j))
    cases rv
    have he : es.toList = [] := by cases hes : es.toList with | nil => rfl | cons a b => rw [hes] at hp; cases hp
    refine wpAny_pyReprObj_dictK (as := []) (h₀ := s.heap) (d := 0) ha hx.1 hd hS (by simp) (by rw [he]; exact .nil) hg (fun c hc' => hc c (by rw [List.mem_singleton.mp hc']; exact hB)) (by have := hr.un; omega) (fun _ _ e => e) (fun h' u tk hkp => ?_) hb
    exact q _ H _ (I.kept hkp) j,
  fun A' g pins s σ H u E Q hf hg hc hr I j r hb q => by
    obtain rfl : u = Value.ref a := r
    obtain ⟨_, hS, vs, rv, ob, es, ep, ha, hx, hd, hk, hp, hnd⟩ := (show ObjOk X.prog X.w H s.heap a (.dK []) from I.hok a _ (hJ H j))
    cases rv
    have he : es.toList = [] := by cases hes : es.toList with | nil => rfl | cons a b => rw [hes] at hp; cases hp
    refine call_repr_slot (by have := hr.un; omega) ⟨_, ha, hx.1⟩ F.slot_dict_repr ?_
    refine call_dict_reprK (A := A'.in1) (as := []) (h₀ := s.heap) (d := 0) ha hx.1 hd hS (by simp) (by rw [he]; exact .nil) hg (fun c hc' => hc c (by rw [List.mem_singleton.mp hc']; exact hB)) (by have := hr.un; show A'.units + 1 + 1 < cLine; omega) (fun _ _ e => e) (fun h' u tk hkp => ?_) hb
    exact ⟨_, _, rfl, q _ H _ (I.kept hkp) j⟩⟩
/-- repr(v) -/
theorem call_sx (gd : X.A.guards = some []) (hr : RmX X.pn (k + 1) X.A) : CallR X (.builtin "repr") (fun us H Q => ∃ (v : V) (t : Str) (J : Hp → Prop) (B : Addr → Prop), us = [v] ∧ J H ∧ Sx X k J B v t ∧ t.length ≤ sizeLine ∧ ∀ H', J H' → Q (.str t) H') := by
  intro pins s σ H xs us Q I r h
  obtain ⟨v, t, J, B, rfl, j, S, hz, q⟩ := h
  obtain ⟨u, rfl, ru⟩ := vals1 r
  exact S.call X.A [] pins s σ H u _ _ I.ok.frames gd (Clr.nil _) hr I j ru hz fun s' H' tk I' j' => ⟨.str t, H', I', ⟨tk, rfl⟩, q H' j'⟩
/-- {e!r} -/
def tFmtX (X : Cx) (k : Nat) (te : TE) : TE := fun σ H Q => te σ H fun v H1 => ∃ (t : Str) (J : Hp → Prop) (B : Addr → Prop), J H1 ∧ Sx X k J B v t ∧ t.length ≤ sizeLine ∧ ∀ H', J H' → Q (.str t) H'
theorem pe_fmtX {e : Expr} {te : TE} {pos : Pos} (gd : X.A.guards = some []) (hr : RmX X.pn k X.A) (he : PE X e te) : PE X (.FormattedValue e 114 none pos) (tFmtX X k te) := by
  refine ⟨fun pins s σ H Q I h => ?_⟩
  refine wpAny_FormattedValue_repr (thn (he.run pins s σ H _ I h) fun u s1 ⟨v, H1, I1, rv, t, J, B, j, S, hz, q⟩ => ?_)
  refine S.obj X.A [] pins s1 σ H1 u _ _ I.ok.frames gd (Clr.nil _) hr I1 j rv hz fun s' H' tk I' j' => ?_
  exact wpAny_formatField_str ⟨.str t, H', I'.tok _, ⟨_, rfl⟩, q H' j'⟩ ⟨.str t, H', I'.tok _, ⟨_, rfl⟩, q H' j'⟩ hz
end
end L2

/-! [elt for x in t], t a tuple, where an exception is handled -/
namespace L2
open PySem PySem.Spec PyProof.Rows HotX
section
variable {prog : Program} {w : World} {A : Around} {E : Value → Shared → Prop} {s : Shared}
/-- the end of a walk over a tuple -/
theorem next_tuple_hot {it t x1 : Addr} {i : Nat} {items : Array Value} {Q : Option Value → Shared → Prop} (hot : HotAt A x1 s.heap) (walk : s.heap.IsTupleIter it t i) (tup : s.heap.IsTuple t items) (over : items[i]? = none) (q : ∀ h', Heap.ExtBut it s.heap h' → Q none { s with heap := h' }) :
    wpAny (model prog w) A (pyNext (.ref it)) Q E s := by
  have type_ := walk.typeIs
  obtain ⟨ob, at_, _, held⟩ := walk
  obtain ⟨obT, atT, _, _, heldT⟩ := tup
  obtain ⟨handled, ob1, vs1, at1, held1, none1⟩ := hot
  have apart : it ≠ x1 := by
    rintro rfl
    obtain rfl := Option.some.inj (at_.symm.trans at1)
    obtain rfl := Data.fields.inj (held.symm.trans held1)
    exact nomatch none1
  unfold pyNext
  refine wpAny_bind (wpAny_attempt ?_)
  refine wpAny_callSpecial?_slot (name := Str.ofString "__next__") type_ F.slot_tuple_iterator_next (wpAny_call_entry F.slot_tuple_iterator_next type_ F.entry_tuple_iterator_next ?_ (F.args_tuple_iterator_next_1 _))
  change wpAny _ _ (field (.ref it) 0 >>= _) _ _ s
  refine wpAny_bind (wpAny_field at_ held (x := .ref t) rfl ?_)
  change wpAny _ _ (if (Value.ref t == Value.none) = true then _ else _) _ _ s
  have some_ : ¬ ((Value.ref t == Value.none) = true) := Bool.false_ne_true
  rw [if_neg some_]
  change wpAny _ _ (field (.ref it) 1 >>= _) _ _ s
  refine wpAny_bind (wpAny_field at_ held (x := .int i 0) rfl ?_)
  change wpAny _ _ (seqItems? (.ref t) >>= _) _ _ s
  refine wpAny_bind (wpAny_seqItems atT heldT ?_)
  simp only [over, Int.toNat_natCast]
  refine wpAny_bind (wpAny_rule (wpAny_bind (wpAny_setField at_ held (by simp) ?_)))
  change wpAny _ _ (newExc (.type "StopIteration") [] >>= _) _ _ _
  refine wpAny_bind ?_
  simp only [newExc, newTuple]
  refine wpAny_bind (wpAny_newObj_type (wpAny_bind (m := firstArgMember _ _) (wpAny_of_eq (a := Value.none) (by first | rfl | (simp only [firstArgMember]; rfl)) (wpAny_newObj_type ?_ (by size_fits)))) (by size_fits))
  have stays := (Heap.get?_update_other s.heap (Obj.mapFields (·.setIfInBounds 0 .none)) apart).trans at1
  have far := Heap.get?_push_of_some { cls := .type "tuple", data := .seq ([] : List Value).toArray } stays
  refine raiseNew_hot ⟨handled, ob1, vs1, Heap.get?_push_of_some _ far, held1, none1⟩ (Nat.ne_of_lt (Heap.lt_size far)) (Heap.get?_push_size _ rfl) rfl (by first | (simp; done) | (simp; omega) | (simp only [Array.size_append]; simp; omega)) ?_
  refine wpAny_bind (wpAny_isInstance (T := "StopIteration") (b := true) ⟨_, Heap.get?_update_self _ (Heap.get?_push_size _ rfl) rfl, rfl⟩ isSubtype_stop (wpAny_pure (q _ ?_)))
  intro b o nb e
  have e1 := Heap.get?_push_of_some { cls := .type "tuple", data := .seq ([] : List Value).toArray } ((Heap.get?_update_other s.heap (Obj.mapFields (·.setIfInBounds 0 .none)) (fun z => nb z.symm)).trans e)
  exact (Heap.get?_update_other _ _ (Nat.ne_of_gt (Heap.lt_size e1))).trans (Heap.get?_push_of_some _ e1)
end
section
variable {X : Cx}
/-- what [elt for x in l] asks, l a tuple: D the new list, Pv what holds ahead of a turn -/
def tLcX (K : PySem.W.Frag) (tl : TE) (g : TG) (te : TE) (vs : List Nat) : TE := fun σ H Q => tl σ H fun y H1 => ∃ (a : Addr) (xs : List V), y = .ref a ∧ SqT K H1 a xs ∧ ∀ D, H1 D = none → ∃ Pv : Nat → Hp → Prop, Pv 0 (upd H1 D (.lst [])) ∧ (∀ i G, Pv i G → SqT K G a xs) ∧
  (∀ i x G, xs[i]? = some x → Pv i G → g x (wipe σ vs) G fun σ2 G2 => wipe σ2 vs = wipe σ vs ∧ te σ2 G2 fun z G3 => ∃ acc, G3 D = some (.lst acc) ∧ acc.length < sizeLine ∧ Pv (i + 1) (upd G3 D (.lst (acc ++ [z])))) ∧ ∀ G, Pv xs.length G → Q (.ref D) G
theorem pe_lcX {elt tg l : Expr} {scope : Scope} {own : List (Str × Nat)} {pos : Pos} {tl : TE} {g : TG} {te : TE} (hot : L2H.HotC X) (nodup : X.N.Nodup) (hl : PE X l tl) (ok : BlkOk X.N X.env.scope scope own)
    (hg : ∀ (s : Shared) (H : Hp) (C : Addr) (cl : List (Str × Addr)) (fp : List Addr), PG (X.blk s H scope (compEnvC scope cl C X.env) fp) tg g) (he : ∀ (s : Shared) (H : Hp) (C : Addr) (cl : List (Str × Addr)) (fp : List Addr), PE (X.blk s H scope (compEnvC scope cl C X.env) fp) elt te)
    (plain : ∀ x, foldedSetIterable l X.env x = pure x := by intro _; rfl) : PE X (.ListComp elt [⟨tg, l, [], 0⟩] scope pos) (tLcX X.K tl g te (own.map (·.2))) := by
  constructor
  intro pins s0 σ H Q I h
  have free : ∀ y ∈ scope.names, y.2 = .free → ∃ c, X.env.cells.lookup y.1 = some c := fun y hy e => (ok.free y hy e).elim (fun k => I.ok.has _ (.inl k)) fun k => I.ok.has _ (.inr k)
  rw [eval_ListComp]
  refine wpAny_comprehension_free (use := none) rfl plain (closure_ok free) ok.kind (fun y hy e => by rw [ok.uniq y hy, e]) (thn (hl.run pins s0 σ H _ I h) ?_)
  rintro _ s1 ⟨_, H1, I1, ry, a, xs, rfl, tup, wish⟩
  cases ry
  obtain ⟨its, vals, isT, line⟩ := I1.tuple tup
  obtain ⟨p, ⟨handled, held, fields, none_⟩, mem⟩ := hot
  have P1 := I1.pin p (List.mem_append_left _ mem)
  have off : p.1 ∉ frs X.stack := fun z => (List.mem_cons.mp (I1.stkSub p.1 z)).elim P1.2.2.1 P1.2.2.2.1
  have begun : wpAny (model X.prog X.w) X.A (pyIter (.ref a)) (fun v s2 => ∃ it, v = .ref it ∧ Inv X pins σ H1 s2 ∧ s2.heap.IsTupleIter it a 0 ∧ FpOk X pins H1 it ∧ s2.heap.get? p.1 = some p.2) X.xe s1 :=
    wpAny_pyIter_tuple (show s1.heap.IsTuple a its.toArray from isT) ⟨s1.heap.objs.size, rfl, I1.kept (t' := s1.toks) fun _ _ z => Heap.get?_push_of_some _ z, ⟨_, Heap.get?_push_size _ rfl, rfl, rfl⟩, I1.fpOk (Nat.le_refl _) (I1.hok.fresh (Nat.le_refl _)), Heap.get?_push_of_some _ P1.1⟩
  refine thn begun ?_
  rintro _ s2 ⟨it, rfl, I2, walk, own_, at2⟩
  refine wpAny_newObj_type (newEnv_comp ?_) (by show 0 ≤ sizeLine; decide)
  obtain ⟨D, hD⟩ : ∃ D, D = s2.heap.objs.size := ⟨_, rfl⟩
  have newD : H1 D = none := I2.hok.fresh (Nat.le_of_eq hD.symm)
  obtain ⟨Pv, start, there, turn, last⟩ := wish D newD
  obtain ⟨s3, hs3⟩ : ∃ s3 : Shared, s3 = { s2 with heap := s2.heap.push { cls := .type "list", data := .seq ([] : List Value).toArray } } := ⟨_, rfl⟩
  have keep3 : ∀ b o, s2.heap.get? b = some o → s3.heap.get? b = some o := fun b o z => by
    rw [hs3]
    exact Heap.get?_push_of_some _ z
  have I3 : Inv X pins σ (upd H1 D (.lst [])) s3 := by
    subst hs3 hD
    exact I2.laid (t' := s2.toks) (fun _ _ z => Heap.get?_push_of_some _ z) (Nat.le_refl _) ⟨Nat.zero_le _, [], 0, .nil, Heap.get?_push_size _ rfl⟩
  have walk3 : s3.heap.IsTupleIter it a 0 := walk.at fun o z => keep3 it o z
  have below : it < s2.heap.objs.size := let ⟨_, e, _⟩ := walk; Heap.lt_size e
  have below3 : it < s3.heap.objs.size := let ⟨_, e, _⟩ := walk3; Heap.lt_size e
  have apartD : it ≠ D := fun z => absurd below (by rw [z, hD]; exact Nat.lt_irrefl _)
  have own3 : FpOk X pins (upd H1 D (.lst [])) it := ⟨(upd_ne apartD).trans own_.1, own_.2⟩
  have fresh3 : ∀ b ∈ [it], FpOk X pins (upd H1 D (.lst [])) b ∧ b < s3.heap.objs.size := fun b hb => by
    rw [List.mem_singleton.mp hb]
    exact ⟨own3, below3⟩
  have I4 := block_start I3 ok nodup fresh3
  have pg := hg s3 (upd H1 D (.lst [])) s3.heap.objs.size (cellsFrom (s3.heap.objs.size + 1) scope.names (cloFrom X.env.cells scope.names [])) [it]
  have pe := he s3 (upd H1 D (.lst [])) s3.heap.objs.size (cellsFrom (s3.heap.objs.size + 1) scope.names (cloFrom X.env.cells scope.names [])) [it]
  have locals_ : (compEnvC scope (cellsFrom (s3.heap.objs.size + 1) scope.names (cloFrom X.env.cells scope.names [])) s3.heap.objs.size X.env).locals = s3.heap.objs.size := rfl
  have walk4 : (pushCells (s3.heap.push { cls := .type "dict", data := .dict #[] }) scope.names).IsTupleIter it a 0 := walk3.at fun o z => pushCells_keeps _ _ _ _ (Heap.get?_push_of_some _ z)
  have notD : p.1 ≠ D := fun z => absurd (Heap.lt_size at2) (by rw [z, hD]; exact Nat.lt_irrefl _)
  have track3 : (upd H1 D (.lst [])) p.1 = none := (upd_ne notD).trans P1.2.1
  have notIt : p.1 ≠ it := by
    rintro z
    obtain ⟨o, e, _, d⟩ := walk
    rw [← z] at e
    obtain rfl := Option.some.inj (at2.symm.trans e)
    obtain rfl := Data.fields.inj (fields.symm.trans d)
    exact nomatch none_
  have at3 := keep3 _ _ at2
  generalize hH3 : upd H1 D (.lst []) = H3 at I3 I4 pg pe start own3 fresh3 track3
  have body : codeAny (model X.prog X.w) X.A (.compStart (.ListComp elt [⟨tg, l, [], 0⟩] scope pos) 0 (.ref it) (.ref D) (compEnvC scope (cellsFrom (s3.heap.objs.size + 1) scope.names (cloFrom X.env.cells scope.names [])) s3.heap.objs.size X.env))
      (compPost (model X.prog X.w) X.A X.xe none (EP X pins σ Q) (.ref D) s3.heap.objs.size) { s3 with heap := pushCells (s3.heap.push { cls := .type "dict", data := .dict #[] }) scope.names } := by
    generalize compEnvC scope (cellsFrom (s3.heap.objs.size + 1) scope.names (cloFrom X.env.cells scope.names [])) s3.heap.objs.size X.env = ce at I4 pg pe locals_ ⊢
    obtain ⟨s4, hs4⟩ : ∃ s4 : Shared, s4 = { s3 with heap := pushCells (s3.heap.push { cls := .type "dict", data := .dict #[] }) scope.names } := ⟨_, rfl⟩
    rw [← hs4] at I4 ⊢
    have walk4 : s4.heap.IsTupleIter it a 0 := by rw [hs4]; exact walk4
    have stand : ∀ {G : Hp} {s' : Shared}, Inv (X.blk s3 H3 scope ce [it]) [] (wipe σ (own.map (·.2))) G s' → G it = none → FpOk (X.blk s3 H3 scope ce [it]) [] G it := fun {G s'} J e =>
      ⟨e, (J.ok.exf it (List.mem_singleton.mpr rfl)).1, J.ok.exfs it (List.mem_singleton.mpr rfl), .inl (List.mem_singleton.mpr rfl), fun x c z => (J.ok.exf it (List.mem_singleton.mpr rfl)).2 x c z, fun q hq => absurd (show q ∈ ([] : List (Addr × Obj)) ++ [] from hq) (by simp)⟩
    have loop : codeAny (model X.prog X.w) X.A (.compLoop (.ListComp elt [⟨tg, l, [], 0⟩] scope pos) 0 (.ref it) (.ref D) ce) (compPost (model X.prog X.w) X.A X.xe none (EP X pins σ Q) (.ref D) s3.heap.objs.size) s4 := by
      refine compLoop_any (fun n s' => ∃ i G, Inv (X.blk s3 H3 scope ce [it]) [] (wipe σ (own.map (·.2))) G s' ∧ s'.heap.IsTupleIter it a i ∧ G it = none ∧ Pv i G ∧ i ≤ xs.length ∧ n = xs.length - i) ?_ xs.length ⟨0, H3, I4, walk4, own3.1, start, Nat.zero_le _, rfl⟩
      rintro n s5 ⟨i, G5, I5, walk5, no5, pv5, le, rfl⟩
      obtain ⟨its5, vals5, isT5, _⟩ := I5.tuple (there i G5 pv5)
      obtain ⟨f0, f1, f2, f3, f4, f5⟩ := stand I5 no5
      rcases Nat.lt_or_ge i xs.length with lt | ge
      · obtain ⟨u, hu, ru⟩ := vals5.get (List.getElem?_eq_getElem lt)
        refine wpAny_pyNext_tuple_item walk5 (show s5.heap.IsTuple a its5.toArray from isT5) (x := u) (by simpa using hu) fun h6 walk6 sb => ?_
        have I6 := I5.turned (t' := s5.toks) (fun b o hb e => (sb.2 b hb).trans e) f0 f1 f3 f4 f5
        obtain ⟨o6, e6, c6, d6⟩ := id walk6
        refine go_of (s := { s5 with heap := h6 }) e6 c6 d6 (by decide) ?_
        obtain ⟨s6, hs6⟩ : ∃ s6 : Shared, s6 = { s5 with heap := h6 } := ⟨_, rfl⟩
        change wpAny (model X.prog X.w) X.A (assign tg ce u) _ _ { s5 with heap := h6 }
        have I6 : Inv (X.blk s3 H3 scope ce [it]) [] (wipe σ (own.map (·.2))) G5 { s5 with heap := h6 } := I6
        rw [← hs6] at I6 ⊢
        have e6 : s6.heap.get? it = some o6 := by rw [hs6]; exact e6
        have pinned := I6.pinned (fp := [it]) (fun b hb => by rw [List.mem_singleton.mp hb]; exact stand I6 no5) fun b hb => by
          rw [List.mem_singleton.mp hb]
          exact ⟨o6, e6, fun v z => by rw [d6] at z; cases z⟩
        refine thnF (pg.run _ s6 _ G5 _ u _ pinned ru (turn i _ G5 (List.getElem?_eq_getElem lt) pv5)) ?_
        rintro _ s7 ⟨σ7, G7, I7, same7, w7⟩
        refine wpAny_tests_nil ?_
        simp only [if_true]
        refine thnF (pe.run _ s7 σ7 G7 _ I7 w7) ?_
        rintro z s8 ⟨y8, G8, I8, r8, acc, at8, few8, pv8⟩
        refine app_ok (X := X.blk s3 H3 scope ce [it]) I8 at8 few8 r8 fun s9 I9 => ?_
        have pin9 := I9.pin (it, o6) (List.mem_append_right _ (List.mem_append_right _ (mem_pinsAt (List.mem_singleton.mpr rfl) e6)))
        have many : (wipe σ (own.map (·.2))).length = σ7.length := by rw [← same7, wipe_length]
        refine ⟨xs.length - (i + 1), by omega, i + 1, _, (I9.unpinned (pins := [])).weak many (fun j v z => ?_), ⟨o6, pin9.1, c6, d6⟩, pin9.2.1, pv8, lt, rfl⟩
        rw [← same7] at z
        exact (wipe_some z).1
      · have end_ : i = xs.length := by omega
        have hot5 : HotAt X.A p.1 s5.heap := ⟨handled, p.2, held, I5.base.keep p.1 p.2 at3 track3 off (fun z => notIt (List.mem_singleton.mp z)), fields, none_⟩
        refine next_tuple_hot hot5 walk5 (show s5.heap.IsTuple a its5.toArray from isT5) (by have := vals5.length; simp; omega) fun h6 eb => ?_
        have I6 : Inv (X.blk s3 H3 scope ce [it]) [] (wipe σ (own.map (·.2))) G5 { s5 with heap := h6 } := I5.turned (t' := s5.toks) (fun b o hb e => eb b o hb e) f0 f1 f3 f4 f5
        have I7 : Inv X pins σ G5 { s5 with heap := h6 } := I3.call' (ch := [it]) I6.os I6.base I6.hok I6.bare fun b hb => by
          rw [List.mem_singleton.mp hb]
          exact ⟨own3.2.2.2.1, own3.2.1, own3.2.2.2.2.1, own3.2.2.2.2.2⟩
        have none5 : G5 s3.heap.objs.size = none := by
          have z : G5 ce.locals = none := I6.free
          rwa [locals_] at z
        obtain ⟨m, ns, _⟩ := I6.loc
        have ns : h6.Ns ce.locals m := ns
        rw [locals_] at ns
        obtain ⟨q0, q1, q2, q3, q4, q5⟩ := I3.fpOk (Nat.le_refl _) none5
        refine ⟨m, ns, fun h7 sb => ⟨.ref D, G5, I7.turned (t' := s5.toks) (fun b o hb e => (sb.2 b hb).trans e) q0 q1 q3 q4 q5, rfl, last G5 (end_ ▸ pv5)⟩⟩
    exact codeAny_compStart_list loop (wpAny_pyIter_tupleiter walk4 loop)
  subst hs3 hD
  exact body
end
end L2

/-! An instance with a __repr__ of its own is shown, also where an exception is handled. -/
namespace L2
open PySem PySem.Spec PyProof.Rows
/-- a def of one argument, promised where nothing is handled and where something is -/
structure Both (X : Cx) (k : Nat) (g : Addr) (sp : Sp) : Prop where
  calm : FnR X.prog X.w X.K X.mg X.base CX0 k g sp
  hot : ∃ fd, Binds X.K fd ["self"] [] ∧ L2H.FnH X.prog X.w X.K X.mg X.base CX0 k g fd ["self"] sp
section
variable {X : Cx} {k : Nat} {J : Hp → Prop} {B : Addr → Prop}
theorem Both.run {g a : Addr} {sp : Sp} {t : Str} (F : Both X k g sp) {A' : Around} {pins : List (Addr × Obj)} {s : Shared} {σ : St} {H : Hp} {E : Value → Shared → Prop} {W : Value → Shared → Prop} (fr : A'.frames = some X.stack) (r : RmX X.pn k A') (I : Inv X pins σ H s)
    (wish : sp [.ref a] H (fun v G => v = .str t ∧ J G) E0) (q : ∀ s1 G tk, Inv X pins σ G s1 → J G → W (.str t tk) s1) : wpAny (model X.prog X.w) A' (call (.ref g) [.ref a]) W E s := by
  have env : Env0 X.prog X.w X.K X.mg X.base A' X.stack s H := ⟨fr, I.env0.mod, I.env0.bs, I.env0.bsz, I.env0.funs, I.env0.frf, I.env0.hok, I.env0.bare⟩
  have vals : Vals [V.ref a] [Value.ref a] := .cons rfl .nil
  have run : codeAny (model X.prog X.w) A' (.call (.ref g) ⟨[.ref a], []⟩) (CR CX0 X.stack X.prog X.w H s (fun v G => v = .str t ∧ J G) E0) s := by
    rcases r.hot with none_ | ⟨p, mem, hot⟩
    · exact F.calm A' X.stack s H [.ref a] [.ref a] _ E0 ⟨none_, r.dp, r.un⟩ env vals wish
    · obtain ⟨fd, bn, FH⟩ := F.hot
      have P1 := I.pin p (List.mem_append_left _ mem)
      exact FH.run A' X.stack s H ⟨[.ref a], []⟩ [.ref a] [.ref a] _ E0 p ⟨r.dp, r.un⟩ hot ⟨P1.1, P1.2.1, fun z => (List.mem_cons.mp (I.stkSub p.1 z)).elim P1.2.2.1 P1.2.2.2.1, P1.2.2.2.2⟩ env (bn s [.ref a] I.kIn rfl) vals wish
  refine wpAny_call (codeAny_mono run ?_)
  rintro (er | fl) s1 z
  · exact False.elim z
  · cases fl with
    | ret u =>
      obtain ⟨_, G, I1, ⟨tk, rfl⟩, rfl, j⟩ : ∃ v G, Inv X pins σ G s1 ∧ (∃ tk, u = .str t tk) ∧ v = V.str t ∧ J G := by
        obtain ⟨v, G, I1, rv, rfl, j⟩ := I.after z
        exact ⟨_, G, I1, rv, rfl, j⟩
      exact q s1 G tk I1 j
    | _ => exact False.elim z
theorem sx_own {C g a : Addr} {sp : Sp} {t : Str} (find : PySem.W.findIn X.K (.ref C) "__repr__" = some (some (.ref g))) (fn : PySem.W.isFn X.K (.ref g) = true) (F : Both X k g sp)
    (inst : ∀ G, J G → ∃ dx fs, G a = some (.ins C dx fs)) (wish : ∀ G, J G → sp [.ref a] G (fun r G' => r = .str t ∧ J G') E0) : Sx X k J B (.ref a) t := by
  have look : ∀ {pins : List (Addr × Obj)} {s : Shared} {σ : St} {H : Hp}, Inv X pins σ H s → J H → ∃ mA od, PySem.W.InstAt s.heap a mA C od := fun {pins s σ H} I j => by
    obtain ⟨dx, fs, at_⟩ := inst H j
    obtain ⟨_, M, _⟩ := ins_get I.hok at_
    obtain ⟨od, It, _⟩ := M.look
    exact ⟨_, od, It⟩
  have bind_ : ∀ {A' : Around} {W : Value → Shared → Prop} {E : Value → Shared → Prop} {pins : List (Addr × Obj)} {s : Shared} {σ : St} {H : Hp}, A'.frames = some X.stack → RmX X.pn k A' → Inv X pins σ H s → J H → (∀ s1 G tk, Inv X pins σ G s1 → J G → W (.str t tk) s1) →
      ∀ {Q' : Option Value → Shared → Prop}, (∀ v s1, W v s1 → Q' (some v) s1) → wpAny (model X.prog X.w) A' (call (.ref g) ([.ref a] ++ []) >>= fun v => pure (some v)) Q' E s := by
    intro A' W E pins s σ H fr r I j q Q' out
    exact wpAny_bind (wpAny_mono (F.run fr r I (wish _ j) q) (fun v s1 z => wpAny_pure (out v s1 z)) fun _ _ z => z)
  constructor
  · intro A' g' pins s σ H u b E Q fr _ _ r I j rel fits q
    obtain rfl : u = Value.ref a := rel
    obtain ⟨_, od, It⟩ := look I j
    refine wpAny_pyReprUnder_ref (by omega) ?_
    unfold pyReprObjUnder pyReprObjBy
    refine wpAny_bind (wpAny_cRoomFor r.units0 (wpAny_bind (wpAny_bind (It.type.here ((PySem.W.looks_findIn I.kIn find).here ?_)))))
    change wpAny _ _ (if (some (Value.ref g)).isNone = true then _ else _) _ _ _
    rw [if_neg (by simp)]
    refine wpAny_bind (m := callSpecialIfBoundBy? _ (.ref a) (Str.ofString "__repr__")) ?_
    simp only [callSpecialIfBoundBy?, bindSpecialIfBound?]
    refine wpAny_holding (wpAny_bind (wpAny_bind (wpAny_bind (It.type.here ((PySem.W.looks_findIn I.kIn find).here (wpAny_bind (wpAny_askSetting (wpAny_ite ?_))))))))
    have got := fun {Q' : Option Value → Shared → Prop} => @bind_ A' (fun v s1 => ∃ tk, v = .str t tk ∧ Q t s1) E pins s σ H fr r I j (fun s1 G tk I1 j1 => ⟨tk, rfl, q s1 G I1 j1⟩) Q'
    have text : ∀ tk s1, Q t s1 → wpAny (model X.prog X.w) A' (do if ← isInstance (.str t tk) (.type "str") then pure (Value.str t tk) else raiseError "TypeError" s!"__repr__ returned non-string (type {← typeNameOf (.str t tk)})") (fun v s2 => ∃ x u, v = .str x u ∧ Q x s2) E s1 := fun tk s1 z =>
      wpAny_bind (wpAny_isInstance (T := "str") (b := true) rfl isSubtype_str_str (wpAny_pure ⟨t, tk, rfl, z⟩))
    split
    · exact wpAny_bind ((PySem.W.bind_fn I.kIn _ (beq_iff_eq.mp fn)).here (wpAny_pure (got fun v s1 ⟨tk, e, z⟩ => by subst e; exact text tk s1 z)))
    · exact wpAny_tryCatch (wpAny_bind ((PySem.W.bind_fn I.kIn _ (beq_iff_eq.mp fn)).here (wpAny_pure (got fun v s1 ⟨tk, e, z⟩ => by subst e; exact text tk s1 z))))
  · intro A' g' pins s σ H u E Q fr _ _ r I j rel fits q
    obtain rfl : u = Value.ref a := rel
    obtain ⟨_, od, It⟩ := look I j
    rw [pyReprObj_eq_pyReprObjBy]
    unfold pyReprObjBy
    refine wpAny_bind (wpAny_cRoomFor r.units0 (wpAny_bind (wpAny_bind (It.type.here ((PySem.W.looks_findIn I.kIn find).here ?_)))))
    change wpAny _ _ (if (some (Value.ref g)).isNone = true then _ else _) _ _ _
    rw [if_neg (by simp)]
    refine wpAny_bind (m := callSpecialIfBoundBy? _ (.ref a) (Str.ofString "__repr__")) ?_
    simp only [callSpecialIfBoundBy?, bindSpecialIfBound?]
    refine wpAny_holding (wpAny_bind (wpAny_bind (wpAny_bind (It.type.here ((PySem.W.looks_findIn I.kIn find).here (wpAny_bind (wpAny_askSetting (wpAny_ite ?_))))))))
    have got := fun {Q' : Option Value → Shared → Prop} => @bind_ A' (fun v s1 => ∃ tk, v = .str t tk ∧ Q (.str t tk) s1) E pins s σ H fr r I j (fun s1 G tk I1 j1 => ⟨tk, rfl, q s1 G tk I1 j1⟩) Q'
    have text : ∀ tk s1, Q (.str t tk) s1 → wpAny (model X.prog X.w) A' (do if ← isInstance (.str t tk) (.type "str") then pure (Value.str t tk) else raiseError "TypeError" s!"__repr__ returned non-string (type {← typeNameOf (.str t tk)})") Q E s1 := fun tk s1 z =>
      wpAny_bind (wpAny_isInstance (T := "str") (b := true) rfl isSubtype_str_str (wpAny_pure z))
    split
    · exact wpAny_bind ((PySem.W.bind_fn I.kIn _ (beq_iff_eq.mp fn)).here (wpAny_pure (got fun v s1 ⟨tk, e, z⟩ => by subst e; exact text tk s1 z)))
    · exact wpAny_tryCatch (wpAny_bind ((PySem.W.bind_fn I.kIn _ (beq_iff_eq.mp fn)).here (wpAny_pure (got fun v s1 ⟨tk, e, z⟩ => by subst e; exact text tk s1 z))))
  · intro A' g' pins s σ H u E Q fr _ _ r I j rel fits q
    obtain rfl : u = Value.ref a := rel
    obtain ⟨_, od, It⟩ := look I j
    obtain ⟨m, hF⟩ := I.fr
    refine PySem.W.repr_K (by have := r.un; show A'.units + 1 < cLine; omega) hF I.ok.mod.kin It find fn ?_
    refine wpAny_mono (F.run (A' := A'.in1) (W := fun v s1 => ∃ tk, v = .str t tk ∧ Q (.str t tk) s1) fr r.in1' I (wish _ j) fun s1 G tk I1 j1 => ⟨tk, rfl, q s1 G tk I1 j1⟩) ?_ fun _ _ z => z
    rintro _ s1 ⟨tk, rfl, z⟩
    exact z
end
end L2

/-! Own exceptions whose context is None; a def that may raise, called by its name, what is let out by the slots. -/
namespace L2
open PySem PySem.Spec PyProof.Rows
/-- C(e, ..), made where nothing is handled: its context is None -/
theorem pmk_oexN {X : Cx} {CX : CXT} {x : Str} {C g : Addr} {n : Nat} {fd : FuncData} {ps : List Str} {pr : Sp} {ds : List Value} {dvs : List V} {e : Expr} {es : List Expr} {ta : TA} {p pos : Pos} (cls : OexC X.K C) (init : PySem.W.findIn X.K (.ref C) "__init__" = some (some (.ref g))) (isfn : PySem.W.typeIn X.K (.ref g) = some (.type "function"))
    (F : FnG X.prog X.w X.K X.mg X.base CX n g fd ps pr) (quiet : X.A.guards = some []) (room : Room (n + 1) X.A) (bn : Binds X.K fd ps ds) (dv : Vals dvs ds) (pass : Passes CX X (fun _ _ _ => False)) (gl : Gl X x) (at_ : X.mg x = some (.ref C)) (args : PA X (e :: es) ta)
    (nd : (x == ("__debug__" : Str)) = false := by decide) (st : starEach (e :: es) X.env = (false, eval e X.env) :: starEach es X.env := by rfl) (pl : (backTo pos (starEach es X.env)).any (·.1) = false := by rfl) :
    L2N.PMk X (.Call (.Name x p) (e :: es) [] pos) (tMkO C pr dvs ta) := by
  intro pins s0 σ G W J w
  have vals := args.run pos pins s0 σ G _ J w
  refine wpAny_Call_Name_kw (ld_glob J gl at_ (PySem.W.callWith_K (h₀ := X.base) J.ok.mod.kin cls.kC (thn vals ?_) st pl) nd)
  rintro us ⟨hp, gens, dr, tk, os⟩ ⟨as, G1, J1, rel, few, wish⟩
  refine ⟨J1.kIn, ?_⟩
  show wpAny _ _ (PySem.call (.ref C) us) _ _ _
  obtain ⟨_, _, _, _, bm, _, _, _, _, _, _, _, _, _, _, look, tail⟩ := cls.cls
  obtain ⟨stays, J2⟩ := exc_laid (args := us) (C := C) J1
  have w1 := wish (hp.objs.size + 1) (J1.hok.fresh (Nat.le_succ hp.objs.size))
  have rel2 : Vals (V.ref (hp.objs.size + 1) :: (as ++ dvs)) (Value.ref (hp.objs.size + 1) :: (us ++ ds)) := .cons rfl (rel.append dv)
  have many : (Value.ref (hp.objs.size + 1) :: us ++ ds).length = ps.length := rel2.length.symm.trans (F.len _ _ _ _ w1)
  have run := F.run _ X.stack _ _ ⟨Value.ref (hp.objs.size + 1) :: us, []⟩ _ _ _ (fun _ _ _ => False) (make_guards.trans quiet) (room.make C us []) (J2.env0.make C us []) (bn _ (Value.ref (hp.objs.size + 1) :: us) J2.kIn many) rel2 w1
  have line : us.length ≤ sizeLine := Nat.le_trans (Nat.le_of_eq (Paired.length rel).symm) (Nat.le_trans few (by rw [sizeLine_eq]; decide))
  refine wpAny_call (PySem.HandSPX.call_own PySem.F.excBase_ValueError (fun Y => PySem.HandSPX.refsVE_contains Y bm tail) (J1.kIn _ _ look) (PySem.W.looks_findIn J1.kIn init) (fun self => PySem.W.bind_fn J1.kIn self isfn) line (codeAny_mono run ?_))
  rintro (er | fl) s3 z
  · exact pass pins σ _ _ er s3 J2 z
  · cases fl with
    | ret u =>
      obtain ⟨_, G3, same, bare, un, ok, none_, rfl, d, fs, at3, own, new, w3⟩ := z
      obtain ⟨h3, gens3, dr3, tk3, os3⟩ := s3
      obtain ⟨t0, hG, JG, back, lost, obj, off⟩ := mk_end0 (d2 := dr3) (t2 := tk3) J1 (Nat.le_succ _) stays un ok same bare at3 own new
      exact ⟨none_, _, _, _, ⟨hG, gens3, dr3, tk3, os3⟩, _, .ref C, some d, rfl, JG, back, lost, obj, ⟨rfl, rfl, fun vs e => by cases e; rfl⟩, rfl, rfl, off, rfl, bare, raises_own cls.exC cls.tyC, w3⟩
    | _ => exact z.elim
/-- x(e, ..), where no repr is under way; what is let out goes by the slots -/
theorem pe_callW {X : Cx} {CX : CXT} {n : Nat} {f : Addr} {x : Str} {fd : FuncData} {ps : List Str} {pr : Sp} {E : St → XK} {e : Expr} {es : List Expr} {t : TA} {p pos : Pos} (F : FnG X.prog X.w X.K X.mg X.base CX n f fd ps pr) (quiet : X.A.guards = some []) (room : Room n X.A) (gl : Gl X x) (at_ : X.mg x = some (.ref f)) (keep : PySem.W.keepIn X.K (.ref f) = true) (bn : Binds X.K fd ps []) (pass : ∀ σ, PassesAt CX X σ (E σ)) (args : PA X (e :: es) t)
    (nd : (x == ("__debug__" : Str)) = false := by decide) (st : starEach (e :: es) X.env = (false, eval e X.env) :: starEach es X.env := by rfl) (pn : (backTo pos (starEach es X.env)).any (·.1) = false := by rfl) :
    PE X (.Call (.Name x p) (e :: es) [] pos) (fun σ H Q => t σ H fun vs H1 => pr vs H1 Q (E σ)) := by
  constructor
  intro pins s0 σ H W J w
  refine wpAny_Call_Name_kw (ld_glob J gl at_ (PySem.W.callWith_K (h₀ := X.base) J.ok.mod.kin keep (thn (args.run pos pins s0 σ H _ J w) ?_) st pn) nd)
  rintro us s2 ⟨as, H2, J2, rv, w2⟩
  have many : (us ++ []).length = ps.length := by
    rw [List.append_nil]
    exact rv.length.symm.trans (F.len _ _ _ _ w2)
  have bound := bn s2 us J2.kIn many
  rw [List.append_nil] at bound
  have run := F.run X.A X.stack s2 H2 ⟨us, []⟩ us as W (E σ) quiet room J2.env0 bound rv w2
  refine ⟨J2.kIn, wpAny_call (codeAny_mono run ?_)⟩
  rintro (er | fl) s3 z
  · exact pass σ pins H2 s2 er s3 J2 z
  · cases fl with
    | ret u => exact J2.after z
    | _ => exact z.elim
end L2

/-! f(k=v): a def of one parameter, called by its name alone -/
namespace L2
open PySem PySem.Spec PyProof.Rows
def gK1 : List Value → List Value → List Value
  | [], [u] => [u]
  | _, _ => []
def gKV1 : List V → List V → List V
  | [], [u] => [u]
  | _, _ => []
theorem KBinds.lone {K : PySem.W.Frag} {fd : FuncData} {b : Str} (h : ∀ u : Value, bindArgs fd ⟨[], [(b, u)]⟩ = pure [(b, u)]) : KBinds K fd [b] [b] gK1 gKV1 := by
  constructor
  · intro s us ws _ many
    rcases us with _ | ⟨u, us⟩
    · rcases ws with _ | ⟨w, _ | ⟨w2, ws⟩⟩
      · simp [gK1] at many
      · exact .of_eq (h w)
      · simp [gK1] at many
    · simp [gK1] at many
  · intro vs us zs ws r rz
    cases r with
    | cons _ _ => exact .nil
    | nil =>
      cases rz with
      | nil => exact .nil
      | cons a as =>
        cases as with
        | nil => exact .cons a .nil
        | cons _ _ => exact .nil
theorem pe_callK1 {X : Cx} {CX : CXT} {n : Nat} {f : Addr} {x : Str} {fd : FuncData} {ps ks : List Str} {pr : Sp} {E : XK} {kws : List Keyword} {tk : TA} {p pos : Pos} (F : FnOk X.prog X.w X.K X.mg X.base CX n f fd ps pr) (room : Room n X.A) (gl : Gl X x) (at_ : X.mg x = some (.ref f)) (keep : PySem.W.keepIn X.K (.ref f) = true) (bn : KBinds X.K fd ps ks gK1 gKV1) (pass : Passes CX X E) (args : PK X kws tk)
    (named : (backToKw pos (keywordEach kws X.env)).all (·.1.isSome) = true := by rfl) (names : (backToKw pos (keywordEach kws X.env)).filterMap (·.1) = ks := by rfl) (nd : (x == ("__debug__" : Str)) = false := by decide)
    (pl : ((backTo pos (starEach [] X.env)).any (·.1) || (backToKw pos (keywordEach kws X.env)).any (·.1.isNone)) = false := by rfl) :
    PE X (.Call (.Name x p) [] kws pos) (fun σ H Q => tk σ H fun zs H1 => pr (gKV1 [] zs) H1 Q E) := by
  constructor
  intro pins s0 σ H W J w
  refine wpAny_Call_Name_kw (ld_glob J gl at_ (PySem.W.callWith_KW0 (h₀ := X.base) (first := []) J.ok.mod.kin keep named (thn (args.run pos pins s0 σ H _ J w) ?_) pl) nd)
  rintro us s1 ⟨zs, H1, J1, rz, w1⟩
  refine ⟨J1.kIn, ?_⟩
  rw [names]
  exact run_fnk (us := []) (vs := []) F room bn pass J1 Paired.nil rz w1
end L2

/-! The end of a law row without lambdas: the end with tables, of no tables -/
namespace L2
open PySem PySem.Spec PyProof.Rows LamX
theorem walk_quiet {l : PySem.W.OpenLaw} {n k : Nat} {q : Program} {loose : List Str} {XP : (Str → Option Value) → Heap → Prop} {YP : World → Heap → Prop} {d : DefRec} {K : Params → PySem.W.Frag} {CX : World → CXT} {sp : World → Sp} {x : Str}
    (most : l.most = some n) (line : n ≤ sizeLine) (plain : d.params.defaults = []) (room : Room k callerA) (keeps : ∀ (w : World) (h : Heap), YP w h → (K w.params).In h)
    (def_ : ∀ (w : World) (mg : Str → Option Value) (fa : Addr) (h : Heap), (K w.params).In h → h.Ns mainGlobals mg → mg d.name = some (.ref fa) →
      ∃ fd : FuncData, (∀ (s : Shared) (u : Value), BindsTo s fd ⟨[u], []⟩ [(x, u)]) ∧ ∀ base : Heap, (K w.params).In base → base.Ns mainGlobals mg → FnG l.prog w (K w.params) mg base (CX w) k fa fd [x] (sp w))
    (asked : ∀ (w : World) (H : Hp) (a : Addr) (ns : List Int), ns.length ≤ n → SqL (K w.params) H a (ns.map V.int) → sp w [.ref a] H (fun v _ => v = .bl true) fun _ _ _ => False)
    (none_ : ∀ (w : World) (G : Hp) (s0 : Shared) (er : Value) (s1 : Shared), CX w [] G s0 (fun _ _ _ => False) er s1 → False) : PySem.W.WalkO q loose XP YP l.row.toRowW d [] (fun f vs => PySem.call f vs) := by
  refine walk_ofT (x := x) most line plain room keeps ?_ none_
  intro w mg fa h _ K1 ns1 _ at_
  obtain ⟨fd, binds, F⟩ := def_ w mg fa h K1 ns1 at_
  exact ⟨fd, [], sp w, by simp, by simp, by simp, binds, fun H a ns few _ list => asked w H a ns few list, fun base KB nsB _ => F base KB nsB⟩
end L2

/-! Plain mathematics for the sign runs of polynomials: rows of integers, lowest exponent first. -/
namespace SR

/-- the sign of an integer -/
def sgn (x : Int) : Int := if x > 0 then 1 else if x < 0 then -1 else 0
theorem sgn_pos {x : Int} (h : 1 ≤ x) : sgn x = 1 := by unfold sgn; rw [if_pos (by omega)]
theorem sgn_neg {x : Int} (h : x ≤ -1) : sgn x = -1 := by unfold sgn; rw [if_neg (by omega), if_pos (by omega)]
theorem sgn_zero : sgn 0 = 0 := rfl
theorem sgn_cases (x : Int) : (1 ≤ x ∧ sgn x = 1) ∨ (x = 0 ∧ sgn x = 0) ∨ (x ≤ -1 ∧ sgn x = -1) := by
  by_cases h : x > 0
  · exact .inl ⟨by omega, sgn_pos (by omega)⟩
  · by_cases h2 : x < 0
    · exact .inr (.inr ⟨by omega, sgn_neg (by omega)⟩)
    · have : x = 0 := by omega
      subst this
      exact .inr (.inl ⟨rfl, rfl⟩)
theorem sgn_bounds (x : Int) : -1 ≤ sgn x ∧ sgn x ≤ 1 := by
  rcases sgn_cases x with ⟨_, h⟩ | ⟨_, h⟩ | ⟨_, h⟩ <;> rw [h] <;> omega
theorem sgn_mono {x y : Int} (h : x ≤ y) : sgn x ≤ sgn y := by
  rcases sgn_cases x with ⟨a, e⟩ | ⟨a, e⟩ | ⟨a, e⟩ <;> rcases sgn_cases y with ⟨b, f⟩ | ⟨b, f⟩ | ⟨b, f⟩ <;> omega
theorem sgn_opp (x : Int) : sgn (-x) = - sgn x := by
  rcases sgn_cases x with ⟨a, e⟩ | ⟨a, e⟩ | ⟨a, e⟩ <;> rcases sgn_cases (-x) with ⟨b, f⟩ | ⟨b, f⟩ | ⟨b, f⟩ <;> omega
theorem sgn_mul (x y : Int) : sgn (x * y) = sgn x * sgn y := by
  rcases sgn_cases x with ⟨a, e⟩ | ⟨a, e⟩ | ⟨a, e⟩
  · rcases sgn_cases y with ⟨b, f⟩ | ⟨b, f⟩ | ⟨b, f⟩
    · have : 1 * 1 ≤ x * y := Int.mul_le_mul a b (by omega) (by omega)
      rw [e, f, sgn_pos (by omega)]; rfl
    · rw [b, Int.mul_zero, e]; rfl
    · have : 1 * 1 ≤ x * (-y) := Int.mul_le_mul a (by omega) (by omega) (by omega)
      rw [Int.mul_neg] at this
      rw [e, f, sgn_neg (by omega)]; rfl
  · rw [a, Int.zero_mul]; simp [sgn_zero]
  · rcases sgn_cases y with ⟨b, f⟩ | ⟨b, f⟩ | ⟨b, f⟩
    · have : 1 * 1 ≤ (-x) * y := Int.mul_le_mul (by omega) b (by omega) (by omega)
      rw [Int.neg_mul] at this
      rw [e, f, sgn_neg (by omega)]; rfl
    · rw [b, Int.mul_zero, e]; rfl
    · have : 1 * 1 ≤ (-x) * (-y) := Int.mul_le_mul (by omega) (by omega) (by omega) (by omega)
      rw [Int.neg_mul_neg] at this
      rw [e, f, sgn_pos (by omega)]; rfl

/-- the value of a row -/
def ev : List Int → Int → Int
  | [], _ => 0
  | a :: r, x => a + x * ev r x

/-- all values keep one sign far to the right -/
theorem far_right (M : Int) (hM : 0 ≤ M) : ∀ r : List Int, (∀ a ∈ r, -M ≤ a ∧ a ≤ M) → (∀ x, ev r x = 0) ∨ (∀ x, M + 1 ≤ x → 1 ≤ ev r x) ∨ (∀ x, M + 1 ≤ x → ev r x ≤ -1)
  | [], _ => .inl fun _ => rfl
  | a :: t, h => by
    have ha := h a (by simp)
    rcases far_right M hM t (fun b hb => h b (by simp [hb])) with z | z | z
    · have e : ∀ x, ev (a :: t) x = a := fun x => by show a + x * ev t x = a; rw [z, Int.mul_zero, Int.add_zero]
      rcases sgn_cases a with ⟨p, _⟩ | ⟨p, _⟩ | ⟨p, _⟩
      · exact .inr (.inl fun x _ => by rw [e]; exact p)
      · exact .inl fun x => by rw [e]; exact p
      · exact .inr (.inr fun x _ => by rw [e]; exact p)
    · refine .inr (.inl fun x hx => ?_)
      show 1 ≤ a + x * ev t x
      have : (M + 1) * 1 ≤ x * ev t x := Int.mul_le_mul hx (z x hx) (by omega) (by omega)
      omega
    · refine .inr (.inr fun x hx => ?_)
      show a + x * ev t x ≤ -1
      have : (M + 1) * 1 ≤ x * (- ev t x) := Int.mul_le_mul hx (by have := z x hx; omega) (by omega) (by omega)
      rw [Int.mul_neg] at this
      omega
/-- .. and far to the left -/
theorem far_left (M : Int) (hM : 0 ≤ M) : ∀ r : List Int, (∀ a ∈ r, -M ≤ a ∧ a ≤ M) → (∀ x, ev r x = 0) ∨ (∀ x, x ≤ -(M + 1) → 1 ≤ ev r x) ∨ (∀ x, x ≤ -(M + 1) → ev r x ≤ -1)
  | [], _ => .inl fun _ => rfl
  | a :: t, h => by
    have ha := h a (by simp)
    rcases far_left M hM t (fun b hb => h b (by simp [hb])) with z | z | z
    · have e : ∀ x, ev (a :: t) x = a := fun x => by show a + x * ev t x = a; rw [z, Int.mul_zero, Int.add_zero]
      rcases sgn_cases a with ⟨p, _⟩ | ⟨p, _⟩ | ⟨p, _⟩
      · exact .inr (.inl fun x _ => by rw [e]; exact p)
      · exact .inl fun x => by rw [e]; exact p
      · exact .inr (.inr fun x _ => by rw [e]; exact p)
    · refine .inr (.inr fun x hx => ?_)
      show a + x * ev t x ≤ -1
      have : (M + 1) * 1 ≤ (-x) * ev t x := Int.mul_le_mul (by omega) (z x hx) (by omega) (by omega)
      rw [Int.neg_mul] at this
      omega
    · refine .inr (.inl fun x hx => ?_)
      show 1 ≤ a + x * ev t x
      have : (M + 1) * 1 ≤ (-x) * (- ev t x) := Int.mul_le_mul (by omega) (by have := z x hx; omega) (by omega) (by omega)
      rw [Int.neg_mul_neg] at this
      omega
theorem right_sign {M : Int} (hM : 0 ≤ M) {r : List Int} (h : ∀ a ∈ r, -M ≤ a ∧ a ≤ M) : ∃ s, ∀ x, M + 1 ≤ x → sgn (ev r x) = s := by
  rcases far_right M hM r h with z | z | z
  · exact ⟨0, fun x _ => by rw [z]; rfl⟩
  · exact ⟨1, fun x hx => sgn_pos (z x hx)⟩
  · exact ⟨-1, fun x hx => sgn_neg (z x hx)⟩
theorem left_sign {M : Int} (hM : 0 ≤ M) {r : List Int} (h : ∀ a ∈ r, -M ≤ a ∧ a ≤ M) : ∃ s, ∀ x, x ≤ -(M + 1) → sgn (ev r x) = s := by
  rcases far_left M hM r h with z | z | z
  · exact ⟨0, fun x _ => by rw [z]; rfl⟩
  · exact ⟨1, fun x hx => sgn_pos (z x hx)⟩
  · exact ⟨-1, fun x hx => sgn_neg (z x hx)⟩

/-- does not end in 0 -/
def Canon (r : List Int) : Prop := r.getLast? ≠ some 0
theorem Canon.tail {a : Int} {t : List Int} (h : Canon (a :: t)) (ht : t ≠ []) : Canon t := by
  cases t with
  | nil => exact (ht rfl).elim
  | cons b u => intro e; apply h; rw [List.getLast?_cons_cons]; exact e
/-- a row that does not end in 0 has some value -/
theorem canon_far {M : Int} (hM : 0 ≤ M) : ∀ {r : List Int}, r ≠ [] → Canon r → (∀ a ∈ r, -M ≤ a ∧ a ≤ M) → (∀ x, M + 1 ≤ x → 1 ≤ ev r x) ∨ (∀ x, M + 1 ≤ x → ev r x ≤ -1)
  | [], hn, _, _ => (hn rfl).elim
  | [a], _, c, h => by
    have e : ∀ x, ev [a] x = a := fun x => by show a + x * 0 = a; omega
    have na : a ≠ 0 := fun z => c (by rw [z]; rfl)
    by_cases p : 0 < a
    · exact .inl fun x _ => by rw [e]; omega
    · exact .inr fun x _ => by rw [e]; omega
  | a :: b :: u, _, c, h => by
    have ha := h a (by simp)
    have ct : Canon (b :: u) := c.tail (by simp)
    rcases canon_far hM (r := b :: u) (by simp) ct (fun y hy => h y (by simp [List.mem_cons.mp hy])) with z | z
    · refine .inl fun x hx => ?_
      show 1 ≤ a + x * ev (b :: u) x
      have : (M + 1) * 1 ≤ x * ev (b :: u) x := Int.mul_le_mul hx (z x hx) (by omega) (by omega)
      omega
    · refine .inr fun x hx => ?_
      show a + x * ev (b :: u) x ≤ -1
      have : (M + 1) * 1 ≤ x * (- ev (b :: u) x) := Int.mul_le_mul hx (by have := z x hx; omega) (by omega) (by omega)
      rw [Int.mul_neg] at this
      omega
theorem bounded : ∀ r : List Int, ∃ M : Int, 0 ≤ M ∧ ∀ a ∈ r, -M ≤ a ∧ a ≤ M
  | [] => ⟨0, by omega, fun _ h => by cases h⟩
  | a :: t => by
    obtain ⟨M, h0, h⟩ := bounded t
    refine ⟨M + a.natAbs, by omega, fun b hb => ?_⟩
    rcases List.mem_cons.mp hb with rfl | hb
    · omega
    · have := h b hb; omega
/-- of the rows with the same values the ones that do not end in 0 are not longer -/
theorem canon_len : ∀ {c q : List Int} {N : Int}, Canon c → (∀ x, N ≤ x → ev c x = ev q x) → c.length ≤ q.length
  | [], q, N, _, _ => by simp
  | a :: t, [], N, hc, h => by
    obtain ⟨M, h0, hM⟩ := bounded (a :: t)
    exfalso
    rcases canon_far h0 (by simp) hc hM with z | z
    · have h1 := z (M + 1 + N.natAbs) (by omega)
      rw [h _ (by omega)] at h1
      exact absurd h1 (by show ¬ (1 ≤ (0 : Int)); omega)
    · have h1 := z (M + 1 + N.natAbs) (by omega)
      rw [h _ (by omega)] at h1
      exact absurd h1 (by show ¬ ((0 : Int) ≤ -1); omega)
  | a :: t, b :: u, N, hc, h => by
    by_cases ht : t = []
    · subst ht; simp
    have hd : ∀ x, N ≤ x → a - b = x * (ev u x - ev t x) := fun x hx => by
      have e : a + x * ev t x = b + x * ev u x := h x hx
      rw [Int.mul_sub]; omega
    have hab : a = b := by
      have e := hd (N.natAbs + (a - b).natAbs + 1) (by omega)
      generalize hy : ev u (N.natAbs + (a - b).natAbs + 1 : Int) - ev t (N.natAbs + (a - b).natAbs + 1 : Int) = y at e
      rcases sgn_cases y with ⟨p, _⟩ | ⟨p, _⟩ | ⟨p, _⟩
      · have : ((N.natAbs : Int) + (a - b).natAbs + 1) * 1 ≤ ((N.natAbs : Int) + (a - b).natAbs + 1) * y := Int.mul_le_mul_of_nonneg_left p (by omega)
        omega
      · rw [p, Int.mul_zero] at e; omega
      · have : ((N.natAbs : Int) + (a - b).natAbs + 1) * 1 ≤ ((N.natAbs : Int) + (a - b).natAbs + 1) * (-y) := Int.mul_le_mul_of_nonneg_left (by omega) (by omega)
        rw [Int.mul_neg] at this
        omega
    have ih := canon_len (c := t) (q := u) (N := N.natAbs + 1) (hc.tail ht) (fun x hx => by
      have e := hd x (by omega)
      rw [hab, Int.sub_self] at e
      rcases Int.mul_eq_zero.mp e.symm with z | z <;> omega)
    simp only [List.length_cons]
    omega

/-! ### rows made of rows -/
/-- without the zeros at the end -/
def trim (r : List Int) : List Int := (r.reverse.dropWhile (· == 0)).reverse
def addR : List Int → List Int → List Int
  | [], q => q
  | p, [] => p
  | a :: p, b :: q => (a + b) :: addR p q
theorem ev_addR : ∀ (p q : List Int) (x : Int), ev (addR p q) x = ev p x + ev q x
  | [], q, x => by show ev (addR [] q) x = 0 + ev q x; rw [addR]; omega
  | a :: p, [], x => by show ev (addR (a :: p) []) x = ev (a :: p) x + 0; rw [addR]; omega; simp
  | a :: p, b :: q, x => by
    show a + b + x * ev (addR p q) x = a + x * ev p x + (b + x * ev q x)
    rw [ev_addR p q x, Int.mul_add]; omega
theorem len_addR : ∀ (p q : List Int), (addR p q).length = max p.length q.length
  | [], q => by rw [addR]; simp
  | a :: p, [] => by rw [addR]; simp; simp
  | a :: p, b :: q => by rw [addR]; simp only [List.length_cons, len_addR p q]; omega
/-- the row of the value at x + 1 -/
def shiftR : List Int → List Int
  | [] => []
  | a :: t => addR (a :: shiftR t) (shiftR t)
theorem ev_shiftR : ∀ (r : List Int) (x : Int), ev (shiftR r) x = ev r (x + 1)
  | [], _ => rfl
  | a :: t, x => by
    show ev (addR (a :: shiftR t) (shiftR t)) x = a + (x + 1) * ev t (x + 1)
    rw [ev_addR]
    show a + x * ev (shiftR t) x + ev (shiftR t) x = _
    rw [ev_shiftR t x, Int.add_mul]; omega
theorem len_shiftR : ∀ r : List Int, (shiftR r).length = r.length
  | [] => rfl
  | a :: t => by
    show (addR (a :: shiftR t) (shiftR t)).length = _
    rw [len_addR]; simp only [List.length_cons, len_shiftR t]; omega
/-- the row of the steps -/
def stepR : List Int → List Int
  | [] => []
  | _ :: t => addR (if t = [] then [] else 0 :: stepR t) (shiftR t)
theorem ev_stepR : ∀ (r : List Int) (x : Int), ev (stepR r) x = ev r (x + 1) - ev r x
  | [], _ => rfl
  | a :: t, x => by
    show ev (addR (if t = [] then [] else 0 :: stepR t) (shiftR t)) x = a + (x + 1) * ev t (x + 1) - (a + x * ev t x)
    rw [ev_addR, ev_shiftR, Int.add_mul]
    by_cases h : t = []
    · rw [if_pos h, h]; simp [ev]
    · rw [if_neg h]
      show 0 + x * ev (stepR t) x + ev t (x + 1) = _
      rw [ev_stepR t x, Int.mul_sub]; omega
theorem len_stepR : ∀ r : List Int, (stepR r).length ≤ r.length - 1
  | [] => by simp [stepR]
  | a :: t => by
    show (addR (if t = [] then [] else 0 :: stepR t) (shiftR t)).length ≤ _
    rw [len_addR, len_shiftR]
    by_cases h : t = []
    · rw [if_pos h, h]; simp
    · rw [if_neg h]
      have := len_stepR t
      have : t.length ≠ 0 := fun e => h (List.length_eq_zero_iff.mp e)
      simp only [List.length_cons]; omega
/-- the steps of a polynomial, as a row that does not end in 0, are shorter -/
theorem step_len {r c : List Int} (hc : Canon c) (h : ∀ x, ev c x = ev r (x + 1) - ev r x) (hr : 1 ≤ r.length) : c.length < r.length := by
  have a := canon_len (c := c) (q := stepR r) (N := 0) hc (fun x _ => by rw [h, ev_stepR])
  have b := len_stepR r
  omega

/-! ### sizes -/
def Bd (n : Nat) (r : List Int) : Prop := ∀ a ∈ r, a.natAbs < 2 ^ n
theorem pow_mono {n m : Nat} (h : n ≤ m) : 2 ^ n ≤ 2 ^ m := Nat.pow_le_pow_right (by omega) h
theorem Bd.mono {n m : Nat} {r : List Int} (h : Bd n r) (hm : n ≤ m) : Bd m r := fun a ha => Nat.lt_of_lt_of_le (h a ha) (pow_mono hm)
theorem bd_mul {a b : Int} {n m : Nat} (ha : a.natAbs < 2 ^ n) (hb : b.natAbs < 2 ^ m) : (a * b).natAbs < 2 ^ (n + m) := by
  rw [Int.natAbs_mul, Nat.pow_add]
  exact Nat.mul_lt_mul'' ha hb
theorem bd_add {a b : Int} {n m k : Nat} (ha : a.natAbs < 2 ^ n) (hb : b.natAbs < 2 ^ m) (hn : n < k) (hm : m < k) : (a + b).natAbs < 2 ^ k := by
  have h1 : 2 ^ n ≤ 2 ^ (k - 1) := pow_mono (by omega)
  have h2 : 2 ^ m ≤ 2 ^ (k - 1) := pow_mono (by omega)
  have h3 : 2 ^ k = 2 ^ (k - 1) + 2 ^ (k - 1) := by
    obtain ⟨j, rfl⟩ : ∃ j, k = j + 1 := ⟨k - 1, by omega⟩
    rw [Nat.add_sub_cancel, Nat.pow_succ]; omega
  have := Int.natAbs_add_le a b
  omega
theorem ev_bd {n m : Nat} {x : Int} (hx : x.natAbs < 2 ^ m) : ∀ {r : List Int}, Bd n r → (ev r x).natAbs < 2 ^ (n + r.length * (m + 1))
  | [], _ => by show (0 : Int).natAbs < _; exact Nat.pos_of_ne_zero (by simp)
  | a :: t, h => by
    have ha := h a (by simp)
    have ih := ev_bd hx (r := t) (fun b hb => h b (by simp [hb]))
    refine bd_add (n := n) (m := m + (n + t.length * (m + 1))) ha (bd_mul hx ih) ?_ ?_
    · simp only [List.length_cons, Nat.add_mul]; omega
    · simp only [List.length_cons, Nat.add_mul]; omega
theorem Bd.int {n : Nat} {r : List Int} (h : Bd n r) : ∀ a ∈ r, -((2 ^ n : Nat) : Int) ≤ a ∧ a ≤ ((2 ^ n : Nat) : Int) := fun a ha => by
  have := h a ha; omega
end SR

/-! Runs of a function on the integers from a start on: plain mathematics. -/
namespace SR
/-- L are the stretches of one value of g from s on; neighbours differ -/
def IsRuns (g : Int → Int) (s : Int) : List (Int × Int) → Prop
  | [] => False
  | [(a, v)] => a = s ∧ ∀ d, s ≤ d → g d = v
  | (a, v) :: (b, u) :: rest => a = s ∧ a < b ∧ (∀ d, a ≤ d → d < b → g d = v) ∧ v ≠ u ∧ IsRuns g b ((b, u) :: rest)
theorem IsRuns.head {g : Int → Int} {s a v : Int} {r : List (Int × Int)} (h : IsRuns g s ((a, v) :: r)) : a = s ∧ g s = v := by
  cases r with
  | nil => exact ⟨h.1, h.2 s (Int.le_refl _)⟩
  | cons p r => obtain ⟨b, u⟩ := p; obtain ⟨e, l, k, _⟩ := h; subst e; exact ⟨rfl, k _ (Int.le_refl _) l⟩
theorem IsRuns.uniq {g : Int → Int} : ∀ {L M : List (Int × Int)} {s : Int}, IsRuns g s L → IsRuns g s M → L = M
  | [], _, _, h, _ => h.elim
  | _ :: _, [], _, _, h => h.elim
  | [(a, v)], [(b, u)], s, h, k => by
    obtain ⟨rfl, h1⟩ := h.head; obtain ⟨rfl, k1⟩ := k.head; rw [← h1, ← k1]
  | [(a, v)], (b, u) :: (c, w) :: r, s, h, k => by
    obtain ⟨e, l, kk, ne, k2⟩ := k
    have h1 := h.2 b (by omega)
    have h2 := h.2 c (by omega)
    have h3 := kk b (by omega) l
    have h4 := k2.head.2
    omega
  | (b, u) :: (c, w) :: r, [(a, v)], s, k, h => by
    obtain ⟨e, l, kk, ne, k2⟩ := k
    have h1 := h.2 b (by omega)
    have h2 := h.2 c (by omega)
    have h3 := kk b (by omega) l
    have h4 := k2.head.2
    omega
  | (a, v) :: (b, u) :: r, (a', v') :: (b', u') :: r', s, h, k => by
    obtain ⟨e, l, kk, ne, k2⟩ := h
    obtain ⟨e', l', kk', ne', k2'⟩ := k
    have hv : v = v' := by
      have h1 := kk a (by omega) l
      have h2 := kk' a (by omega) (by omega)
      omega
    have hb : b = b' := by
      by_cases h1 : b < b'
      · have h2 := kk' b (by omega) h1
        have h3 := k2.head.2
        omega
      · by_cases h2 : b' < b
        · have h4 := kk b' (by omega) h2
          have h3 := k2'.head.2
          omega
        · omega
    subst hb
    have t := IsRuns.uniq k2 k2'
    rw [t, e, e', hv]
/-- negated signs -/
theorem IsRuns.map {g : Int → Int} {f : Int → Int} (hf : ∀ x y, f x = f y → x = y) : ∀ {L : List (Int × Int)} {s : Int}, IsRuns g s L → IsRuns (fun d => f (g d)) s (L.map fun p => (p.1, f p.2))
  | [], _, h => h
  | [(a, v)], s, h => ⟨h.1, fun d hd => by show f (g d) = f v; rw [h.2 d hd]⟩
  | (a, v) :: (b, u) :: r, s, h => by
    obtain ⟨e, l, k, ne, k2⟩ := h
    exact ⟨e, l, fun d h1 h2 => by show f (g d) = f v; rw [k d h1 h2], fun z => ne (hf _ _ z), IsRuns.map hf k2⟩
theorem IsRuns.congr {g f : Int → Int} : ∀ {L : List (Int × Int)} {s : Int}, (∀ d, s ≤ d → g d = f d) → IsRuns g s L → IsRuns f s L
  | [], _, _, h => h
  | [(a, v)], s, e, h => ⟨h.1, fun d hd => by rw [← e d hd]; exact h.2 d hd⟩
  | (a, v) :: (b, u) :: r, s, e, h => by
    obtain ⟨e1, l, k, ne, k2⟩ := h
    exact ⟨e1, l, fun d h1 h2 => by rw [← e d (by omega)]; exact k d h1 h2, ne, IsRuns.congr (fun d hd => e d (by omega)) k2⟩

/-- L are stretches of g from s to before e; neighbours may have one value -/
def Seg (g : Int → Int) (s : Int) (e : Option Int) : List (Int × Int) → Prop
  | [] => False
  | [(a, v)] => a = s ∧ (∀ x, e = some x → a < x) ∧ ∀ d, a ≤ d → (∀ x, e = some x → d < x) → g d = v
  | (a, v) :: (b, u) :: rest => a = s ∧ a < b ∧ (∀ d, a ≤ d → d < b → g d = v) ∧ Seg g b e ((b, u) :: rest)
theorem Seg.ne {g : Int → Int} {s : Int} {e : Option Int} {L : List (Int × Int)} (h : Seg g s e L) : L ≠ [] := fun z => by rw [z] at h; exact h
theorem Seg.append {g : Int → Int} {m : Int} {e : Option Int} : ∀ {L M : List (Int × Int)} {s : Int}, Seg g s (some m) L → Seg g m e M → Seg g s e (L ++ M)
  | [], _, _, h, _ => h.elim
  | [(a, v)], M, s, h, k => by
    cases M with
    | nil => exact k.elim
    | cons p r =>
      obtain ⟨b, u⟩ := p
      have hb : b = m := by cases r with
        | nil => exact k.1
        | cons q r => obtain ⟨c, w⟩ := q; exact k.1
      subst hb
      exact ⟨h.1, h.2.1 _ rfl, fun d h1 h2 => h.2.2 d h1 (fun x e => by cases e; exact h2), k⟩
  | (a, v) :: (b, u) :: r, M, s, h, k => ⟨h.1, h.2.1, h.2.2.1, Seg.append (L := (b, u) :: r) h.2.2.2 k⟩
/-- one more stretch behind -/
theorem Seg.snoc {g : Int → Int} {m v : Int} {e : Option Int} {L : List (Int × Int)} {s : Int} (h : Seg g s (some m) L) (hm : ∀ x, e = some x → m < x) (hv : ∀ d, m ≤ d → (∀ x, e = some x → d < x) → g d = v) : Seg g s e (L ++ [(m, v)]) :=
  h.append ⟨rfl, hm, hv⟩

/-- what joined_runs does, a stretch at a time: the stretches so far -/
def joinStep (acc : List (Int × Int)) (p : Int × Int) : List (Int × Int) :=
  if acc.getLast?.map (·.2) = some p.2 then acc else acc ++ [p]
def joined (L : List (Int × Int)) : List (Int × Int) := L.foldl joinStep []

/-- runs up to before m -/
def Upto (g : Int → Int) (s m : Int) : List (Int × Int) → Prop
  | [] => False
  | [(a, v)] => a = s ∧ s < m ∧ ∀ d, s ≤ d → d < m → g d = v
  | (a, v) :: (b, u) :: rest => a = s ∧ a < b ∧ (∀ d, a ≤ d → d < b → g d = v) ∧ v ≠ u ∧ Upto g b m ((b, u) :: rest)
theorem Upto.lt {g : Int → Int} {m : Int} : ∀ {L : List (Int × Int)} {s : Int}, Upto g s m L → s < m
  | [], _, h => h.elim
  | [(a, v)], s, h => h.2.1
  | (a, v) :: (b, u) :: r, s, h => by have := Upto.lt h.2.2.2.2; have := h.1; have := h.2.1; omega
theorem Upto.ne {g : Int → Int} {s m : Int} {L : List (Int × Int)} (h : Upto g s m L) : L ≠ [] := fun z => by rw [z] at h; exact h
/-- the last value goes on -/
theorem Upto.same {g : Int → Int} {m n v : Int} (hmn : m ≤ n) : ∀ {L : List (Int × Int)} {s : Int}, Upto g s m L → L.getLast?.map (·.2) = some v → (∀ d, m ≤ d → d < n → g d = v) → Upto g s n L
  | [], _, h, _, _ => h.elim
  | [(a, u)], s, h, e, k => by
    have e : u = v := Option.some.inj e
    subst e
    exact ⟨h.1, by have := h.2.1; omega, fun d h1 h2 => if h3 : d < m then h.2.2 d h1 h3 else k d (by omega) h2⟩
  | (a, u) :: (b, w) :: r, s, h, e, k => by
    rw [List.getLast?_cons_cons] at e
    exact ⟨h.1, h.2.1, h.2.2.1, h.2.2.2.1, Upto.same hmn h.2.2.2.2 e k⟩
theorem Upto.other {g : Int → Int} {m n v w : Int} (hmn : m < n) : ∀ {L : List (Int × Int)} {s : Int}, Upto g s m L → L.getLast?.map (·.2) = some w → w ≠ v → (∀ d, m ≤ d → d < n → g d = v) → Upto g s n (L ++ [(m, v)])
  | [], _, h, _, _, _ => h.elim
  | [(a, u)], s, h, e, nv, k => by
    have e : u = w := Option.some.inj e
    subst e
    obtain ⟨e1, l, hh⟩ := h
    exact ⟨e1, by omega, fun d h1 h2 => hh d (by omega) h2, nv, rfl, hmn, k⟩
  | (a, u) :: (b, x) :: r, s, h, e, nv, k => by
    rw [List.getLast?_cons_cons] at e
    exact ⟨h.1, h.2.1, h.2.2.1, h.2.2.2.1, Upto.other hmn h.2.2.2.2 e nv k⟩
theorem Upto.whole_same {g : Int → Int} {m v : Int} : ∀ {L : List (Int × Int)} {s : Int}, Upto g s m L → L.getLast?.map (·.2) = some v → (∀ d, m ≤ d → g d = v) → IsRuns g s L
  | [], _, h, _, _ => h.elim
  | [(a, u)], s, h, e, k => by
    have e : u = v := Option.some.inj e
    subst e
    exact ⟨h.1, fun d h1 => if h3 : d < m then h.2.2 d h1 h3 else k d (by omega)⟩
  | (a, u) :: (b, w) :: r, s, h, e, k => by
    rw [List.getLast?_cons_cons] at e
    exact ⟨h.1, h.2.1, h.2.2.1, h.2.2.2.1, Upto.whole_same h.2.2.2.2 e k⟩
theorem Upto.whole_other {g : Int → Int} {m v w : Int} : ∀ {L : List (Int × Int)} {s : Int}, Upto g s m L → L.getLast?.map (·.2) = some w → w ≠ v → (∀ d, m ≤ d → g d = v) → IsRuns g s (L ++ [(m, v)])
  | [], _, h, _, _, _ => h.elim
  | [(a, u)], s, h, e, nv, k => by
    have e : u = w := Option.some.inj e
    subst e
    obtain ⟨e1, l, hh⟩ := h
    exact ⟨e1, by omega, fun d h1 h2 => hh d (by omega) h2, nv, rfl, k⟩
  | (a, u) :: (b, x) :: r, s, h, e, nv, k => by
    rw [List.getLast?_cons_cons] at e
    exact ⟨h.1, h.2.1, h.2.2.1, h.2.2.2.1, Upto.whole_other h.2.2.2.2 e nv k⟩
theorem last_some {L : List (Int × Int)} (h : L ≠ []) : ∃ w, L.getLast?.map (·.2) = some w := by
  cases e : L.getLast? with
  | none => exact (h (List.getLast?_eq_none_iff.mp e)).elim
  | some p => exact ⟨p.2, rfl⟩
theorem join_go {g : Int → Int} : ∀ {M : List (Int × Int)} {s m : Int} {L : List (Int × Int)}, Upto g s m L → Seg g m none M → IsRuns g s (M.foldl joinStep L)
  | [], _, _, _, _, h => h.elim
  | [(a, v)], s, m, L, hL, h => by
    obtain ⟨rfl, _, hv⟩ := h
    have hv : ∀ d, a ≤ d → g d = v := fun d hd => hv d hd (fun x e => by cases e)
    obtain ⟨w, hw⟩ := last_some hL.ne
    show IsRuns g s (joinStep L (a, v))
    unfold joinStep
    by_cases e : L.getLast?.map (·.2) = some v
    · rw [if_pos e]; exact hL.whole_same e hv
    · rw [if_neg e]; exact hL.whole_other hw (fun z => e (by rw [hw, z])) hv
  | (a, v) :: (b, u) :: r, s, m, L, hL, h => by
    obtain ⟨rfl, hab, hv, h2⟩ := h
    obtain ⟨w, hw⟩ := last_some hL.ne
    show IsRuns g s (((b, u) :: r).foldl joinStep (joinStep L (a, v)))
    unfold joinStep
    by_cases e : L.getLast?.map (·.2) = some v
    · rw [if_pos e]; exact join_go (hL.same (by omega) e hv) h2
    · rw [if_neg e]; exact join_go (hL.other hab hw (fun z => e (by rw [hw, z])) hv) h2
theorem joined_runs {g : Int → Int} {s : Int} {M : List (Int × Int)} (h : Seg g s none M) : IsRuns g s (joined M) := by
  cases M with
  | nil => exact h.elim
  | cons p r =>
    obtain ⟨a, v⟩ := p
    have e : joined ((a, v) :: r) = r.foldl joinStep [(a, v)] := rfl
    rw [e]
    cases r with
    | nil => exact ⟨h.1, fun d hd => h.2.2 d (by have := h.1; omega) (fun x e => by cases e)⟩
    | cons q r =>
      obtain ⟨b, u⟩ := q
      obtain ⟨rfl, hab, hv, h2⟩ := h
      exact join_go (L := [(a, v)]) (m := b) ⟨rfl, hab, hv⟩ h2
/-- a start that is not the first one: the value changes there -/
theorem IsRuns.change {g : Int → Int} : ∀ {L : List (Int × Int)} {s : Int}, IsRuns g s L → ∀ p ∈ L, p.1 = s ∨ (s < p.1 ∧ g (p.1 - 1) ≠ g p.1)
  | [], _, h, _, _ => h.elim
  | [(a, v)], s, h, p, hp => by
    rcases List.mem_cons.mp hp with rfl | hp
    · exact .inl h.1
    · cases hp
  | (a, v) :: (b, u) :: r, s, h, p, hp => by
    obtain ⟨e, l, k, ne, k2⟩ := h
    rcases List.mem_cons.mp hp with rfl | hp
    · exact .inl e
    · rcases IsRuns.change k2 p hp with q | ⟨q, c⟩
      · refine .inr ⟨by omega, ?_⟩
        rw [q, k (b - 1) (by omega) (by omega), k2.head.2]
        exact ne
      · exact .inr ⟨by omega, c⟩
/-- runs cut at a start -/
theorem IsRuns.upper {g : Int → Int} {s : Int} {a v b u : Int} {r : List (Int × Int)} (h : IsRuns g s ((a, v) :: (b, u) :: r)) : IsRuns g b ((b, u) :: r) := h.2.2.2.2
end SR

/-! The rows that the program makes. -/
namespace SR
theorem ev_append_zeros : ∀ (c : List Int) (k : Nat) (x : Int), ev (c ++ List.replicate k 0) x = ev c x
  | [], 0, _ => rfl
  | [], k + 1, x => by
    show (0 : Int) + x * ev ([] ++ List.replicate k 0) x = 0
    rw [ev_append_zeros [] k x]; show (0 : Int) + x * 0 = 0; omega
  | a :: c, k, x => by
    show a + x * ev (c ++ List.replicate k 0) x = a + x * ev c x
    rw [ev_append_zeros c k x]
/-- two rows made equally long, added -/
theorem pad_add : ∀ (r q : List Int), List.zipWith (· + ·) (r ++ List.replicate (max r.length q.length - r.length) 0) (q ++ List.replicate (max r.length q.length - q.length) 0) = addR r q
  | [], q => by
    rw [addR]
    have e : max ([] : List Int).length q.length - q.length = 0 := by simp
    rw [e]
    simp only [List.length_nil, Nat.zero_max, Nat.sub_zero, List.nil_append, List.replicate_zero, List.append_nil]
    induction q with
    | nil => rfl
    | cons a q ih => rw [List.length_cons, List.replicate_succ, List.zipWith_cons_cons, ih (by simp)]; simp
  | a :: r, [] => by
    rw [addR]
    · have e : max (a :: r).length ([] : List Int).length - (a :: r).length = 0 := by simp
      rw [e]
      simp only [List.length_nil, Nat.max_zero, Nat.sub_zero, List.nil_append, List.replicate_zero, List.append_nil]
      generalize a :: r = l
      induction l with
      | nil => rfl
      | cons a q ih => rw [List.length_cons, List.replicate_succ, List.zipWith_cons_cons, ih]; simp
    · simp
  | a :: r, b :: q => by
    have e1 : max (a :: r).length (b :: q).length - (a :: r).length = max r.length q.length - r.length := by simp only [List.length_cons]; omega
    have e2 : max (a :: r).length (b :: q).length - (b :: q).length = max r.length q.length - q.length := by simp only [List.length_cons]; omega
    rw [e1, e2, addR, List.cons_append, List.cons_append, List.zipWith_cons_cons, pad_add r q]
/-- a coefficient of a product -/
def conv (r q : List Int) (at_ : Nat) : Int := ((List.range (at_ + 1)).map fun low => r.getD low 0 * q.getD (at_ - low) 0).sum
def mulR (r q : List Int) : List Int := (List.range (r.length + q.length)).map (conv r q)
theorem range_ev (n : Nat) (f : Nat → Int) (x : Int) : ev ((List.range (n + 1)).map f) x = f 0 + x * ev ((List.range n).map fun k => f (k + 1)) x := by
  rw [List.range_succ_eq_map, List.map_cons, List.map_map]; rfl
theorem ev_add : ∀ (n : Nat) (f g : Nat → Int) (x : Int), ev ((List.range n).map fun k => f k + g k) x = ev ((List.range n).map f) x + ev ((List.range n).map g) x
  | 0, _, _, _ => rfl
  | n + 1, f, g, x => by
    rw [range_ev, range_ev, range_ev, ev_add n (fun k => f (k + 1)) (fun k => g (k + 1)) x, Int.mul_add]; omega
theorem ev_scale : ∀ (n : Nat) (c : Int) (f : Nat → Int) (x : Int), ev ((List.range n).map fun k => c * f k) x = c * ev ((List.range n).map f) x
  | 0, c, _, _ => by show (0 : Int) = c * 0; omega
  | n + 1, c, f, x => by
    rw [range_ev, range_ev, ev_scale n c (fun k => f (k + 1)) x, Int.mul_add]
    rw [← Int.mul_assoc, ← Int.mul_assoc, Int.mul_comm x c]
theorem ev_zero : ∀ (n : Nat) (f : Nat → Int) (x : Int), (∀ k, f k = 0) → ev ((List.range n).map f) x = 0
  | 0, _, _, _ => rfl
  | n + 1, f, x, h => by rw [range_ev, ev_zero n _ x (fun k => h (k + 1)), h 0]; simp
theorem ev_getD : ∀ (q : List Int) (n : Nat) (x : Int), q.length ≤ n → ev ((List.range n).map fun k => q.getD k 0) x = ev q x
  | [], n, x, _ => ev_zero n _ x (fun k => by simp)
  | a :: q, 0, x, h => by simp at h
  | a :: q, n + 1, x, h => by
    rw [range_ev]
    show a + x * ev ((List.range n).map fun k => q.getD k 0) x = a + x * ev q x
    rw [ev_getD q n x (by simpa using h)]
theorem conv_zero (q : List Int) (k : Nat) : conv [] q k = 0 := by
  unfold conv
  have : (fun low => ([] : List Int).getD low 0 * q.getD (k - low) 0) = fun _ => 0 := by funext low; simp
  rw [this]
  generalize List.range (k + 1) = l
  induction l with
  | nil => rfl
  | cons a t ih => rw [List.map_cons, List.sum_cons, ih]; rfl
theorem conv_succ (a : Int) (r q : List Int) (k : Nat) : conv (a :: r) q (k + 1) = a * q.getD (k + 1) 0 + conv r q k := by
  unfold conv
  rw [List.range_succ_eq_map, List.map_cons, List.map_map, List.sum_cons]
  have e : (fun low => (a :: r).getD low 0 * q.getD (k + 1 - low) 0) ∘ Nat.succ = fun low => r.getD low 0 * q.getD (k - low) 0 := by
    funext low
    show (a :: r).getD (low + 1) 0 * q.getD (k + 1 - (low + 1)) 0 = _
    rw [show k + 1 - (low + 1) = k - low by omega]; rfl
  rw [e]; rfl
theorem conv_at0 (a : Int) (r q : List Int) : conv (a :: r) q 0 = a * q.getD 0 0 := by
  show a * q.getD 0 0 + 0 = _; omega
theorem ev_mulR : ∀ (r q : List Int) (x : Int), ev (mulR r q) x = ev r x * ev q x
  | [], q, x => by
    show ev ((List.range _).map _) x = 0 * _
    rw [ev_zero _ _ x (fun k => conv_zero q k)]; omega
  | a :: r, q, x => by
    unfold mulR
    have e1 : (a :: r).length + q.length = (r.length + q.length) + 1 := by simp only [List.length_cons]; omega
    rw [e1, range_ev, conv_at0]
    have e2 : (fun k => conv (a :: r) q (k + 1)) = fun k => a * q.getD (k + 1) 0 + conv r q k := funext fun k => conv_succ a r q k
    rw [e2, ev_add, ev_scale _ a (fun k => q.getD (k + 1) 0)]
    have e3 := ev_mulR r q x
    unfold mulR at e3
    rw [e3]
    have e4 := ev_getD q (r.length + q.length + 1) x (by omega)
    rw [range_ev] at e4
    show _ = (a + x * ev r x) * ev q x
    rw [← e4]
    generalize ev (List.map (fun k => q.getD (k + 1) 0) (List.range (r.length + q.length))) x = T
    generalize ev r x = R
    generalize q.getD 0 0 = Z
    grind
def oppR (r : List Int) : List Int := r.map fun a => 0 - a
theorem ev_oppR : ∀ (r : List Int) (x : Int), ev (oppR r) x = - ev r x
  | [], _ => rfl
  | a :: r, x => by
    show 0 - a + x * ev (oppR r) x = -(a + x * ev r x)
    rw [ev_oppR r x, Int.mul_neg]; omega
/-! sizes -/
theorem Bd.append {n : Nat} {r q : List Int} (h : Bd n (r ++ q)) : Bd n r := fun a ha => h a (by simp [ha])
theorem Bd.add {n m k : Nat} (hn : n < k) (hm : m < k) : ∀ {r q : List Int}, Bd n r → Bd m q → Bd k (addR r q)
  | [], q, _, hq => by rw [addR]; exact hq.mono (by omega)
  | a :: r, [], hr, _ => by rw [addR]; exact hr.mono (by omega); simp
  | a :: r, b :: q, hr, hq => by
    rw [addR]
    intro y hy
    rcases List.mem_cons.mp hy with rfl | hy
    · exact bd_add (hr a (by simp)) (hq b (by simp)) hn hm
    · exact Bd.add hn hm (fun z hz => hr z (by simp [hz])) (fun z hz => hq z (by simp [hz])) y hy
theorem Bd.opp {n : Nat} {r : List Int} (h : Bd n r) : Bd n (oppR r) := fun y hy => by
  obtain ⟨a, ha, rfl⟩ := List.mem_map.mp hy
  have := h a ha
  omega
theorem Bd.getD {n : Nat} {r : List Int} (h : Bd n r) (i : Nat) : (r.getD i 0).natAbs < 2 ^ n := by
  rw [List.getD_eq_getElem?_getD]
  cases e : r[i]? with
  | none => exact Nat.pos_of_ne_zero (by simp)
  | some a => exact h a (List.mem_of_getElem? e)
theorem sum_bd {n : Nat} : ∀ (l : List Int) (k : Nat), (∀ a ∈ l, a.natAbs < 2 ^ n) → l.length ≤ 2 ^ k → l.sum.natAbs < 2 ^ (n + k) + 1 := by
  intro l k h hl
  have e : ∀ l : List Int, (∀ a ∈ l, a.natAbs < 2 ^ n) → l.sum.natAbs ≤ l.length * 2 ^ n := by
    intro l
    induction l with
    | nil => intro _; simp
    | cons a t ih =>
      intro h
      have h1 := h a (by simp)
      have h2 := ih (fun b hb => h b (by simp [hb]))
      rw [List.sum_cons, List.length_cons, Nat.add_mul]
      have := Int.natAbs_add_le a t.sum
      omega
  have h1 := e l h
  have h2 : l.length * 2 ^ n ≤ 2 ^ k * 2 ^ n := Nat.mul_le_mul_right _ hl
  rw [Nat.pow_add, Nat.mul_comm (2 ^ n)]
  omega
theorem Bd.mul {n m : Nat} {r q : List Int} (hr : Bd n r) (hq : Bd m q) (hl : r.length + q.length ≤ 16) : Bd (n + m + 5) (mulR r q) := fun y hy => by
  obtain ⟨at_, ha, rfl⟩ := List.mem_map.mp hy
  have ha := List.mem_range.mp ha
  have h := sum_bd (n := n + m) ((List.range (at_ + 1)).map fun low => r.getD low 0 * q.getD (at_ - low) 0) 4 (fun z hz => by
    obtain ⟨low, _, rfl⟩ := List.mem_map.mp hz
    exact bd_mul (hr.getD _) (hq.getD _)) (by simp; omega)
  have h2 : 2 ^ (n + m + 4) + 1 ≤ 2 ^ (n + m + 5) := by
    have : 1 ≤ 2 ^ (n + m + 4) := Nat.pos_of_ne_zero (by simp)
    rw [Nat.pow_succ 2 (n + m + 4)]; omega
  unfold conv
  omega
theorem len_mulR (r q : List Int) : (mulR r q).length = r.length + q.length := by simp [mulR]
end SR

/-! The sign runs of a polynomial by those of its steps. -/
namespace SR
theorem ev_nonneg {d : Int} (hd : 1 ≤ d) : ∀ {r : List Int}, (∀ a ∈ r, 0 ≤ a) → 0 ≤ ev r d
  | [], _ => Int.le_refl _
  | a :: t, h => by
    have h1 := h a (by simp)
    have h2 := ev_nonneg hd (r := t) (fun b hb => h b (by simp [hb]))
    have h3 : 0 ≤ d * ev t d := Int.mul_nonneg (by omega) h2
    show 0 ≤ a + d * ev t d
    omega
theorem ev_pos {d : Int} (hd : 1 ≤ d) : ∀ {r : List Int}, (∀ a ∈ r, 0 ≤ a) → (∃ a ∈ r, 0 < a) → 1 ≤ ev r d
  | [], _, ⟨a, h, _⟩ => by cases h
  | a :: t, h, ⟨b, hb, hp⟩ => by
    have h1 := h a (by simp)
    have ht : ∀ c ∈ t, 0 ≤ c := fun c hc => h c (List.mem_cons_of_mem _ hc)
    show 1 ≤ a + d * ev t d
    rcases List.mem_cons.mp hb with rfl | hb
    · have h3 : 0 ≤ d * ev t d := Int.mul_nonneg (by omega) (ev_nonneg hd ht)
      omega
    · have h2 := ev_pos hd ht ⟨b, hb, hp⟩
      have h3 : 1 * 1 ≤ d * ev t d := Int.mul_le_mul hd h2 (by omega) (by omega)
      omega
theorem one_pos {r : List Int} (h : ∀ a ∈ r, 0 ≤ a) (hp : ∃ a ∈ r, 0 < a) : IsRuns (fun d => sgn (ev r d)) 1 [(1, 1)] := ⟨rfl, fun d hd => sgn_pos (ev_pos hd h hp)⟩
theorem one_neg {r : List Int} (hc : Canon r) (hn : r ≠ []) (h : ∀ a ∈ r, a ≤ 0) : IsRuns (fun d => sgn (ev r d)) 1 [(1, -1)] := by
  refine ⟨rfl, fun d hd => ?_⟩
  have h1 : 1 ≤ ev (oppR r) d := by
    refine ev_pos hd (fun a ha => ?_) ?_
    · obtain ⟨b, hb, rfl⟩ := List.mem_map.mp ha
      have := h b hb; omega
    · refine ⟨0 - r.getLast hn, List.mem_map.mpr ⟨_, List.getLast_mem hn, rfl⟩, ?_⟩
      have h2 := h _ (List.getLast_mem hn)
      have h3 : r.getLast hn ≠ 0 := fun e => hc (by rw [List.getLast?_eq_some_getLast hn, e])
      omega
  rw [ev_oppR] at h1
  exact sgn_neg (by omega)
theorem one_zero : IsRuns (fun d => sgn (ev [] d)) 1 [(1, 0)] := ⟨rfl, fun _ _ => rfl⟩
theorem short_runs {r : List Int} (h : r.length ≤ 1) : IsRuns (fun d => sgn (ev r d)) 1 [(1, sgn (ev r 1))] := by
  match r, h with
  | [], _ => exact ⟨rfl, fun _ _ => rfl⟩
  | [a], _ => exact ⟨rfl, fun d _ => by show sgn (a + d * 0) = sgn (a + 1 * 0); rw [Int.mul_zero, Int.mul_zero]⟩
/-- runs by places -/
theorem IsRuns.at {g : Int → Int} : ∀ {L : List (Int × Int)} {s : Int}, IsRuns g s L → ∀ {i : Nat} {p : Int × Int}, L[i]? = some p → s ≤ p.1 ∧ (∀ q, L[i + 1]? = some q → p.1 < q.1) ∧ ∀ d, p.1 ≤ d → (∀ q, L[i + 1]? = some q → d < q.1) → g d = p.2
  | [], _, h, _, _, _ => h.elim
  | [(a, v)], s, h, 0, p, e => by
    cases e
    refine ⟨by have := h.1; show s ≤ a; omega, fun q z => by simp at z, fun d hd _ => h.2 d (by have := h.1; have : a ≤ d := hd; omega)⟩
  | [(a, v)], s, h, i + 1, p, e => by simp at e
  | (a, v) :: (b, u) :: r, s, h, 0, p, e => by
    cases e
    obtain ⟨e1, l, k, ne, k2⟩ := h
    refine ⟨by show s ≤ a; omega, fun q z => ?_, fun d hd hq => k d hd (hq _ rfl)⟩
    cases z
    exact l
  | (a, v) :: (b, u) :: r, s, h, i + 1, p, e => by
    obtain ⟨e1, l, k, ne, k2⟩ := h
    obtain ⟨x, y, z⟩ := IsRuns.at k2 (i := i) (p := p) e
    exact ⟨by omega, y, z⟩
theorem IsRuns.ne {g : Int → Int} {s : Int} {L : List (Int × Int)} (h : IsRuns g s L) : L ≠ [] := fun z => by rw [z] at h; exact h
theorem IsRuns.first {g : Int → Int} {s : Int} {L : List (Int × Int)} (h : IsRuns g s L) : ∃ v, L[0]? = some (s, v) := by
  cases L with
  | nil => exact h.elim
  | cons p r => obtain ⟨a, v⟩ := p; obtain ⟨rfl, _⟩ := h.head; exact ⟨v, rfl⟩
/-- the starts are not far -/
theorem IsRuns.near {r : List Int} {n : Nat} (hn : Bd n r) {L : List (Int × Int)} (h : IsRuns (fun d => sgn (ev r d)) 1 L) {p : Int × Int} (hp : p ∈ L) : 1 ≤ p.1 ∧ p.1 ≤ (2 ^ n : Nat) + 1 := by
  have h0 : (0 : Int) ≤ ((2 ^ n : Nat) : Int) := Int.natCast_nonneg _
  obtain ⟨s, hs⟩ := right_sign (M := ((2 ^ n : Nat) : Int)) h0 hn.int
  clear hn
  generalize ((2 ^ n : Nat) : Int) = N at h0 hs ⊢
  rcases h.change p hp with e | ⟨e1, e2⟩
  · omega
  · refine ⟨by omega, ?_⟩
    by_cases h1 : p.1 ≤ N + 1
    · exact h1
    · exfalso
      apply e2
      show sgn (ev r (p.1 - 1)) = sgn (ev r p.1)
      rw [hs _ (by omega), hs _ (by omega)]
/-- what rises or falls for ever has at last the sign of its steps -/
theorem far_sign {f : Int → Int} {s : Int} {dir T T0 : Int} (hf : ∀ d, T0 ≤ d → sgn (f d) = s) (hs : ∀ d, T ≤ d → sgn (f (d + 1) - f d) = dir) (h0 : dir ≠ 0) : s = dir := by
  have key : ∀ k : Nat, (dir = 1 → f T + k ≤ f (T + k)) ∧ (dir = -1 → f (T + k) ≤ f T - k) := by
    intro k
    induction k with
    | zero => simp
    | succ k ih =>
      have e1 := hs (T + k) (by omega)
      have e2 : T + ((k + 1 : Nat) : Int) = T + k + 1 := by omega
      rw [e2]
      refine ⟨fun z => ?_, fun z => ?_⟩
      · have := ih.1 z
        rcases sgn_cases (f (T + k + 1) - f (T + k)) with ⟨a, b⟩ | ⟨a, b⟩ | ⟨a, b⟩ <;> omega
      · have := ih.2 z
        rcases sgn_cases (f (T + k + 1) - f (T + k)) with ⟨a, b⟩ | ⟨a, b⟩ | ⟨a, b⟩ <;> omega
  have hd : dir = 1 ∨ dir = -1 := by
    have h1 := hs T (Int.le_refl _)
    have h2 := sgn_bounds (f (T + 1) - f T)
    omega
  have k := key ((f T).natAbs + T0.natAbs + T.natAbs + 1)
  have h1 := hf (T + (((f T).natAbs + T0.natAbs + T.natAbs + 1 : Nat) : Int)) (by omega)
  rcases hd with z | z
  · have := k.1 z
    rw [sgn_pos (by omega)] at h1
    omega
  · have := k.2 z
    rw [sgn_neg (by omega)] at h1
    omega
end SR

/-! Products of a number and of factors a * d - b, a * d * d + b: plain mathematics. -/
namespace SR
structure Fac where
  a : Int
  b : Int
  sq : Bool
/-- the row of a factor -/
def facR (f : Fac) : List Int := if f.sq = true then [f.b, 0, f.a] else [-f.b, f.a]
def facS (f : Fac) (d : Int) : Int := if f.sq = true then 1 else sgn (f.a * d - f.b)
theorem canon_facR {f : Fac} (h : 1 ≤ f.a) : Canon (facR f) := by
  unfold facR Canon
  split <;> simp <;> omega
theorem len_facR (f : Fac) : (facR f).length ≤ 3 := by
  unfold facR
  split <;> simp
theorem ev_facR (f : Fac) (d : Int) : ev (facR f) d = if f.sq = true then f.b + d * (d * f.a) else f.a * d - f.b := by
  unfold facR
  split
  · show f.b + d * (0 + d * (f.a + d * 0)) = _
    rw [Int.mul_zero, Int.add_zero, Int.zero_add]
  · show -f.b + d * (f.a + d * 0) = _
    rw [Int.mul_zero, Int.add_zero, Int.mul_comm d]
    omega
theorem sgn_facR {f : Fac} (ha : 1 ≤ f.a) (hs : f.sq = true → 1 ≤ f.b) (d : Int) : sgn (ev (facR f) d) = facS f d := by
  rw [ev_facR]
  unfold facS
  by_cases h : f.sq = true
  · rw [if_pos h, if_pos h]
    have h1 := hs h
    have h2 : 0 ≤ d * (d * f.a) := by
      rw [← Int.mul_assoc]
      refine Int.mul_nonneg ?_ (by omega)
      rcases Int.le_total 0 d with z | z
      · exact Int.mul_nonneg z z
      · have := Int.mul_nonneg (a := -d) (b := -d) (by omega) (by omega)
        rwa [Int.neg_mul_neg] at this
    exact sgn_pos (by omega)
  · rw [if_neg h, if_neg h]
def signAt (n : Int) (fs : List Fac) (d : Int) : Int := fs.foldl (fun s f => s * facS f d) (sgn n)
def prodE (n : Int) (fs : List Fac) (d : Int) : Int := fs.foldl (fun s f => s * ev (facR f) d) n
theorem signAt_snoc (n : Int) (fs : List Fac) (f : Fac) (d : Int) : signAt n (fs ++ [f]) d = signAt n fs d * facS f d := by
  unfold signAt
  rw [List.foldl_append]
  rfl
theorem prodE_snoc (n : Int) (fs : List Fac) (f : Fac) (d : Int) : prodE n (fs ++ [f]) d = prodE n fs d * ev (facR f) d := by
  unfold prodE
  rw [List.foldl_append]
  rfl
theorem fold_sgn (d : Int) : ∀ (fs : List Fac) (x : Int), (∀ f ∈ fs, 1 ≤ f.a ∧ (f.sq = true → 1 ≤ f.b)) → sgn (fs.foldl (fun s f => s * ev (facR f) d) x) = fs.foldl (fun s f => s * facS f d) (sgn x)
  | [], _, _ => rfl
  | f :: fs, x, h => by
    obtain ⟨h1, h2⟩ := h f (by simp)
    rw [List.foldl_cons, List.foldl_cons, fold_sgn d fs _ fun g hg => h g (by simp [hg]), sgn_mul, sgn_facR h1 h2]
theorem sgn_prodE {n : Int} {fs : List Fac} (h : ∀ f ∈ fs, 1 ≤ f.a ∧ (f.sq = true → 1 ≤ f.b)) (d : Int) : sgn (prodE n fs d) = signAt n fs d := fold_sgn d fs n h
theorem facS_cases (f : Fac) (d : Int) : facS f d = -1 ∨ facS f d = 0 ∨ facS f d = 1 := by
  unfold facS
  split
  · exact .inr (.inr rfl)
  · rcases sgn_cases (f.a * d - f.b) with ⟨_, e⟩ | ⟨_, e⟩ | ⟨_, e⟩ <;> omega
theorem fold_cases (d : Int) : ∀ (fs : List Fac) (x : Int), (x = -1 ∨ x = 0 ∨ x = 1) → (fs.foldl (fun s f => s * facS f d) x = -1 ∨ fs.foldl (fun s f => s * facS f d) x = 0 ∨ fs.foldl (fun s f => s * facS f d) x = 1)
  | [], _, h => h
  | f :: fs, x, h => by
    refine fold_cases d fs _ ?_
    show x * facS f d = -1 ∨ x * facS f d = 0 ∨ x * facS f d = 1
    rcases h with e | e | e <;> rcases facS_cases f d with k | k | k <;> rw [e, k] <;> decide
theorem signAt_cases (n : Int) (fs : List Fac) (d : Int) : signAt n fs d = -1 ∨ signAt n fs d = 0 ∨ signAt n fs d = 1 := fold_cases d fs _ (by
  rcases sgn_cases n with ⟨_, e⟩ | ⟨_, e⟩ | ⟨_, e⟩ <;> omega)
/-! ### the places at which a sign can change -/
def candOf (f : Fac) : List Int := if f.sq = true then [] else [f.b / f.a, f.b / f.a + 1, f.b / f.a + 2]
def cand (fs : List Fac) : List Int := fs.foldl (fun l f => l ++ candOf f) [1]
theorem cand_snoc (fs : List Fac) (f : Fac) : cand (fs ++ [f]) = cand fs ++ candOf f := by
  unfold cand
  rw [List.foldl_append]
  rfl
theorem len_cand : ∀ fs : List Fac, (cand fs).length ≤ 1 + 3 * fs.length := by
  intro fs
  have h : ∀ (fs : List Fac) (l : List Int), (fs.foldl (fun l f => l ++ candOf f) l).length ≤ l.length + 3 * fs.length := by
    intro fs
    induction fs with
    | nil => intro l; simp
    | cons f fs ih =>
      intro l
      have h1 := ih (l ++ candOf f)
      have h2 : (candOf f).length ≤ 3 := by unfold candOf; split <;> simp
      rw [List.length_append] at h1
      simp only [List.foldl_cons, List.length_cons]
      omega
  exact h fs [1]
theorem fold_cand {x : Int} : ∀ (fs : List Fac) (l : List Int), x ∈ fs.foldl (fun l f => l ++ candOf f) l ↔ x ∈ l ∨ ∃ f ∈ fs, x ∈ candOf f
  | [], l => by simp
  | f :: fs, l => by
    rw [List.foldl_cons, fold_cand fs, List.mem_append]
    constructor
    · rintro ((h | h) | ⟨g, hg, h⟩)
      · exact .inl h
      · exact .inr ⟨f, by simp, h⟩
      · exact .inr ⟨g, by simp [hg], h⟩
    · rintro (h | ⟨g, hg, h⟩)
      · exact .inl (.inl h)
      · rcases List.mem_cons.mp hg with rfl | hg
        · exact .inl (.inr h)
        · exact .inr ⟨g, hg, h⟩
theorem one_cand (fs : List Fac) : (1 : Int) ∈ cand fs := (fold_cand fs [1]).mpr (.inl (by simp))
theorem facS_stays {f : Fac} (ha : 1 ≤ f.a) {d : Int} (h : d ∉ candOf f) : facS f d = facS f (d - 1) := by
  unfold facS
  by_cases hs : f.sq = true
  · rw [if_pos hs, if_pos hs]
  · rw [if_neg hs, if_neg hs]
    unfold candOf at h
    rw [if_neg hs] at h
    have e1 := Int.mul_ediv_add_emod f.b f.a
    have e2 := Int.emod_nonneg f.b (b := f.a) (by omega)
    have e3 := Int.emod_lt_of_pos f.b (b := f.a) (by omega)
    generalize f.b / f.a = q at *
    generalize f.b % f.a = r at *
    simp only [List.mem_cons, List.not_mem_nil, or_false, not_or] at h
    by_cases lo : d < q
    · have k1 : f.a * d ≤ f.a * (q - 1) := Int.mul_le_mul_of_nonneg_left (by omega) (by omega)
      have k2 : f.a * (d - 1) ≤ f.a * (q - 1) := Int.mul_le_mul_of_nonneg_left (by omega) (by omega)
      rw [Int.mul_sub, Int.mul_one] at k1 k2
      rw [Int.mul_sub, Int.mul_one] at k2
      rw [Int.mul_sub, Int.mul_one]
      rw [sgn_neg (by omega), sgn_neg (by omega)]
    · have k1 : f.a * (q + 2) ≤ f.a * (d - 1) := Int.mul_le_mul_of_nonneg_left (by omega) (by omega)
      rw [Int.mul_sub, Int.mul_one, Int.mul_add] at k1
      rw [Int.mul_sub, Int.mul_one]
      rw [sgn_pos (by omega), sgn_pos (by omega)]
theorem signAt_stays {n : Int} {fs : List Fac} (ha : ∀ f ∈ fs, 1 ≤ f.a) {d : Int} (h : d ∉ cand fs) : signAt n fs d = signAt n fs (d - 1) := by
  have k : ∀ f ∈ fs, d ∉ candOf f := fun f hf hd => h ((fold_cand fs [1]).mpr (.inr ⟨f, hf, hd⟩))
  unfold signAt
  generalize sgn n = s
  clear h
  induction fs generalizing s with
  | nil => rfl
  | cons f fs ih =>
    rw [List.foldl_cons, List.foldl_cons, facS_stays (ha f (by simp)) (k f (by simp))]
    exact ih (fun g hg => ha g (List.mem_cons_of_mem _ hg)) (fun g hg => k g (List.mem_cons_of_mem _ hg)) _
/-! ### the stretches between places -/
theorem stays {g : Int → Int} {s : Int} : ∀ (k : Nat), (∀ d, s < d → d ≤ s + k → g d = g (d - 1)) → g (s + k) = g s
  | 0, _ => by rw [Int.natCast_zero, Int.add_zero]
  | k + 1, h => by
    rw [h (s + ((k + 1 : Nat) : Int)) (by omega) (by omega), show s + ((k + 1 : Nat) : Int) - 1 = s + k by omega]
    exact stays k fun d h1 h2 => h d h1 (by omega)
theorem stays_to {g : Int → Int} {s d : Int} (hd : s ≤ d) (h : ∀ e, s < e → e ≤ d → g e = g (e - 1)) : g d = g s := by
  have e : d = s + ((d - s).toNat : Int) := by omega
  rw [e]
  exact stays _ fun e h1 h2 => h e h1 (by omega)
theorem seg_of {g : Int → Int} : ∀ (ps : List Int) (s : Int), ps.head? = some s → ps.Pairwise (· < ·) → (∀ d, s < d → d ∉ ps → g d = g (d - 1)) → Seg g s none (ps.map fun p => (p, g p))
  | [], _, h, _, _ => nomatch h
  | [p], s, h, _, k => by
    obtain rfl : p = s := Option.some.inj h
    refine ⟨rfl, fun x e => (nomatch e), fun d hd _ => ?_⟩
    exact stays_to hd fun e h1 _ => k e h1 (by simp; omega)
  | p :: q :: r, s, h, w, k => by
    obtain rfl : p = s := Option.some.inj h
    obtain ⟨w1, w2⟩ := List.pairwise_cons.mp w
    have lt : p < q := w1 q (by simp)
    have over : ∀ x ∈ q :: r, q ≤ x := fun x hx => by
      rcases List.mem_cons.mp hx with rfl | hx
      · exact Int.le_refl _
      · exact Int.le_of_lt ((List.pairwise_cons.mp w2).1 x hx)
    refine ⟨rfl, lt, fun d h1 h2 => ?_, seg_of (q :: r) q rfl w2 fun d h1 h2 => k d (by omega) fun z => ?_⟩
    · refine stays_to h1 fun e g1 g2 => k e g1 fun z => ?_
      rcases List.mem_cons.mp z with z | z
      · omega
      · have := over e z
        omega
    · rcases List.mem_cons.mp z with z | z
      · omega
      · exact h2 z
/-- the runs that the law finds -/
def dueR (n : Int) (fs : List Fac) (ps : List Int) : List (Int × Int) := joined (ps.map fun p => (p, signAt n fs p))
theorem first_one {fs : List Fac} {ps : List Int} (h1 : ps.Pairwise (· < ·)) (h2 : ∀ k, k ∈ ps ↔ k ∈ cand fs ∧ 0 < k) : ps.head? = some 1 := by
  have h := (h2 1).mpr ⟨one_cand fs, by decide⟩
  cases ps with
  | nil => cases h
  | cons p r =>
    have hp := (h2 p).mp (by simp)
    rcases List.mem_cons.mp h with e | h
    · rw [e]; rfl
    · have := (List.pairwise_cons.mp h1).1 1 h
      omega
theorem due_runs {n : Int} {fs : List Fac} (ha : ∀ f ∈ fs, 1 ≤ f.a) {ps : List Int} (h1 : ps.Pairwise (· < ·)) (h2 : ∀ k, k ∈ ps ↔ k ∈ cand fs ∧ 0 < k) : IsRuns (signAt n fs) 1 (dueR n fs ps) := by
  refine joined_runs (seg_of ps 1 (first_one h1 h2) h1 fun d hd hn => signAt_stays ha fun z => hn ((h2 d).mpr ⟨z, by omega⟩))
/-! ### products are not longer than they must be -/
theorem conv_top {r q : List Int} {k : Nat} (h : r.length + q.length ≤ k + 1) : conv r q k = 0 := by
  unfold conv
  have over : ∀ (l : List Int) (i : Nat), l.length ≤ i → l.getD i 0 = 0 := fun l i h => by
    rw [List.getD_eq_getElem?_getD, List.getElem?_eq_none h]
    rfl
  have e : ∀ low, r.getD low 0 * q.getD (k - low) 0 = 0 := fun low => by
    by_cases hl : low < r.length
    · rw [over q (k - low) (by omega)]
      exact Int.mul_zero _
    · rw [over r low (by omega)]
      exact Int.zero_mul _
  have e2 : (fun low => r.getD low 0 * q.getD (k - low) 0) = fun _ => 0 := funext e
  rw [e2]
  generalize List.range (k + 1) = l
  induction l with
  | nil => rfl
  | cons a t ih => rw [List.map_cons, List.sum_cons, ih]; rfl
theorem mul_len {r q c : List Int} (hc : Canon c) (h : ∀ x, ev c x = ev (mulR r q) x) : c.length ≤ r.length + q.length - 1 := by
  have z : ∀ n, n + 1 = r.length + q.length → c.length ≤ n := fun n hn => by
    have e : mulR r q = (List.range n).map (conv r q) ++ List.replicate 1 0 := by
      unfold mulR
      rw [← hn, List.range_succ, List.map_append, List.map_singleton, conv_top (by omega)]
      rfl
    have k := canon_len (c := c) (q := (List.range n).map (conv r q)) (N := 0) hc fun x _ => by rw [h, e, ev_append_zeros]
    simpa using k
  cases e : r.length + q.length with
  | zero =>
    have k := canon_len (c := c) (q := mulR r q) (N := 0) hc fun x _ => h x
    rw [len_mulR] at k
    omega
  | succ n => exact z n e.symm
end SR

/-! The texts of polynomials, in plain words. -/
namespace TXM
open PySem PySem.Builtin PySem.Builtin.Str PyProof.Rows
def tx (i : Int) : Str := Str.ofString (toString i)
theorem cps_app (a b : Str) : (a ++ b).cps.toList = a.cps.toList ++ b.cps.toList := by
  show (a.cps ++ b.cps).toList = _
  simp
theorem str_ext {a b : Str} (h : a.cps.toList = b.cps.toList) : a = b := by
  obtain ⟨x⟩ := a
  obtain ⟨y⟩ := b
  congr 1
  exact Array.toList_inj.mp h
theorem app_assoc (a b c : Str) : a ++ b ++ c = a ++ (b ++ c) := str_ext (by simp only [cps_app, List.append_assoc])
theorem empty_app (a : Str) : Str.empty ++ a = a := str_ext (by rw [cps_app]; rfl)
theorem app_empty (a : Str) : a ++ Str.empty = a := str_ext (by rw [cps_app]; exact List.append_nil _)
/-- signs that are seen -/
def Ink (x : Str) : Prop := ∀ c ∈ x.cps.toList, 33 ≤ c ∧ c < 127
def Low (x : Str) : Prop := ∀ c ∈ x.cps.toList, c < 127
theorem Ink.low {x : Str} (h : Ink x) : Low x := fun c hc => (h c hc).2
theorem Ink.app {x y : Str} (h : Ink x) (k : Ink y) : Ink (x ++ y) := fun c hc => by
  rw [cps_app] at hc
  exact (List.mem_append.mp hc).elim (h c) (k c)
theorem Low.app {x y : Str} (h : Low x) (k : Low y) : Low (x ++ y) := fun c hc => by
  rw [cps_app] at hc
  exact (List.mem_append.mp hc).elim (h c) (k c)
theorem ink_tx (i : Int) : Ink (tx i) := fun c hc => by
  by_cases h : c ≠ 45 ∧ (c < 48 ∨ 57 < c)
  · exact absurd hc (int_text_free' c h i)
  · omega
theorem Low.repr {x : Str} (h : Low x) : (reprText x).length ≤ 10 * x.length + 2 := StrLaws.reprText_len x fun c hc => by
  have := h c hc
  have e : (16 : Nat) ^ 8 = 4294967296 := by decide
  omega
theorem tx_ne (i : Int) : (tx i).cps.toList ≠ [] := by
  intro h
  unfold tx at h
  rw [signs_ofString] at h
  have h2 : (toString i).toList = [] := List.map_eq_nil_iff.mp h
  cases i with
  | ofNat n =>
    have e : (toString (Int.ofNat n)) = n.repr := rfl
    rw [e, Nat.toList_repr] at h2
    exact Nat.toDigits_ne_nil h2
  | negSucc n =>
    have e : (toString (Int.negSucc n)) = "-" ++ (n + 1).repr := rfl
    rw [e, String.toList_append] at h2
    simp at h2
/-! ### strip -/
theorem takeW {p : Nat → Bool} : ∀ (s m : List Nat), (∀ c ∈ s, p c = true) → (∀ c, m.head? = some c → p c = false) → (s ++ m).takeWhile p = s
  | [], m, _, hm => by
    cases m with
    | nil => rfl
    | cons c l => simp [List.takeWhile_cons, hm c rfl]
  | a :: s, m, hs, hm => by
    rw [List.cons_append, List.takeWhile_cons, if_pos (hs a (by simp)), takeW s m (fun c hc => hs c (by simp [hc])) hm]
theorem strip_mid {x : Str} {s1 m s2 : List Nat} (e : x.cps.toList = s1 ++ m ++ s2) (h1 : ∀ c ∈ s1, Unicode.isSpace c = true) (h2 : ∀ c ∈ s2, Unicode.isSpace c = true) (hh : ∀ c, m.head? = some c → Unicode.isSpace c = false) (hl : ∀ c, m.getLast? = some c → Unicode.isSpace c = false) (hm : m ≠ []) :
    Txt.strip x = ⟨m.toArray⟩ := by
  unfold Txt.strip
  rw [stripBy_eq]
  have hx : x.length = s1.length + m.length + s2.length := by
    show x.cps.size = _
    rw [← Array.length_toList, e]
    simp only [List.length_append]
  have lo : stripLo Unicode.isSpace true x = s1.length := by
    simp only [stripLo, if_true]
    rw [e, List.append_assoc, takeW s1 (m ++ s2) h1 (fun c hc => hh c (by
      cases m with
      | nil => exact absurd rfl hm
      | cons a l => exact hc))]
  have hi : stripHi Unicode.isSpace true x s1.length = s1.length + m.length := by
    simp only [stripHi, if_true]
    rw [e, List.append_assoc, List.drop_left, List.reverse_append, takeW s2.reverse m.reverse (fun c hc => h2 c (List.mem_reverse.mp hc)) (fun c hc => hl c (by rw [List.head?_reverse] at hc; exact hc)), List.length_reverse, hx]
    omega
  rw [lo, hi]
  refine str_ext ?_
  show (x.cps.extract s1.length (s1.length + m.length)).toList = m
  rw [Array.toList_extract, e]
  show ((s1 ++ m ++ s2).extract s1.length (s1.length + m.length)) = m
  rw [List.extract_eq_drop_take, List.append_assoc, List.drop_left, show s1.length + m.length - s1.length = m.length by omega, List.take_left]
/-! ### terms -/
def powT (e : Nat) : Str := if e = 1 then ("d" : Str) else ("d^" : Str) ++ tx e
def pieceT (c : Int) (e : Nat) : Str := if e = 0 then tx c.natAbs else if c.natAbs = 1 then powT e else tx c.natAbs ++ (" " : Str) ++ powT e
def frontT (first : Bool) (c : Int) : Str := if first then (if c < 0 then ("-" : Str) else ("" : Str)) else (if c < 0 then (" - " : Str) else (" + " : Str))
def goT (s : Str) : List (Int × Nat) → Str
  | [] => s
  | (c, e) :: l => goT (s ++ frontT (decide (s = Str.empty)) c ++ pieceT c e) l
/-- the terms that are not 0, the lowest first -/
def terms (r : List Int) : List (Int × Nat) := r.zipIdx.filter fun p => decide (p.1 ≠ 0)
def textT (r : List Int) : Str := if terms r = [] then ("0" : Str) else goT Str.empty (terms r).reverse
theorem goT_snoc : ∀ (l : List (Int × Nat)) (s : Str) (c : Int) (e : Nat), goT s (l ++ [(c, e)]) = goT s l ++ frontT (decide (goT s l = Str.empty)) c ++ pieceT c e
  | [], s, c, e => rfl
  | (a, b) :: l, s, c, e => by
    show goT (s ++ frontT (decide (s = Str.empty)) a ++ pieceT a b) (l ++ [(c, e)]) = _
    rw [goT_snoc l]
    rfl
theorem ink_d : Ink ("d" : Str) := by unfold Ink; decide +kernel
theorem ink_dh : Ink ("d^" : Str) := by unfold Ink; decide +kernel
theorem ink_pow (e : Nat) : Ink (powT e) := by
  unfold powT
  split
  · exact ink_d
  · exact ink_dh.app (ink_tx _)
theorem d_cps : ("d" : Str).cps.toList = [100] := by decide +kernel
theorem dh_cps : ("d^" : Str).cps.toList = [100, 94] := by decide +kernel
theorem sp_cps : (" " : Str).cps.toList = [32] := by decide +kernel
theorem e_cps : ("" : Str).cps.toList = [] := by decide +kernel
theorem pow_ne (e : Nat) : (powT e).cps.toList ≠ [] := by
  unfold powT
  split
  · rw [d_cps]; simp
  · rw [cps_app, dh_cps]; simp
theorem piece_ne (c : Int) (e : Nat) : (pieceT c e).cps.toList ≠ [] := by
  unfold pieceT
  split
  · exact tx_ne _
  · split
    · exact pow_ne _
    · rw [cps_app, cps_app, sp_cps]; simp
theorem low_lit_sp : Low (" " : Str) := by unfold Low; decide +kernel
theorem low_piece (c : Int) (e : Nat) : Low (pieceT c e) := by
  unfold pieceT
  split
  · exact (ink_tx _).low
  · split
    · exact (ink_pow _).low
    · exact ((ink_tx _).low.app low_lit_sp).app (ink_pow _).low
theorem low_front (b : Bool) (c : Int) : Low (frontT b c) := by
  unfold frontT
  split <;> split <;> (unfold Low; decide +kernel)
theorem low_goT : ∀ (l : List (Int × Nat)) (s : Str), Low s → Low (goT s l)
  | [], s, h => h
  | (c, e) :: l, s, h => low_goT l _ ((h.app (low_front _ _)).app (low_piece _ _))
theorem low_empty : Low Str.empty := fun c hc => by cases hc
theorem low_textT (r : List Int) : Low (textT r) := by
  unfold textT
  split
  · unfold Low; decide +kernel
  · exact low_goT _ _ low_empty
theorem app_ne {s t : Str} (h : t.cps.toList ≠ []) : s ++ t ≠ Str.empty := fun e => by
  have h2 := congrArg (fun x : Str => x.cps.toList) e
  simp only [cps_app] at h2
  have h3 : s.cps.toList ++ t.cps.toList = [] := h2
  exact h (List.append_eq_nil_iff.mp h3).2
theorem goT_ne : ∀ (l : List (Int × Nat)) (s : Str), s ≠ Str.empty → goT s l ≠ Str.empty
  | [], s, h => h
  | (c, e) :: l, s, h => goT_ne l _ (app_ne (piece_ne c e))
theorem goT_empty (l : List (Int × Nat)) : goT Str.empty l = Str.empty ↔ l = [] := by
  cases l with
  | nil => exact ⟨fun _ => rfl, fun _ => rfl⟩
  | cons p l =>
    obtain ⟨c, e⟩ := p
    refine ⟨fun h => absurd h (goT_ne l _ (app_ne (piece_ne c e))), fun h => by cases h⟩
/-! ### the word of the law -/
theorem tx_head {i : Int} : ∀ c, (tx i).cps.toList.head? = some c → Unicode.isSpace c = false := fun c hc => by
  have := ink_tx i c (List.mem_of_mem_head? hc)
  exact PySem.W.KXs.no_space c this.2 this.1
theorem ink_head {x : Str} (h : Ink x) : ∀ c, x.cps.toList.head? = some c → Unicode.isSpace c = false := fun c hc => by
  have := h c (List.mem_of_mem_head? hc)
  exact PySem.W.KXs.no_space c this.2 this.1
theorem ink_last {x : Str} (h : Ink x) : ∀ c, x.cps.toList.getLast? = some c → Unicode.isSpace c = false := fun c hc => by
  have := h c (List.mem_of_getLast? hc)
  exact PySem.W.KXs.no_space c this.2 this.1
theorem sp_space : ∀ c ∈ ([32] : List Nat), Unicode.isSpace c = true := by decide +kernel
def nameT (k : Nat) : Str := (if k > 0 then ("d" : Str) else ("" : Str)) ++ (if k > 1 then ("^" : Str) ++ tx k else ("" : Str))
def wordT (c : Int) (k : Nat) : Str := (if c.natAbs = 1 ∧ k > 0 then ("" : Str) else tx c.natAbs) ++ (" " : Str) ++ nameT k
theorem name0 : nameT 0 = ("" : Str) := by decide +kernel
theorem name_pow {k : Nat} (h : k > 0) : nameT k = powT k := by
  unfold nameT powT
  rw [if_pos h]
  by_cases h1 : k = 1
  · subst h1
    decide +kernel
  · rw [if_pos (by omega), if_neg h1, ← app_assoc]
    congr 1
theorem strip_word (c : Int) (k : Nat) : Txt.strip (wordT c k) = pieceT c k := by
  unfold wordT pieceT
  by_cases h0 : k = 0
  · subst h0
    rw [if_neg (by omega), if_pos rfl, name0]
    rw [strip_mid (s1 := []) (m := (tx c.natAbs).cps.toList) (s2 := [32]) (by rw [cps_app, cps_app, sp_cps, e_cps]; simp) (fun c hc => by cases hc) sp_space (ink_head (ink_tx _)) (ink_last (ink_tx _)) (tx_ne _)]
  · rw [name_pow (by omega), if_neg h0]
    by_cases h1 : c.natAbs = 1
    · rw [if_pos ⟨h1, by omega⟩, if_pos h1]
      rw [strip_mid (s1 := [32]) (m := (powT k).cps.toList) (s2 := []) (by rw [cps_app, cps_app, sp_cps, e_cps]; simp) sp_space (fun c hc => by cases hc) (ink_head (ink_pow _)) (ink_last (ink_pow _)) (pow_ne _)]
    · rw [if_neg (fun z => h1 z.1), if_neg h1]
      rw [strip_mid (x := tx c.natAbs ++ (" " : Str) ++ powT k) (s1 := []) (m := (tx c.natAbs ++ (" " : Str) ++ powT k).cps.toList) (s2 := []) (by simp) (fun c hc => by cases hc) (fun c hc => by cases hc) (fun d hd => ?_) (fun d hd => ?_) ?_]
      · rw [cps_app]
        intro z
        exact pow_ne k (List.append_eq_nil_iff.mp z).2
      · refine ink_head (ink_tx c.natAbs) d ?_
        rw [cps_app, cps_app] at hd
        cases e : (tx c.natAbs).cps.toList with
        | nil => exact absurd e (tx_ne _)
        | cons a l => rw [e] at hd; exact hd
      · refine ink_last (ink_pow k) d ?_
        rw [cps_app] at hd
        cases e : (powT k).cps.toList with
        | nil => exact absurd e (pow_ne _)
        | cons a l =>
          rw [e, List.getLast?_append] at hd
          simp only [List.getLast?_cons] at hd ⊢
          simpa using hd
/-! ### joins of pieces -/
theorem join_fold : ∀ (l : List Str) (acc : Array Nat), (⟨l.foldl (fun acc p => acc ++ (Str.empty).cps ++ p.cps) acc⟩ : Str) = ⟨acc⟩ ++ l.foldr (· ++ ·) Str.empty
  | [], acc => (app_empty _).symm
  | a :: l, acc => by
    rw [List.foldl_cons, join_fold l, List.foldr_cons, ← app_assoc]
    congr 1
theorem join0 (l : List Str) : Txt.join Str.empty l = l.foldr (· ++ ·) Str.empty := by
  cases l with
  | nil => rfl
  | cons a l =>
    show (⟨l.foldl (fun acc p => acc ++ (Str.empty).cps ++ p.cps) a.cps⟩ : Str) = _
    rw [join_fold]
    rfl
theorem foldr_snoc : ∀ (l : List Str) (x : Str), (l ++ [x]).foldr (· ++ ·) Str.empty = l.foldr (· ++ ·) Str.empty ++ x
  | [], x => by show x ++ Str.empty = Str.empty ++ x; rw [app_empty, empty_app]
  | a :: l, x => by
    rw [List.cons_append, List.foldr_cons, List.foldr_cons, foldr_snoc l x, app_assoc]
theorem join_snoc (l : List Str) (x : Str) : Txt.join Str.empty (l ++ [x]) = Txt.join Str.empty l ++ x := by
  rw [join0, join0, foldr_snoc]
/-! ### lengths -/
theorem lit_len {x : Str} {n : Nat} (h : x.length = n) : x.length ≤ n := Nat.le_of_eq h
theorem front_len (b : Bool) (c : Int) : (frontT b c).length ≤ 3 := by
  unfold frontT
  split <;> split <;> decide +kernel
theorem pow_len {e : Nat} (h : (tx e).length ≤ 2000) : (powT e).length ≤ 2002 := by
  unfold powT
  split
  · exact Nat.le_trans (m := 1) (by decide +kernel) (by omega)
  · rw [strLen_append]
    have : (("d^" : Str)).length = 2 := by decide +kernel
    omega
theorem piece_len {c : Int} {e : Nat} (h : (tx e).length ≤ 2000) (k : (tx c.natAbs).length ≤ 2000) : (pieceT c e).length ≤ 4003 := by
  unfold pieceT
  have hp := pow_len h
  split
  · omega
  · split
    · omega
    · rw [strLen_append, strLen_append]
      have : ((" " : Str)).length = 1 := by decide +kernel
      omega
theorem goT_len : ∀ (l : List (Int × Nat)) (s : Str), (∀ p ∈ l, (tx p.2).length ≤ 2000 ∧ (tx p.1.natAbs).length ≤ 2000) → (goT s l).length ≤ s.length + 4006 * l.length
  | [], s, _ => by show s.length ≤ _; omega
  | (c, e) :: l, s, h => by
    have ih := goT_len l (s ++ frontT (decide (s = Str.empty)) c ++ pieceT c e) fun p hp => h p (by simp [hp])
    have h1 := front_len (decide (s = Str.empty)) c
    have h2 : (pieceT c e).length ≤ 4003 := piece_len (h (c, e) (by simp)).1 (h (c, e) (by simp)).2
    rw [strLen_append, strLen_append] at ih
    show (goT (s ++ frontT (decide (s = Str.empty)) c ++ pieceT c e) l).length ≤ _
    rw [List.length_cons]
    omega
end TXM

namespace S71
open PySem L2 SR
def top (i : Nat) : Stmt := PySem.Challenge.pw_slotsums_k71_sign_runs.main.body.getD i (.Pass ⟨0, 0, 0, 0⟩)
abbrev sIsInt : Stmt := top 5
abbrev sAdded : Stmt := top 7
abbrev sMult : Stmt := top 8
abbrev sOpp : Stmt := top 9
abbrev sPInit : Stmt := inClass (top 13) 0
abbrev sPDeg : Stmt := inClass (top 13) 1
abbrev sPCoef : Stmt := inClass (top 13) 2
abbrev sPAt : Stmt := inClass (top 13) 3
abbrev sPAdd : Stmt := inClass (top 13) 4
abbrev sPSub : Stmt := inClass (top 13) 5
abbrev sPMul : Stmt := inClass (top 13) 6
abbrev sPNeg : Stmt := inClass (top 13) 7
abbrev sRowOf : Stmt := top 14
abbrev sSignAt : Stmt := top 15
abbrev sStepOf : Stmt := top 16
abbrev sFirst : Stmt := top 17
abbrev sRunsIn : Stmt := top 18
abbrev sJoined : Stmt := top 19
abbrev sOneSign : Stmt := top 20
abbrev sSignRuns : Stmt := top 21
abbrev sIPInit : Stmt := inClass (top 3) 0
abbrev sPRepr : Stmt := inClass (top 13) 10
abbrev sRng : Stmt := top 23
abbrev sDraw : Stmt := top 24
abbrev sChoice : Stmt := top 25
abbrev sLSign : Stmt := top 26
abbrev sFactor : Stmt := top 27
abbrev sPoly : Stmt := top 28
abbrev sLSignAt : Stmt := top 29
abbrev sPlaces : Stmt := top 30
abbrev sDue : Stmt := top 31
abbrev sRefused : Stmt := top 32
abbrev sProduct : Stmt := top 33
abbrev sRight : Stmt := top 34
abbrev sLaw : Stmt := top 35

/-! ### heaps -/
theorem sNew {H H1 : Hp} {p : Addr} {o : HO} (s : Same H H1) (n : H1 p = none) : Same H (upd H1 p o) := fun b x e => by
  have h := s b x e
  rw [upd_ne (ne_of_none h n)]
  exact h
theorem sPut {H H1 : Hp} {p : Addr} {o : HO} (s : Same H H1) (n : H p = none) : Same H (upd H1 p o) := fun b x e => by
  rw [upd_ne (ne_of_none e n)]
  exact s b x e
theorem old {H : Hp} {p q : Addr} {o x : HO} (h : H q = some x) (n : H p = none) : upd H p o q = some x := by
  rw [upd_ne (ne_of_none h n)]; exact h
theorem sTup {K : PySem.W.Frag} {H H' : Hp} {a : Addr} {xs : List V} (e : Same H H') (h : SqT K H a xs) : SqT K H' a xs := by
  rcases h with (h | ⟨o, h⟩) | h
  · exact .inl (.inl (e _ _ h))
  · exact .inl (.inr ⟨o, e _ _ h⟩)
  · exact .inr h
/-- a list or a tuple of integers -/
def RowIs (K : PySem.W.Frag) (H : Hp) (a : Addr) (r : List Int) : Prop := SqL K H a (r.map V.int) ∨ SqT K H a (r.map V.int)
theorem RowIs.same {K : PySem.W.Frag} {H H' : Hp} {a : Addr} {r : List Int} (e : Same H H') (h : RowIs K H a r) : RowIs K H' a r := h.imp (e.seq) (sTup e)
theorem lt_line {n : Nat} (h : n ≤ 2000000) : n < sizeLine := Nat.lt_of_le_of_lt h (by decide)
theorem le_line {n : Nat} (h : n ≤ 2000000) : n ≤ sizeLine := Nat.le_trans h (by decide)
theorem map_get {α : Type} {l : List α} {f : α → V} {i : Nat} {y : V} (h : (l.map f)[i]? = some y) : ∃ a, l[i]? = some a ∧ y = f a := by
  rw [List.getElem?_map] at h
  cases e : l[i]? with
  | none => rw [e] at h; cases h
  | some a => rw [e] at h; exact ⟨a, rfl, (Option.some.inj h).symm⟩
theorem take_succ_map {α : Type} {l : List α} {f : α → V} {i : Nat} {a : α} (h : l[i]? = some a) : (l.take i).map f ++ [f a] = (l.take (i + 1)).map f := by
  rw [List.take_add_one, h]; simp

/-! ### made instances: without arguments, by a star alone -/
section
variable {X : Cx} {CX : CXT} {k : Nat} {f C : Addr} {sp : Sp} {E : XK} {x : Str} {e : Expr} {te : TE} {p pos sp_ : Pos}
theorem pe_makeR0 (M : Mk X.K C f) (F : FnR X.prog X.w X.K X.mg X.base CX k f sp) (hr : Room (k + 1) X.A) (hg : Gl X x) (hm : X.mg x = some (.ref C)) (hx : Passes CX X E) (hdb : (x == ("__debug__" : Str)) = false := by decide) :
    PE X (.Call (.Name x p) [] [] pos) (StX.tMakeR C sp E tNil) := by
  refine ⟨fun pins s σ H Q I h => ?_⟩
  refine wpAny_Call_Name_kw (ld_glob I hg hm ?_ hdb)
  exact PySem.W.callWith_K0 I.kIn M.kp (StX.run_makeR (us := []) M F hr hx I .nil h)
def tMakeS (K : PySem.W.Frag) (C : Addr) (sp : Sp) (E : XK) (te : TE) : TE := fun σ H Q => te σ H fun y H1 => ∃ a xs, y = V.ref a ∧ (SqT K H1 a xs ∨ SqL K H1 a xs) ∧ ∀ x dx, H1 x = Option.none → H1 dx = Option.none → dx ≠ x →
  sp (V.ref x :: xs) (upd (upd H1 dx (.own x)) x (.ins C dx [])) (fun v H2 => v = .non ∧ Q (.ref x) H2) E
theorem pe_makeS (M : Mk X.K C f) (F : FnR X.prog X.w X.K X.mg X.base CX k f sp) (hr : Room (k + 1) X.A) (hg : Gl X x) (hm : X.mg x = some (.ref C)) (hx : Passes CX X E) (he : PE X e te) (hdb : (x == ("__debug__" : Str)) = false := by decide)
    (hst : starEach [.Starred e sp_] X.env = [(true, eval e X.env)] := by rfl) : PE X (.Call (.Name x p) [.Starred e sp_] [] pos) (tMakeS X.K C sp E te) := by
  refine ⟨fun pins s σ H Q I h => ?_⟩
  refine wpAny_Call_Name_kw (ld_glob I hg hm ?_ hdb)
  refine PySem.W.callWith_S (h₀ := X.base) I.ok.mod.kin M.kp (thn (he.run pins s σ H _ I h) fun v s1 ⟨y, H1, I1, ry, a, xs, ey, hxs, q⟩ => ?_) hst
  subst ey
  obtain rfl : v = Value.ref a := ry
  exact StX.star_any I1 hxs fun us s2 I2 rv => ⟨I2.kIn, StX.run_makeR M F hr hx I2 rv q⟩
theorem PE.imp {e : Expr} {t t' : TE} (h : PE X e t) (i : ∀ σ H Q, t' σ H Q → t σ H Q) : PE X e t' := ⟨fun pins s σ H Q I q => h.run pins s σ H Q I (i σ H Q q)⟩
end

/-! ### the built-in names -/
structure Bn (mg : Str → Option Value) : Prop where
  isi : mg "isinstance" = none
  int : mg "int" = none
  bool : mg "bool" = none
  len : mg "len" = none
  list : mg "list" = none
  max : mg "max" = none
  min : mg "min" = none
  sum : mg "sum" = none
  zip : mg "zip" = none
  range : mg "range" = none
  tuple : mg "tuple" = none
  enum : mg "enumerate" = none
  any : mg "any" = none
  all : mg "all" = none
  abs : mg "abs" = none
  divmod : mg "divmod" = none
  str : mg "str" = none
  repr : mg "repr" = none
  set : mg "set" = none
  sorted : mg "sorted" = none
/-- a def of the module by its name -/
structure Df (P : Program) (w : World) (K : PySem.W.Frag) (mg : Str → Option Value) (base : Heap) (x : Str) (ps : List Str) (k : Nat) (sp : Sp) : Prop where
  ex : ∃ f fd, mg x = some (.ref f) ∧ PySem.W.keepIn K (.ref f) = true ∧ Binds K fd ps [] ∧ FnOk P w K mg base CX0 k f fd ps sp
theorem pe_df {X : Cx} {x : Str} {ps : List Str} {k : Nat} {sp : Sp} {e : Expr} {es : List Expr} {t : TA} {p pos : Pos} (D : Df X.prog X.w X.K X.mg X.base x ps k sp) (hr : Room k X.A) (hg : Gl X x) (ha : PA X (e :: es) t)
    (hdb : (x == ("__debug__" : Str)) = false := by decide) (hst : starEach (e :: es) X.env = (false, eval e X.env) :: starEach es X.env := by rfl) (hpl : (backTo pos (starEach es X.env)).any (·.1) = false := by rfl) :
    PE X (.Call (.Name x p) (e :: es) [] pos) (tCall sp [] E0 t) := by
  obtain ⟨f, fd, hm, kp, b, F⟩ := D.ex
  exact pe_call F hr hg hm kp b .nil pass0 ha (hdb := hdb) (he := hst) (hpl := hpl)

section
variable {P : Program} {w : World} {K : PySem.W.Frag} {mg : Str → Option Value} {base : Heap}
/-! ### is_integer -/
def spIsInt : Sp := fun vs H Q _ => ∃ i : Int, vs = [.int i] ∧ Q (.bl true) H
theorem scIsInt : FnScope ["value"] ["value"] (defScope sIsInt) := ⟨rfl, rfl, rfl, by decide +kernel, rfl, by decide +kernel, by decide +kernel⟩
theorem ok_isInt {f : Addr} {fd : FuncData} (F : Fun K "is_integer" "is_integer" sIsInt f fd) (T : Bn mg) : FnOk P w K mg base CX0 1 f fd ["value"] spIsInt := by
  refine F.ok scIsInt (fun vs H Q E h => ?_) (fun cdv A outer s H vs Q E hr h => ?_)
  · obtain ⟨i, rfl, _⟩ := h
    rfl
  · obtain ⟨i, rfl, q⟩ := h
    refine ⟨_, pss_one (ps_ret (pe_and (pe_callB call_isi (by rfl) T.isi (by decide +kernel) (pa_cons (pv 0) (pa_cons (pe_bltn (v := .ty "int") (by rfl) T.int (by decide +kernel) rfl) pa_nil)))
      (pe_one (pe_not (pe_callB call_isi (by rfl) T.isi (by decide +kernel) (pa_cons (pv 0) (pa_cons (pe_bltn (v := .ty "bool") (by rfl) T.bool (by decide +kernel) rfl) pa_nil))))))), ?_⟩
    refine ⟨_, rfl, _, _, _, _, true, rfl, .ty "int", .base (.int i), kit_ty (by decide +kernel), true, rfl, iteT ?_⟩
    exact ⟨_, rfl, _, _, _, _, false, rfl, .ty "bool", .base (.int i), kit_ty (by decide +kernel), false, rfl, q⟩
/-! ### opposite_row -/
def spOpp (K : PySem.W.Frag) : Sp := fun vs H Q _ => ∃ (a : Addr) (r : List Int), vs = [.ref a] ∧ SqT K H a (r.map V.int) ∧ r.length ≤ 1000 ∧ ∀ H' p, Same H H' → H p = none → H' p = some (.lst ((oppR r).map V.int)) → Q (.ref p) H'
theorem scOpp : FnScope ["row", "one"] ["row"] (defScope sOpp) := ⟨rfl, rfl, rfl, by decide +kernel, rfl, by decide +kernel, by decide +kernel⟩
theorem ok_opp {f : Addr} {fd : FuncData} (F : Fun K "opposite_row" "opposite_row" sOpp f fd) (T : Bn mg) : FnOk P w K mg base CX0 1 f fd ["row"] (spOpp K) := by
  refine F.ok scOpp (fun vs H Q E h => ?_) (fun cdv A outer s H vs Q E hr h => ?_)
  · obtain ⟨a, r, rfl, _⟩ := h
    rfl
  · obtain ⟨a, r, rfl, hr1, hlen, q⟩ := h
    refine ⟨_, pss_one (ps_ret (pe_lc (own := [("one", 1)]) (g := gName 1) (tt := tYes) (by rfl) scOpp.nd (pi_tup (pv 0)) (blkOk_by (own := [("one", 1)]) (N := ["row", "one"]) (sc := defScope sOpp) (by decide +kernel))
      (fun _ _ _ _ _ => pg_name (i := 1) scOpp.nd rfl (Or.inl rfl)) (fun _ _ _ _ _ => pts_nil) (fun _ _ _ _ _ => pe_op op_sub pe_int (pv 1)))), ?_⟩
    refine ⟨_, rfl, a, rfl, ⟨_, hr1⟩, fun D hD => ?_⟩
    refine lc_it (walk_tup (K := K) (a := a) (xs := r.map V.int)) (fun i H' => Same H H' ∧ H' D = some (.lst (((oppR r).take i).map V.int))) ⟨sNew (Same.refl H) hD, upd_same⟩ (fun i H' _ h => sTup h.1 hr1) ?_ ?_
    · rintro i x H' _ hi ⟨s1, h1⟩ ⟨rfl, hx⟩
      obtain ⟨z, hz, rfl⟩ := map_get hx
      refine ⟨rfl, _, rfl, _, _, rfl, rfl, _, h1, ?_, sPut s1 hD, ?_⟩
      · have : i < r.length := by simpa using hi
        simp only [List.length_map, List.length_take]
        exact lt_line (by omega)
      · rw [upd_same]
        congr 2
        refine take_succ_map ?_
        unfold oppR
        rw [List.getElem?_map, hz]; rfl
    · rintro H' ⟨s1, h1⟩
      refine q H' D s1 hD ?_
      rw [h1]
      congr 3
      unfold oppR
      rw [List.take_of_length_le]
      simp
end
end S71

namespace S71
open PySem L2 SR
theorem rep_flat (n : Nat) : (List.replicate n [V.int 0]).flatten = (List.replicate n (0 : Int)).map V.int := by
  induction n with
  | zero => rfl
  | succ n ih => rw [List.replicate_succ, List.flatten_cons, ih, List.replicate_succ]; rfl
section
variable {P : Program} {w : World} {K : PySem.W.Frag} {mg : Str → Option Value} {base : Heap}
/-! ### added_rows -/
def spAdded (K : PySem.W.Frag) : Sp := fun vs H Q _ => ∃ (a b : Addr) (r q : List Int), vs = [.ref a, .ref b] ∧ RowIs K H a r ∧ RowIs K H b q ∧ r.length ≤ 100 ∧ q.length ≤ 100 ∧
  ∀ H' p, Same H H' → H p = none → H' p = some (.lst ((addR r q).map V.int)) → Q (.ref p) H'
abbrev nAdded : List Str := ["one", "other", "wide", "first", "second", "left", "right"]
theorem scAdded : FnScope nAdded ["one", "other"] (defScope sAdded) := ⟨rfl, rfl, rfl, by decide +kernel, rfl, by decide +kernel, by decide +kernel⟩
theorem ok_added {f : Addr} {fd : FuncData} (F : Fun K "added_rows" "added_rows" sAdded f fd) (T : Bn mg) : FnOk P w K mg base CX0 1 f fd ["one", "other"] (spAdded K) := by
  refine F.ok scAdded (fun vs H Q E h => ?_) (fun cdv A outer s H vs Q E hr h => ?_)
  · obtain ⟨a, b, r, q, rfl, _⟩ := h
    rfl
  · obtain ⟨a, b, r, q, rfl, ha, hb, lr, lq, k⟩ := h
    refine ⟨_, pss_cons (ps_set (i := 2) scAdded.nd rfl (Or.inl rfl) (pe_callB (call_max2 rfl) (by rfl) T.max (by decide +kernel) (pa_cons (pe_callB call_len_seq (by rfl) T.len PySem.boot_len (pa_cons (pv 0) pa_nil))
        (pa_cons (pe_callB call_len_seq (by rfl) T.len PySem.boot_len (pa_cons (pv 1) pa_nil)) pa_nil))))
      (pss_cons (ps_par (i := 3) (j := 4) (by rfl) scAdded.nd rfl rfl (by decide) rfl rfl
        (pa_cons (pe_op op_cat (pe_callTy call_list_of (by rfl) T.list (by decide +kernel) (pa_cons (pv 0) pa_nil)) (pe_op op_rep (pe_lst (pa_cons pe_int pa_nil)) (pe_op op_sub (pv 2) (pe_callB call_len_seq (by rfl) T.len PySem.boot_len (pa_cons (pv 0) pa_nil)))))
        (pa_cons (pe_op op_cat (pe_callTy call_list_of (by rfl) T.list (by decide +kernel) (pa_cons (pv 1) pa_nil)) (pe_op op_rep (pe_lst (pa_cons pe_int pa_nil)) (pe_op op_sub (pv 2) (pe_callB call_len_seq (by rfl) T.len PySem.boot_len (pa_cons (pv 1) pa_nil))))) pa_nil)) (by rfl))
      (pss_one (ps_ret (pe_lc (own := [("left", 5), ("right", 6)]) (g := gTup K 2 (gCons (gName 5) (gCons (gName 6) gNil))) (tt := tYes) (by rfl) scAdded.nd (pi_zip (by rfl) T.zip (pa_cons (pv 3) (pa_cons (pv 4) pa_nil)))
        (blkOk_by (own := [("left", 5), ("right", 6)]) (N := nAdded) (sc := defScope sAdded) (by decide +kernel))
        (fun _ _ _ _ _ => pg_tup rfl (pgs_cons (pg_name (i := 5) scAdded.nd rfl (Or.inl rfl)) (pgs_cons (pg_name (i := 6) scAdded.nd rfl (Or.inl rfl)) pgs_nil))) (fun _ _ _ _ _ => pts_nil) (fun _ _ _ _ _ => pe_op op_add (pv 5) (pv 6)))))), ?_⟩
    refine ⟨_, rfl, a, _, rfl, ha, _, rfl, b, _, rfl, hb, _, _, rfl, ?_⟩
    have hw : (if (((q.map V.int).length : Nat) : Int) > (((r.map V.int).length : Nat) : Int) then (((q.map V.int).length : Nat) : Int) else (((r.map V.int).length : Nat) : Int)) = ((max r.length q.length : Nat) : Int) := by
      simp only [List.length_map]; split <;> omega
    rw [hw]
    -- first
    refine ⟨_, rfl, a, _, rfl, ha, fun l1 h1 => ?_⟩
    have s1 : Same H (upd H l1 (.lst (r.map V.int))) := sNew (Same.refl H) h1
    refine ⟨(by show 1 ≤ sizeLine; decide), fun l2 h2 => ?_⟩
    have s2 := sNew (o := .lst [V.int 0]) s1 h2
    refine ⟨_, rfl, _, rfl, a, _, rfl, ha.same s2, _, _, rfl, rfl, ?_⟩
    have hk : (((max r.length q.length : Nat) : Int) - (((r.map V.int).length : Nat) : Int)) = ((max r.length q.length - r.length : Nat) : Int) := by rw [List.length_map]; omega
    refine ⟨l2, _, _, rfl, congrArg V.int hk, upd_same, by omega, by omega, by rw [Int.toNat_natCast]; exact le_line (by show 1 * _ ≤ _; omega), fun l3 h3 => ?_⟩
    rw [Int.toNat_natCast, rep_flat]
    have s3 := sNew (o := .lst ((List.replicate (max r.length q.length - r.length) (0 : Int)).map V.int)) s2 h3
    refine ⟨l1, l3, r.map V.int, _, rfl, rfl, old (old upd_same h2) h3, upd_same, le_line (by simp only [List.length_map, List.length_replicate]; omega), fun l4 h4 => ?_⟩
    rw [← List.map_append]
    have s4 := sNew (o := .lst ((r ++ List.replicate (max r.length q.length - r.length) (0 : Int)).map V.int)) s3 h4
    -- second
    refine ⟨_, rfl, b, _, rfl, hb.same s4, fun m1 g1 => ?_⟩
    have t1 := sNew (o := .lst (q.map V.int)) s4 g1
    refine ⟨(by show 1 ≤ sizeLine; decide), fun m2 g2 => ?_⟩
    have t2 := sNew (o := .lst [V.int 0]) t1 g2
    refine ⟨_, rfl, _, rfl, b, _, rfl, hb.same t2, _, _, rfl, rfl, ?_⟩
    have hk2 : (((max r.length q.length : Nat) : Int) - (((q.map V.int).length : Nat) : Int)) = ((max r.length q.length - q.length : Nat) : Int) := by rw [List.length_map]; omega
    refine ⟨m2, _, _, rfl, congrArg V.int hk2, upd_same, by omega, by omega, by rw [Int.toNat_natCast]; exact le_line (by show 1 * _ ≤ _; omega), fun m3 g3 => ?_⟩
    rw [Int.toNat_natCast, rep_flat]
    have t3 := sNew (o := .lst ((List.replicate (max r.length q.length - q.length) (0 : Int)).map V.int)) t2 g3
    refine ⟨m1, m3, q.map V.int, _, rfl, rfl, old (old upd_same g2) g3, upd_same, le_line (by simp only [List.length_map, List.length_replicate]; omega), fun m4 g4 => ?_⟩
    rw [← List.map_append]
    have t4 := sNew (o := .lst ((q ++ List.replicate (max r.length q.length - q.length) (0 : Int)).map V.int)) t3 g4
    refine ⟨_, _, rfl, ?_⟩
    -- the sums
    generalize hH4 : upd (upd (upd (upd (upd (upd (upd (upd H l1 (HO.lst (r.map V.int))) l2 _) l3 _) l4 _) m1 _) m2 _) m3 _) m4 _ = H4 at t4 ⊢
    have hL4 : SqL K H4 l4 ((r ++ List.replicate (max r.length q.length - r.length) (0 : Int)).map V.int) := by
      rw [← hH4]; exact SqL.of (old (old (old (old upd_same g1) g2) g3) g4)
    have hM4 : SqL K H4 m4 ((q ++ List.replicate (max r.length q.length - q.length) (0 : Int)).map V.int) := by
      rw [← hH4]; exact SqL.of upd_same
    refine ⟨_, rfl, _, rfl, l4, m4, _, _, rfl, hL4, hM4, fun D hD => ?_⟩
    have e := pad_add r q
    refine lc_it (walk_zip (K := K) (a := l4) (b := m4) (n := (addR r q).length) (by rw [len_addR]; simp only [List.length_map, List.length_append, List.length_replicate]; omega))
      (fun i H' => Same H4 H' ∧ H' D = some (.lst (((addR r q).take i).map V.int))) ⟨sNew (Same.refl H4) hD, upd_same⟩ (fun i H' _ h => ⟨h.1.seq hL4, h.1.seq hM4⟩) ?_ ?_
    · rintro i x H' _ hi ⟨u1, w1⟩ ⟨TT, x1, x2, rfl, hT, rfl, e1, e2⟩
      obtain ⟨z1, z1e, rfl⟩ := map_get e1
      obtain ⟨z2, z2e, rfl⟩ := map_get e2
      refine ⟨TT, _, rfl, .inl (.inl upd_same), rfl, _, _, rfl, _, _, rfl, rfl, rfl, ?_⟩
      refine ⟨_, rfl, _, rfl, _, _, rfl, rfl, _, old w1 hT, ?_, sPut (sNew u1 hT) hD, ?_⟩
      · rw [len_addR] at hi
        simp only [List.length_map, List.length_take]
        exact lt_line (by omega)
      · rw [upd_same]
        congr 2
        refine take_succ_map ?_
        rw [← e, List.getElem?_zipWith, z1e, z2e]
    · rintro H' ⟨u1, w1⟩
      refine k H' D (Same.trans t4 u1) (t4.free hD) ?_
      rw [w1, List.take_of_length_le (Nat.le_refl _)]
end
end S71

namespace S71
open PySem L2 SR
def lcScope : Expr → Scope
  | .ListComp _ _ sc _ => sc
  | _ => { kind := .function, names := [], isGenerator := false, isCoroutine := false }
def retE : Stmt → Expr
  | .Return (some e) _ => e
  | _ => .Constant .none 0 ⟨0, 0, 0, 0⟩
theorem getD_pad {r : List Int} {k i : Nat} (h : i < r.length + k) : (r ++ List.replicate k 0)[i]? = some (r.getD i 0) := by
  rw [List.getD_eq_getElem?_getD]
  by_cases hi : i < r.length
  · rw [List.getElem?_append_left hi, List.getElem?_eq_getElem hi]; rfl
  · rw [List.getElem?_append_right (by omega), List.getElem?_replicate, if_pos (by omega), List.getElem?_eq_none (by omega)]; rfl
section
variable {P : Program} {w : World} {K : PySem.W.Frag} {mg : Str → Option Value} {base : Heap}
/-! ### multiplied_rows -/
def spMult (K : PySem.W.Frag) : Sp := fun vs H Q _ => ∃ (a b : Addr) (r q : List Int) (n m : Nat), vs = [.ref a, .ref b] ∧ RowIs K H a r ∧ RowIs K H b q ∧ r.length ≤ 100 ∧ q.length ≤ 100 ∧ Bd n r ∧ Bd m q ∧ n ≤ 2000 ∧ m ≤ 2000 ∧
  ∀ H' p, Same H H' → H p = none → H' p = some (.lst ((mulR r q).map V.int)) → Q (.ref p) H'
abbrev nMult : List Str := ["one", "other", "first", "second", "at", "low"]
theorem scMult : FnScope nMult ["one", "other"] (defScope sMult) := ⟨rfl, rfl, rfl, by decide +kernel, rfl, by decide +kernel, by decide +kernel⟩
def tIn (K : PySem.W.Frag) : TE := tOp (rI CMulW fun i j => .int (i * j)) (tOp (rIxL K) (tVar 2) (tVar 5)) (tOp (rIxL K) (tVar 3) (tOp (rI0 fun i j => .int (i - j)) (tVar 4) (tVar 5)))
def tEl (K : PySem.W.Frag) : TE := tCB (rSum K) (tCons (tLc (iRng1 (tCons (tOp (rI0 fun i j => .int (i + j)) (tVar 4) (tC (.int 1))) tNil)) (gName 5) tYes (tIn K) [5]) tNil)
theorem ok_mult {f : Addr} {fd : FuncData} (F : Fun K "multiplied_rows" "multiplied_rows" sMult f fd) (T : Bn mg) : FnOk P w K mg base CX0 1 f fd ["one", "other"] (spMult K) := by
  refine F.ok scMult (fun vs H Q E h => ?_) (fun cdv A outer s H vs Q E hr h => ?_)
  · obtain ⟨a, b, r, q, n, m, rfl, _⟩ := h
    rfl
  · obtain ⟨a, b, r, q, n, m, rfl, ha, hb, lr, lq, br, bq, hn, hm, k⟩ := h
    refine ⟨_, pss_cons (ps_asg (pe_tup
        (pa_cons (pe_op op_cat (pe_callTy call_list_of (by rfl) T.list (by decide +kernel) (pa_cons (pv 0) pa_nil)) (pe_op op_rep (pe_lst (pa_cons pe_int pa_nil)) (pe_callB call_len_seq (by rfl) T.len PySem.boot_len (pa_cons (pv 1) pa_nil))))
        (pa_cons (pe_op op_cat (pe_callTy call_list_of (by rfl) T.list (by decide +kernel) (pa_cons (pv 1) pa_nil)) (pe_op op_rep (pe_lst (pa_cons pe_int pa_nil)) (pe_callB call_len_seq (by rfl) T.len PySem.boot_len (pa_cons (pv 0) pa_nil)))) pa_nil)))
        (pg_tup rfl (pgs_cons (pg_name (i := 2) scMult.nd rfl (Or.inr rfl)) (pgs_cons (pg_name (i := 3) scMult.nd rfl (Or.inr rfl)) pgs_nil))))
      (pss_one (ps_ret (pe_lc (own := [("at", 4)]) (g := gName 4) (tt := tYes) (te := tEl K) (by rfl) scMult.nd (pi_range1 (by rfl) T.range (pa_cons (pe_callB call_len_seq (by rfl) T.len PySem.boot_len (pa_cons (pv 2) pa_nil)) pa_nil))
        (blkOk_by (own := [("at", 4)]) (N := nMult) (sc := defScope sMult) (by decide +kernel))
        (fun _ _ _ _ _ => pg_name (i := 4) scMult.nd rfl (Or.inr rfl)) (fun _ _ _ _ _ => pts_nil)
        (fun _ _ _ _ _ => pe_callB (id := "sum") (r := rSum K) (cr_sum rfl) (by rfl) T.sum (by decide +kernel) (pa_cons
          (pe_lc (own := [("low", 5)]) (g := gName 5) (tt := tYes) (te := tIn K) (by rfl) scMult.nd (pi_range1 (by rfl) T.range (pa_cons (pe_op op_add (pv 4) pe_int) pa_nil))
            (blkOk_by (own := [("low", 5)]) (N := nMult) (sc := relS (lcScope (retE ((defBody sMult).getD 1 (.Pass ⟨0, 0, 0, 0⟩)))) (defScope sMult)) (by decide +kernel))
            (fun _ _ _ _ _ => pg_name (i := 5) scMult.nd rfl (Or.inl rfl)) (fun _ _ _ _ _ => pts_nil)
            (fun _ _ _ _ _ => pe_op op_mulW (pe_ix ix_list (pv 2) (pv 5) (fun _ _ => rfl)) (pe_ix ix_list (pv 3) (pe_op op_sub (pv 4) (pv 5)) (fun _ _ => rfl))))
          pa_nil))))), ?_⟩
    -- first
    refine ⟨_, rfl, a, _, rfl, ha, fun l1 h1 => ?_⟩
    have s1 : Same H (upd H l1 (.lst (r.map V.int))) := sNew (Same.refl H) h1
    refine ⟨(by show 1 ≤ sizeLine; decide), fun l2 h2 => ?_⟩
    have s2 := sNew (o := .lst [V.int 0]) s1 h2
    refine ⟨_, rfl, b, _, rfl, hb.same s2, l2, _, _, rfl, rfl, upd_same, by omega, by rw [List.length_map]; omega, by rw [Int.toNat_natCast, List.length_map]; exact le_line (by show 1 * _ ≤ _; omega), fun l3 h3 => ?_⟩
    rw [Int.toNat_natCast, rep_flat, List.length_map]
    have s3 := sNew (o := .lst ((List.replicate q.length (0 : Int)).map V.int)) s2 h3
    refine ⟨l1, l3, r.map V.int, _, rfl, rfl, old (old upd_same h2) h3, upd_same, le_line (by simp only [List.length_map, List.length_replicate]; omega), fun l4 h4 => ?_⟩
    rw [← List.map_append]
    have s4 := sNew (o := .lst ((r ++ List.replicate q.length (0 : Int)).map V.int)) s3 h4
    -- second
    refine ⟨_, rfl, b, _, rfl, hb.same s4, fun m1 g1 => ?_⟩
    have t1 := sNew (o := .lst (q.map V.int)) s4 g1
    refine ⟨(by show 1 ≤ sizeLine; decide), fun m2 g2 => ?_⟩
    have t2 := sNew (o := .lst [V.int 0]) t1 g2
    refine ⟨_, rfl, a, _, rfl, ha.same t2, m2, _, _, rfl, rfl, upd_same, by omega, by rw [List.length_map]; omega, by rw [Int.toNat_natCast, List.length_map]; exact le_line (by show 1 * _ ≤ _; omega), fun m3 g3 => ?_⟩
    rw [Int.toNat_natCast, rep_flat, List.length_map]
    have t3 := sNew (o := .lst ((List.replicate r.length (0 : Int)).map V.int)) t2 g3
    refine ⟨m1, m3, q.map V.int, _, rfl, rfl, old (old upd_same g2) g3, upd_same, le_line (by simp only [List.length_map, List.length_replicate]; omega), fun m4 g4 => ?_⟩
    rw [← List.map_append]
    have t4 := sNew (o := .lst ((q ++ List.replicate r.length (0 : Int)).map V.int)) t3 g4
    refine ⟨(by show 2 ≤ sizeLine; decide), fun tt htt => ?_⟩
    have t5 := sNew (o := .tup [V.ref l4, V.ref m4]) t4 htt
    refine ⟨tt, _, rfl, .inl (.inl upd_same), rfl, _, _, rfl, _, _, rfl, rfl, ?_⟩
    generalize hH4 : upd (upd (upd (upd (upd (upd (upd (upd (upd H l1 (HO.lst (r.map V.int))) l2 _) l3 _) l4 _) m1 _) m2 _) m3 _) m4 _) tt _ = H4 at t5 ⊢
    have hL4 : SqL K H4 l4 ((r ++ List.replicate q.length (0 : Int)).map V.int) := by
      rw [← hH4]; exact SqL.of (old (old (old (old (old upd_same g1) g2) g3) g4) htt)
    have hM4 : SqL K H4 m4 ((q ++ List.replicate r.length (0 : Int)).map V.int) := by
      rw [← hH4]; exact SqL.of (old upd_same htt)
    clear hH4
    have hlen : ((r ++ List.replicate q.length (0 : Int)).map V.int).length = r.length + q.length := by simp
    refine ⟨_, rfl, l4, _, rfl, .inl hL4, _, rfl, by rw [hlen]; omega, by rw [hlen]; omega, fun D hD => ?_⟩
    rw [hlen, Int.toNat_natCast]
    refine lc_it (walk_range (lo := 0) (n := r.length + q.length)) (fun i H' => Same H4 H' ∧ H' D = some (.lst (((mulR r q).take i).map V.int))) ⟨sNew (Same.refl H4) hD, upd_same⟩ (fun _ _ _ _ => trivial) ?_ ?_
    · rintro i x _ H' hi ⟨u1, w1⟩ ⟨rfl, rfl⟩
      have hi' : ((0 : Int) + (i : Nat)) = ((i : Nat) : Int) := by omega
      refine ⟨rfl, _, rfl, _, _, rfl, rfl, _, rfl, by omega, by omega, fun D2 hD2 => ?_⟩
      have hn2 : ((0 : Int) + (i : Nat) + 1).toNat = i + 1 := by omega
      rw [hn2]
      refine lc_it (walk_range (lo := 0) (n := i + 1)) (fun j H'' => Same H' H'' ∧ H'' D2 = some (.lst ((((List.range (i + 1)).map fun low => r.getD low 0 * q.getD (i - low) 0).take j).map V.int))) ⟨sNew (Same.refl H') hD2, upd_same⟩ (fun _ _ _ _ => trivial) ?_ ?_
      · rintro j x _ H'' hj ⟨u2, w2⟩ ⟨rfl, rfl⟩
        refine ⟨rfl, _, rfl, _, rfl, l4, _, _, _, rfl, rfl, (Same.trans u1 u2).seq hL4, at_of (j := j) (by omega) (by rw [List.getElem?_map, getD_pad (by omega)]; rfl), ?_⟩
        refine ⟨_, rfl, _, rfl, _, rfl, _, _, rfl, rfl, m4, _, _, _, rfl, rfl, (Same.trans u1 u2).seq hM4, at_of (j := i - j) (by omega) (by rw [List.getElem?_map, getD_pad (by omega)]; rfl), ?_⟩
        refine ⟨_, _, rfl, rfl, wide_mul (a := n + 1) (b := m + 1) (Nat.lt_of_lt_of_le (br.getD j) (pow_mono (by omega))) (Nat.lt_of_lt_of_le (bq.getD _) (pow_mono (by omega))) (by omega) (by omega) (by omega), _, w2, ?_, sPut u2 hD2, ?_⟩
        · simp only [List.length_map, List.length_take, List.length_range]
          exact lt_line (by omega)
        · rw [upd_same]
          congr 2
          refine take_succ_map (f := V.int) ?_
          rw [List.getElem?_map, List.getElem?_range (by omega)]; rfl
      · rintro H'' ⟨u2, w2⟩
        rw [List.take_of_length_le (by simp)] at w2
        refine ⟨D2, _, rfl, SqL.of w2, _, u2 _ _ w1, ?_, sPut (Same.trans u1 u2) hD, ?_⟩
        · simp only [List.length_map, List.length_take, len_mulR]
          exact lt_line (by omega)
        · rw [upd_same]
          congr 2
          refine take_succ_map (f := V.int) ?_
          unfold mulR conv
          rw [List.getElem?_map, List.getElem?_range (by omega)]; rfl
    · rintro H' ⟨u1, w1⟩
      refine k H' D (Same.trans t5 u1) (t5.free hD) ?_
      rw [w1, List.take_of_length_le (by rw [len_mulR]; exact Nat.le_refl _)]
end
end S71

namespace S71
open PySem L2 SR
/-! ### data -/
def dRow (r : List Int) : PyData := .list (r.map .int)
def dTup (r : List Int) : PyData := .tuple (r.map .int)
theorem lay_ints (r : List Int) : PyData.canLayAll0 (r.map .int) = true := by
  induction r with
  | nil => rfl
  | cons a r ih => show (true && PyData.canLayAll0 (r.map .int)) = true; rw [ih]; rfl
theorem depth_ints (r : List Int) : PyData.depthAll (r.map .int) = 0 := by
  induction r with
  | nil => rfl
  | cons a r ih => show max 0 (PyData.depthAll (r.map .int)) = 0; rw [ih]; rfl
theorem sh_row (r : List Int) : SeqAt.shaped (dRow r) = true := by
  show (PyData.canLayAll0 (r.map .int) && decide (PyData.depthAll (r.map .int) + 1 ≤ 64)) = true
  rw [lay_ints, depth_ints]; rfl
theorem sh_tup (r : List Int) : SeqAt.shaped (dTup r) = true := by
  show (PyData.canLayAll0 (r.map .int) && decide (PyData.depthAll (r.map .int) + 1 ≤ 64)) = true
  rw [lay_ints, depth_ints]; rfl
theorem dp_ints {K : PySem.W.Frag} {H : Hp} : ∀ r : List Int, DpAll K H (r.map V.int) (r.map .int)
  | [] => .nil
  | a :: r => .cons (.int a) (dp_ints r)
theorem dp_row {K : PySem.W.Frag} {H : Hp} {a : Addr} {r : List Int} (h : SqL K H a (r.map V.int)) : Dp K H (.ref a) (dRow r) := .lst h (dp_ints r)
theorem dp_tup {K : PySem.W.Frag} {H : Hp} {a : Addr} {r : List Int} (h : SqT K H a (r.map V.int)) : Dp K H (.ref a) (dTup r) := .tup h (dp_ints r)
theorem row_nil (r : List Int) : PyData.eqv (dRow r) (dRow []) = decide (r = []) := by
  cases r with
  | nil => rfl
  | cons a r => rfl
theorem tup_nil (r : List Int) : PyData.eqv (dTup r) (dTup []) = decide (r = []) := by
  cases r with
  | nil => rfl
  | cons a r => rfl
/-! ### instances -/
abbrev oRow : Str := "own_row"
def PolyAt (C : Addr) (H : Hp) (p : Addr) (r : List Int) : Prop := ∃ dx t, H p = some (.ins C dx [(oRow, .ref t)]) ∧ H t = some (.tup (r.map V.int))
theorem PolyAt.same {C : Addr} {H H' : Hp} {p : Addr} {r : List Int} (s : Same H H') (h : PolyAt C H p r) : PolyAt C H' p r := by
  obtain ⟨dx, t, h1, h2⟩ := h
  exact ⟨dx, t, s _ _ h1, s _ _ h2⟩
/-- all but the object at x is as it was -/
def SameX (x : Addr) (H H' : Hp) : Prop := ∀ b o, b ≠ x → H b = some o → H' b = some o
structure Pc (K : PySem.W.Frag) (mg : Str → Option Value) (C : Addr) : Prop where
  cl : Cls K C
  nR : NoAttr K C oRow
  mgC : mg "Polynomial" = some (.ref C)
  ic : PySem.W.findIn K (.ref C) "__class__" = some (some (.builtin "object.__class__"))
  gt : PySem.W.specialIn K (.builtin "object.__class__") "__get__" = some (some (.builtin "getset_descriptor.__get__"))
  tk : PySem.W.takesIn K (.builtin "object.__class__") = some true
  mo : PySem.W.mroIn K C (.type "object") = some true
  sf : PySem.W.selfFirst K C = true
theorem atI_lastV (xs : List V) (v : V) : atI (xs ++ [v]) (-1) = some v := atI_last xs v
section
variable {P : Program} {w : World} {K : PySem.W.Frag} {mg : Str → Option Value} {base : Heap}
/-! ### Polynomial.__init__ -/
def spPInit (K : PySem.W.Frag) (C : Addr) : Sp := fun vs H Q _ => ∃ (x dx t : Addr) (r : List Int), vs = [.ref x, .ref t] ∧ H x = some (.ins C dx []) ∧ SqT K H t (r.map V.int) ∧ r.length ≤ 1000 ∧
  ∀ (H' : Hp) (c : List Int) (k : Nat) (u : Addr), r = c ++ List.replicate k 0 → Canon c → SameX x H H' → H' x = some (.ins C dx [(oRow, .ref u)]) → H' u = some (.tup (c.map V.int)) → Q .non H'
abbrev nPInit : List Str := ["self", "coefficients", "one", "found"]
theorem scPInit : FnScope nPInit (([("self" : Str)] : List Str) ++ [("coefficients" : Str)]) (defScope sPInit) := ⟨rfl, rfl, rfl, by decide +kernel, rfl, by decide +kernel, by decide +kernel⟩
theorem ok_pinit {f C : Addr} {fd : FuncData} (F : Fun K "__init__" "Polynomial.__init__" sPInit f fd) (T : Bn mg) (N : Pc K mg C) (DI : Df P w K mg base "is_integer" ["value"] 1 spIsInt) :
    FnR P w K mg base CX0 2 f (fun vs H Q E => ∃ ws rest, vs = ws ++ rest ∧ ws.length = (["self"] : List Str).length ∧ rest.length ≤ sizeLine ∧ ∀ p, H p = Option.none → spPInit K C (ws ++ [V.ref p]) (upd H p (.tup rest)) Q E) := by
  obtain ⟨oc, od, kV, doc, pm, an, cdv, ct, osl, rfl, lk, hcd⟩ := F.ex
  refine StX.fn_star (ps := ["self"]) (pv := "coefficients") lk hcd scPInit StX.cxUp_none (fun us rest hl => ?_) (fun A outer s H vs Q E hr h => ?_)
  · match us, rest, hl with
    | [u], [], _ => rfl
    | [u], a :: b, _ => rfl
  · obtain ⟨x, dx, t, r, rfl, hx, ht, hlen, k⟩ := h
    refine ⟨_, PSs.nox (pss_cons (ps_for PassesOwn.never rfl (pi_tup (pv 1)) (pg_name (i := 2) scPInit.nd rfl (Or.inl rfl)) (pss_one (ps_if (pt_not (pt_val (pe_df DI hr (by rfl) (pa_cons (pv 2) pa_nil)))) (pss_one ps_never) pss_nil)))
      (pss_cons (ps_set (i := 3) scPInit.nd rfl (Or.inl rfl) (pe_callTy call_list_of (by rfl) T.list (by decide +kernel) (pa_cons (pv 1) pa_nil)))
      (pss_cons (ps_while PassesOwn.never (PW.pt (pw_and (pt_cmpR (op_neD hr.units) (pv 3) (pe_lst pa_nil) (nomark _)) (pw_and1 (pt_cmpR op_eq (pe_ix ix_list (pv 3) (pe_un un_neg pe_int) (fun _ _ => rfl)) pe_int (nomark _)))))
        (pss_one (ps_expr (pe_bm0 PySem.F.plainAttrs_list PySem.F.slot_list_pop PySem.F.type_list_pop mt_pop (pv 3)))))
      (pss_one (ps_fld (pv 0) (pe_callTy call_tuple_of (by rfl) T.tuple (by decide +kernel) (pa_cons (pv 3) pa_nil)) rfl))))), ?_⟩
    refine ⟨_, rfl, t, rfl, ⟨_, ht⟩, for_it (walk_tup (K := K) (a := t) (xs := r.map V.int)) (fun i σ H' => H = H' ∧ ∃ v, σ = [some (.ref x), some (.ref t), v, none]) ⟨rfl, none, rfl⟩ (fun i σ H' _ h => h.1 ▸ ht) ?_ ?_⟩
    · rintro i y σ _ _ hi ⟨rfl, v, rfl⟩ ⟨rfl, hy⟩
      obtain ⟨z, hz, rfl⟩ := map_get hy
      refine ⟨_, rfl, z, rfl, true, rfl, ?_⟩
      exact ⟨rfl, _, rfl⟩
    · rintro σ _ ⟨rfl, v, rfl⟩
      refine ⟨_, rfl, t, _, rfl, .inr ht, fun l hl => ?_⟩
      have hxl : x ≠ l := ne_of_none hx hl
      refine ⟨fun m σ H' => ∃ c : List Int, m = c.length ∧ σ = [some (.ref x), some (.ref t), v, some (.ref l)] ∧ (∃ k, r = c ++ List.replicate k 0) ∧ Same H H' ∧ H' l = some (.lst (c.map V.int)), ⟨r.length, r, rfl, rfl, ⟨0, by simp⟩, sNew (Same.refl H) hl, upd_same⟩, ?_⟩
      rintro m σ H1 ⟨c, rfl, rfl, ⟨k0, hk0⟩, s1, h1⟩
      refine ⟨_, rfl, Nat.zero_le _, fun l2 hl2 => ?_⟩
      have s2 := sNew (o := .lst []) s1 hl2
      refine ⟨dRow c, dRow [], dp_row (SqL.of (old h1 hl2)), dp_row (r := []) (SqL.of upd_same), sh_row _, sh_row _, _, rfl, ?_⟩
      rw [row_nil]
      by_cases hc : c = []
      · subst hc
        refine iteF ?_
        refine ⟨_, rfl, l, _, rfl, .inl ⟨SqL.of (old h1 hl2), fun u hu => ?_⟩⟩
        refine ⟨_, rfl, x, C, dx, [], rfl, old (s2 _ _ hx) hu, N.cl, N.nR, (by show 0 < 1000; decide), ?_⟩
        refine k _ [] k0 u hk0 (by simp [Canon]) (fun b o hb e => ?_) upd_same ?_
        · rw [upd_ne hb]; exact old (s2 _ _ e) hu
        · rw [upd_ne (fun (e : u = x) => ?_), upd_same]
          rw [e, s2 _ _ hx] at hu; cases hu
      · rw [decide_eq_false hc]
        refine iteT ?_
        obtain ⟨d, z, rfl⟩ : ∃ d z, c = d ++ [z] := ⟨c.dropLast, c.getLast hc, (List.dropLast_concat_getLast hc).symm⟩
        have h1' : H1 l = some (.lst (d.map V.int ++ [V.int z])) := by rw [h1]; simp
        refine ⟨_, rfl, _, rfl, l, _, _, _, rfl, rfl, SqL.of (old h1' hl2), atI_lastV _ _, rfl, _, rfl, ?_⟩
        by_cases hz : z = 0
        · subst hz
          rw [decide_eq_true rfl]
          refine iteT ?_
          refine ⟨fun σ' H' => ∃ c : List Int, c.length < (d ++ [(0 : Int)]).length ∧ σ' = [some (.ref x), some (.ref t), v, some (.ref l)] ∧ (∃ k, r = c ++ List.replicate k 0) ∧ Same H H' ∧ H' l = some (.lst (c.map V.int)), fun σ' H' ⟨c, h2, h3, h4, h5, h6⟩ => ⟨_, h2, c, rfl, h3, h4, h5, h6⟩, ?_⟩
          refine ⟨_, rfl, .inl ⟨rfl, _, SqL.of (old h1' hl2)⟩, l, _, V.int 0, rfl, rfl, old h1' hl2, (by simp), ?_⟩
          refine ⟨d, by simp, rfl, ⟨k0 + 1, ?_⟩, sPut s2 hl, ?_⟩
          · rw [hk0, List.append_assoc, List.replicate_succ]; rfl
          · rw [upd_same, List.dropLast_concat]
        · rw [decide_eq_false (fun e => hz (V.int.inj e))]
          refine iteF ?_
          refine ⟨_, rfl, l, _, rfl, .inl ⟨SqL.of ((old h1 hl2)), fun u hu => ?_⟩⟩
          refine ⟨_, rfl, x, C, dx, [], rfl, old (s2 _ _ hx) hu, N.cl, N.nR, (by show 0 < 1000; decide), ?_⟩
          refine k _ (d ++ [z]) k0 u hk0 (by simp [Canon, hz]) (fun b o hb e => ?_) upd_same ?_
          · rw [upd_ne hb]; exact old (s2 _ _ e) hu
          · rw [upd_ne (fun (e : u = x) => ?_), upd_same]
            rw [e, s2 _ _ hx] at hu; cases hu
end
end S71

namespace S71
open PySem L2 SR
theorem sgn_int (x : Int) : ((if decide (x > 0) = true then 1 else 0) - (if decide (x < 0) = true then 1 else 0) : Int) = sgn x := by
  unfold sgn
  by_cases h : x > 0
  · have h2 : ¬ x < 0 := by omega
    simp [h, h2]
  · by_cases h2 : x < 0
    · simp [h, h2]
    · simp [h, h2]
section
variable {P : Program} {w : World} {K : PySem.W.Frag} {mg : Str → Option Value} {base : Heap}
/-! ### a polynomial is made -/
def spStar (K : PySem.W.Frag) (C : Addr) : Sp := fun vs H Q E => ∃ ws rest, vs = ws ++ rest ∧ ws.length = (["self"] : List Str).length ∧ rest.length ≤ sizeLine ∧ ∀ p, H p = Option.none → spPInit K C (ws ++ [V.ref p]) (upd H p (.tup rest)) Q E
def Made (C : Addr) (H1 : Hp) (r : List Int) (Q : VK) : Prop := r.length ≤ 1000 ∧ ∀ (H' : Hp) (p : Addr) (c : List Int) (k : Nat), Same H1 H' → H1 p = none → PolyAt C H' p c → r = c ++ List.replicate k 0 → Canon c → Q (.ref p) H'
theorem made_sp {C : Addr} {H1 : Hp} {r : List Int} {Q : VK} {E : XK} (h : Made C H1 r Q) (x dx : Addr) (hx : H1 x = none) (hdx : H1 dx = none) (ne : dx ≠ x) :
    spStar K C (V.ref x :: r.map V.int) (upd (upd H1 dx (.own x)) x (.ins C dx [])) (fun v H2 => v = .non ∧ Q (.ref x) H2) E := by
  obtain ⟨hl, k⟩ := h
  refine ⟨[.ref x], r.map V.int, rfl, rfl, le_line (by rw [List.length_map]; omega), fun p hp => ?_⟩
  have npx : p ≠ x := fun e => by rw [e, upd_same] at hp; cases hp
  have npd : p ≠ dx := fun e => by rw [e, upd_ne ne, upd_same] at hp; cases hp
  have hp0 : H1 p = none := by rw [upd_ne npx, upd_ne npd] at hp; exact hp
  refine ⟨x, dx, p, r, rfl, ?_, .inl (.inl upd_same), hl, fun H' c k' u hr hc sx hx' hu => ⟨rfl, ?_⟩⟩
  · rw [upd_ne npx.symm, upd_same]
  · refine k H' x c k' (fun b o e => ?_) hx ⟨dx, u, hx', hu⟩ hr hc
    have nbx : b ≠ x := ne_of_none e hx
    have nbd : b ≠ dx := ne_of_none e hdx
    have nbp : b ≠ p := ne_of_none e hp0
    exact sx b o nbx (by rw [upd_ne nbp, upd_ne nbx, upd_ne nbd]; exact e)
/-- Polynomial(e, ..) -/
def tPoly (C : Addr) (t : TA) : TE := fun σ H Q => t σ H fun vs H1 => ∃ r : List Int, vs = r.map V.int ∧ Made C H1 r Q
/-- Polynomial(*e) -/
def tPolyS (K : PySem.W.Frag) (C : Addr) (te : TE) : TE := fun σ H Q => te σ H fun y H1 => ∃ a r, y = V.ref a ∧ SqL K H1 a (r.map V.int) ∧ Made C H1 r Q
structure PMk (P : Program) (w : World) (K : PySem.W.Frag) (mg : Str → Option Value) (base : Heap) (C : Addr) : Prop where
  pc : Pc K mg C
  ex : ∃ f, Mk K C f ∧ FnR P w K mg base CX0 2 f (spStar K C)
section
variable {X : Cx} {C : Addr} {e : Expr} {es : List Expr} {t : TA} {te : TE} {p pos sp_ : Pos}
theorem mono_TA {X : Cx} {es : List Expr} {t : TA} (h : PA X es t) : PA X es t := h
theorem pe_poly0 (M : PMk X.prog X.w X.K X.mg X.base C) (hr : Room 3 X.A) (hg : Gl X "Polynomial") : PE X (.Call (.Name "Polynomial" p) [] [] pos) (fun _ H Q => Made C H [] Q) := by
  obtain ⟨f, mk, F⟩ := M.ex
  refine PE.imp (pe_makeR0 (E := E0) mk F hr hg M.pc.mgC pass0) fun σ H Q h => ?_
  exact fun x dx hx hdx ne => made_sp (r := []) h x dx hx hdx ne
theorem pe_polyS (M : PMk X.prog X.w X.K X.mg X.base C) (hr : Room 3 X.A) (hg : Gl X "Polynomial") (he : PE X e te) (hm : ∀ σ H Q Q', (∀ y H1, Q y H1 → Q' y H1) → te σ H Q → te σ H Q')
    (hst : starEach [.Starred e sp_] X.env = [(true, eval e X.env)] := by rfl) : PE X (.Call (.Name "Polynomial" p) [.Starred e sp_] [] pos) (tPolyS X.K C te) := by
  obtain ⟨f, mk, F⟩ := M.ex
  refine PE.imp (pe_makeS (E := E0) mk F hr hg M.pc.mgC pass0 he (by decide) hst) fun σ H Q h => ?_
  refine hm σ H _ _ (fun y H1 q => ?_) h
  obtain ⟨a, r, rfl, hr, hq⟩ := q
  exact ⟨a, _, rfl, .inr hr, fun x dx hx hdx ne => made_sp hq x dx hx hdx ne⟩
theorem pe_poly (M : PMk X.prog X.w X.K X.mg X.base C) (hr : Room 3 X.A) (hg : Gl X "Polynomial") (ha : PA X (e :: es) t) (hm : ∀ σ H Q Q', (∀ y H1, Q y H1 → Q' y H1) → t σ H Q → t σ H Q')
    (he : starEach (e :: es) X.env = (false, eval e X.env) :: starEach es X.env := by rfl) (hpl : (backTo pos (starEach es X.env)).any (·.1) = false := by rfl) : PE X (.Call (.Name "Polynomial" p) (e :: es) [] pos) (tPoly C t) := by
  obtain ⟨f, mk, F⟩ := M.ex
  refine PE.imp (StX.pe_makeR (E := E0) mk F hr hg M.pc.mgC pass0 ha (by decide) he hpl) fun σ H Q h => ?_
  refine hm σ H _ _ (fun y H1 q => ?_) h
  obtain ⟨r, rfl, hq⟩ := q
  exact fun x dx hx hdx ne => made_sp hq x dx hx hdx ne
end
/-! ### its small methods -/
def spCoef (C : Addr) : Sp := fun vs H Q _ => ∃ (p : Addr) (r : List Int), vs = [.ref p] ∧ PolyAt C H p r ∧ ∀ t, H t = some (.tup (r.map V.int)) → Q (.ref t) H
theorem scCoef : FnScope ["self"] ["self"] (defScope sPCoef) := ⟨rfl, rfl, rfl, by decide +kernel, rfl, by decide +kernel, by decide +kernel⟩
theorem ok_coef {f C : Addr} {fd : FuncData} (F : Fun K "coefficients" "Polynomial.coefficients" sPCoef f fd) (N : Pc K mg C) : FnOk P w K mg base CX0 1 f fd ["self"] (spCoef C) := by
  refine F.ok scCoef (fun vs H Q E h => ?_) (fun cdv A outer s H vs Q E hr h => ?_)
  · obtain ⟨p, r, rfl, _⟩ := h
    rfl
  · obtain ⟨p, r, rfl, ⟨dx, t, h1, h2⟩, q⟩ := h
    refine ⟨_, pss_one (ps_ret (pe_fld (pv 0) rfl)), ?_⟩
    exact ⟨_, rfl, p, C, dx, _, _, rfl, h1, N.cl, N.nR, rfl, q t h2⟩
def spDeg (C : Addr) : Sp := fun vs H Q _ => ∃ (p : Addr) (r : List Int), vs = [.ref p] ∧ PolyAt C H p r ∧ Q (.int ((r.length : Int) - 1)) H
theorem scDeg : FnScope ["self"] ["self"] (defScope sPDeg) := ⟨rfl, rfl, rfl, by decide +kernel, rfl, by decide +kernel, by decide +kernel⟩
theorem ok_deg {f C : Addr} {fd : FuncData} (F : Fun K "degree" "Polynomial.degree" sPDeg f fd) (T : Bn mg) (N : Pc K mg C) : FnOk P w K mg base CX0 1 f fd ["self"] (spDeg C) := by
  refine F.ok scDeg (fun vs H Q E h => ?_) (fun cdv A outer s H vs Q E hr h => ?_)
  · obtain ⟨p, r, rfl, _⟩ := h
    rfl
  · obtain ⟨p, r, rfl, ⟨dx, t, h1, h2⟩, q⟩ := h
    refine ⟨_, pss_one (ps_ret (pe_op op_sub (pe_callB call_len_seq (by rfl) T.len PySem.boot_len (pa_cons (pe_fld (pv 0) rfl) pa_nil)) pe_int)), ?_⟩
    refine ⟨_, rfl, p, C, dx, _, _, rfl, h1, N.cl, N.nR, rfl, t, _, rfl, .inr (.inl (.inl h2)), _, _, rfl, rfl, ?_⟩
    rw [List.length_map]
    exact q
/-! ### at -/
def spAt (C : Addr) : Sp := fun vs H Q _ => ∃ (p : Addr) (r : List Int) (d : Int) (n m : Nat), vs = [.ref p, .int d] ∧ PolyAt C H p r ∧ Bd n r ∧ d.natAbs < 2 ^ m ∧ r.length ≤ 20 ∧ n ≤ 2000 ∧ m ≤ 2000 ∧ ∀ H', Same H H' → Q (.int (ev r d)) H'
abbrev nAt : List Str := ["self", "d", "found", "one"]
theorem scAt : FnScope nAt ["self", "d"] (defScope sPAt) := ⟨rfl, rfl, rfl, by decide +kernel, rfl, by decide +kernel, by decide +kernel⟩
theorem ev_drop {r : List Int} {i : Nat} {a x : Int} (h : r.reverse[i]? = some a) : ev (r.drop (r.length - (i + 1))) x = ev (r.drop (r.length - i)) x * x + a := by
  have hi : i < r.length := by
    have := (List.getElem?_eq_some_iff.mp h).1
    simpa using this
  rw [List.getElem?_reverse hi] at h
  have e : r.length - (i + 1) = r.length - 1 - i := by omega
  rw [e]
  obtain ⟨hj, e2⟩ := List.getElem?_eq_some_iff.mp h
  rw [List.drop_eq_getElem_cons hj, e2]
  show a + x * ev (r.drop (r.length - 1 - i + 1)) x = _
  rw [show r.length - 1 - i + 1 = r.length - i by omega, Int.mul_comm x, Int.add_comm]
theorem ok_at {f C : Addr} {fd : FuncData} (F : Fun K "at" "Polynomial.at" sPAt f fd) (T : Bn mg) (N : Pc K mg C) (DI : Df P w K mg base "is_integer" ["value"] 1 spIsInt) : FnOk P w K mg base CX0 2 f fd ["self", "d"] (spAt C) := by
  refine F.ok scAt (fun vs H Q E h => ?_) (fun cdv A outer s H vs Q E hr h => ?_)
  · obtain ⟨p, r, d, n, m, rfl, _⟩ := h
    rfl
  · obtain ⟨p, r, d, n, m, rfl, ⟨dx, t, h1, h2⟩, hn, hm, hl, ln, lm, q⟩ := h
    refine ⟨_, pss_cons (ps_if (pt_not (pt_val (pe_df DI hr (by rfl) (pa_cons (pv 1) pa_nil)))) (pss_one ps_never) pss_nil)
      (pss_cons (ps_set (i := 2) scAt.nd rfl (Or.inl rfl) pe_int)
      (pss_cons (ps_for PassesOwn.never rfl (pi_tup (pe_revT (pe_fld (pv 0) rfl))) (pg_name (i := 3) scAt.nd rfl (Or.inl rfl)) (pss_one (ps_set (i := 2) scAt.nd rfl (Or.inl rfl) (pe_op op_add (pe_op op_mulW (pv 2) (pv 1)) (pv 3)))))
      (pss_one (ps_ret (pv 2))))), ?_⟩
    refine ⟨_, rfl, d, rfl, true, rfl, ?_⟩
    refine ⟨_, rfl, p, C, dx, _, _, rfl, h1, N.cl, N.nR, rfl, t, _, rfl, .inl (.inl h2), fun u hu => ?_⟩
    have s1 := sNew (o := .tup (r.map V.int).reverse) (Same.refl H) hu
    refine ⟨u, rfl, ⟨_, .inl (.inl upd_same)⟩, for_it (walk_tup (K := K) (a := u) (xs := (r.map V.int).reverse)) (fun i σ H' => upd H u (.tup (r.map V.int).reverse) = H' ∧ ∃ v, σ = [some (.ref p), some (.int d), some (.int (ev (r.drop (r.length - i)) d)), v]) ⟨rfl, none, ?_⟩ (fun i σ H' _ h => h.1 ▸ .inl (.inl upd_same)) ?_ ?_⟩
    · rw [Nat.sub_zero, List.drop_length]; rfl
    · rintro i y σ _ _ hi ⟨rfl, v, rfl⟩ ⟨rfl, hy⟩
      rw [← List.map_reverse] at hy
      obtain ⟨z, hz, rfl⟩ := map_get hy
      have hb : Bd n (r.drop (r.length - i)) := fun a ha => hn a (List.mem_of_mem_drop ha)
      have hbd := ev_bd hm hb
      have hi' : i < r.length := by simpa using hi
      refine ⟨_, rfl, _, rfl, _, _, rfl, rfl, wide_mul (a := 50000) (b := 3000) (Nat.lt_of_lt_of_le hbd (pow_mono ?_)) (Nat.lt_of_lt_of_le hm (pow_mono (by omega))) (by omega) (by omega) (by omega), _, rfl, _, _, rfl, rfl, ?_⟩
      · rw [List.length_drop]
        have h3 : (r.length - (r.length - i)) * (m + 1) ≤ 20 * 2001 := Nat.mul_le_mul (by omega) (by omega)
        omega
      · refine ⟨rfl, some (.int z), ?_⟩
        rw [ev_drop hz]; rfl
    · rintro σ _ ⟨rfl, v, rfl⟩
      refine ⟨_, rfl, ?_⟩
      have e : r.length - (r.map V.int).reverse.length = 0 := by simp
      rw [e, List.drop_zero]
      exact q _ s1
end
end S71

namespace S71
open PySem L2 SR
section
variable {P : Program} {w : World} {K : PySem.W.Frag} {mg : Str → Option Value} {base : Heap}
structure PCl (P : Program) (w : World) (K : PySem.W.Frag) (mg : Str → Option Value) (base : Heap) (C : Addr) : Prop where
  pm : PMk P w K mg base C
  coef : ∃ f fd, Meth K C "coefficients" f ∧ Binds K fd ["self"] [] ∧ FnOk P w K mg base CX0 1 f fd ["self"] (spCoef C)
  at_ : ∃ f fd, Meth K C "at" f ∧ Binds K fd ["self", "d"] [] ∧ FnOk P w K mg base CX0 2 f fd ["self", "d"] (spAt C)
  deg : ∃ p g fd, PropOf K C "degree" p g ∧ Binds K fd ["self"] [] ∧ FnOk P w K mg base CX0 1 g fd ["self"] (spDeg C)
/-! ### row_of -/
theorem scRowOf : FnScope ["value"] ["value"] (defScope sRowOf) := ⟨rfl, rfl, rfl, by decide +kernel, rfl, by decide +kernel, by decide +kernel⟩
theorem kit_self {K : PySem.W.Frag} {C : Addr} : PySem.W.kitOne K (.ref C) (.ref C) = some true := by
  unfold PySem.W.kitOne
  rw [if_pos (by simp)]
theorem ok_rowOf {f C : Addr} {fd : FuncData} (F : Fun K "row_of" "row_of" sRowOf f fd) (T : Bn mg) (N : PCl P w K mg base C) : FnOk P w K mg base CX0 2 f fd ["value"] (spCoef C) := by
  refine F.ok scRowOf (fun vs H Q E h => ?_) (fun cdv A outer s H vs Q E hr h => ?_)
  · obtain ⟨p, r, rfl, _⟩ := h
    rfl
  · obtain ⟨p, r, rfl, hp, q⟩ := h
    obtain ⟨g, gd, gm, gb, G⟩ := N.coef
    obtain ⟨dx, t, h1, h2⟩ := id hp
    refine ⟨_, pss_cons (ps_if (pt_not (pt_val (pe_callB call_isi (by rfl) T.isi (by decide +kernel) (pa_cons (pv 0) (pa_cons (pe_glob (v := .ref C) (by rfl) N.pm.pc.mgC rfl) pa_nil))))) (pss_one ps_never) pss_nil)
      (pss_one (ps_ret (pe_meth0 (pv 0) N.pm.pc.cl gm G hr gb .nil pass0))), ?_⟩
    refine ⟨_, rfl, _, _, _, _, true, rfl, .own C, .base (.ins h1 N.pm.pc.cl N.pm.pc.ic N.pm.pc.gt N.pm.pc.tk N.pm.pc.mo), kit_self, true, rfl, ?_⟩
    exact ⟨_, rfl, p, dx, _, rfl, h1, rfl, p, r, rfl, hp, q⟩
/-! ### sign_at -/
def spSignAt (C : Addr) : Sp := fun vs H Q _ => ∃ (p : Addr) (r : List Int) (d : Int) (n m : Nat), vs = [.ref p, .int d] ∧ PolyAt C H p r ∧ Bd n r ∧ d.natAbs < 2 ^ m ∧ r.length ≤ 20 ∧ n ≤ 2000 ∧ m ≤ 2000 ∧ ∀ H', Same H H' → Q (.int (sgn (ev r d))) H'
abbrev nSignAt : List Str := ["polynomial", "d", "found"]
theorem scSignAt : FnScope nSignAt ["polynomial", "d"] (defScope sSignAt) := ⟨rfl, rfl, rfl, by decide +kernel, rfl, by decide +kernel, by decide +kernel⟩
theorem ok_signAt {f C : Addr} {fd : FuncData} (F : Fun K "sign_at" "sign_at" sSignAt f fd) (T : Bn mg) (N : PCl P w K mg base C) : FnOk P w K mg base CX0 3 f fd ["polynomial", "d"] (spSignAt C) := by
  refine F.ok scSignAt (fun vs H Q E h => ?_) (fun cdv A outer s H vs Q E hr h => ?_)
  · obtain ⟨p, r, d, n, m, rfl, _⟩ := h
    rfl
  · obtain ⟨p, r, d, n, m, rfl, hp, hn, hm, hl, ln, lm, q⟩ := h
    obtain ⟨g, gd, gm, gb, G⟩ := N.at_
    obtain ⟨dx, t, h1, h2⟩ := id hp
    refine ⟨_, pss_cons (ps_set (i := 2) scSignAt.nd rfl (Or.inl rfl) (pe_meth (pv 0) N.pm.pc.cl gm G hr gb .nil pass0 (pa_cons (pv 1) pa_nil)))
      (pss_one (ps_ret (pe_op op_sub (pe_callTy call_int1 (by rfl) T.int (by decide +kernel) (pa_cons (pe_cmpR op_gt (pv 2) pe_int (nomark _)) pa_nil)) (pe_callTy call_int1 (by rfl) T.int (by decide +kernel) (pa_cons (pe_cmpR op_lt (pv 2) pe_int (nomark _)) pa_nil))))), ?_⟩
    refine ⟨_, rfl, p, dx, _, rfl, h1, rfl, _, rfl, p, r, d, n, m, rfl, hp, hn, hm, hl, ln, lm, fun H' s' => ?_⟩
    refine ⟨_, rfl, _, _, rfl, rfl, .inr ⟨_, rfl, ?_⟩⟩
    refine ⟨_, rfl, _, _, rfl, rfl, .inr ⟨_, rfl, ?_⟩⟩
    refine ⟨_, _, rfl, rfl, ?_⟩
    have e := sgn_int (ev r d)
    have h3 := q H' s'
    rw [← e] at h3
    exact h3
/-! ### the operators -/
def spBin (C : Addr) (g : List Int → List Int → List Int) (pre : List Int → List Int → Prop) : Sp := fun vs H Q _ => ∃ (a b : Addr) (r q : List Int), vs = [.ref a, .ref b] ∧ PolyAt C H a r ∧ PolyAt C H b q ∧ r.length ≤ 100 ∧ q.length ≤ 100 ∧ pre r q ∧
  ∀ (H' : Hp) (p : Addr) (c : List Int) (k : Nat), Same H H' → H p = none → PolyAt C H' p c → g r q = c ++ List.replicate k 0 → Canon c → Q (.ref p) H'
def preM (r q : List Int) : Prop := ∃ n m, Bd n r ∧ Bd m q ∧ n ≤ 2000 ∧ m ≤ 2000
abbrev nOp : List Str := ["self", "other", "found"]
theorem scAdd : FnScope nOp ["self", "other"] (defScope sPAdd) := ⟨rfl, rfl, rfl, by decide +kernel, rfl, by decide +kernel, by decide +kernel⟩
theorem scSub : FnScope nOp ["self", "other"] (defScope sPSub) := ⟨rfl, rfl, rfl, by decide +kernel, rfl, by decide +kernel, by decide +kernel⟩
theorem scMul : FnScope nOp ["self", "other"] (defScope sPMul) := ⟨rfl, rfl, rfl, by decide +kernel, rfl, by decide +kernel, by decide +kernel⟩
theorem tVar_mono {i : Nat} (σ : St) (H : Hp) (Q Q' : VK) (h : ∀ y H1, Q y H1 → Q' y H1) (q : tVar i σ H Q) : tVar i σ H Q' := by
  obtain ⟨v, e, q⟩ := q
  exact ⟨v, e, h _ _ q⟩
theorem ok_add {f C : Addr} {fd : FuncData} (F : Fun K "__add__" "Polynomial.__add__" sPAdd f fd) (T : Bn mg) (N : PMk P w K mg base C) (DA : Df P w K mg base "added_rows" ["one", "other"] 1 (spAdded K)) (DR : Df P w K mg base "row_of" ["value"] 2 (spCoef C)) :
    FnOk P w K mg base CX0 4 f fd ["self", "other"] (spBin C addR fun _ _ => True) := by
  refine F.ok scAdd (fun vs H Q E h => ?_) (fun cdv A outer s H vs Q E hr h => ?_)
  · obtain ⟨a, b, r, q, rfl, _⟩ := h
    rfl
  · obtain ⟨a, b, r, q, rfl, ha, hb, lr, lq, _, k⟩ := h
    obtain ⟨dx, t, h1, h2⟩ := id ha
    refine ⟨_, pss_cons (ps_set (i := 2) scAdd.nd rfl (Or.inl rfl) (pe_df DA (hr.mono (by decide)) (by rfl) (pa_cons (pe_fld (pv 0) rfl) (pa_cons (pe_df DR (hr.mono (by decide)) (by rfl) (pa_cons (pv 1) pa_nil)) pa_nil))))
      (pss_one (ps_ret (pe_polyS N hr (by rfl) (pv 2) tVar_mono))), ?_⟩
    refine ⟨_, rfl, a, C, dx, _, _, rfl, h1, N.pc.cl, N.pc.nR, rfl, _, rfl, b, q, rfl, hb, fun u hu => ?_⟩
    refine ⟨t, u, r, q, rfl, .inr (.inl (.inl h2)), .inr (.inl (.inl hu)), lr, lq, fun H' p s' hp hp' => ?_⟩
    refine ⟨_, rfl, p, _, rfl, SqL.of hp', ?_, fun H2 p2 c j s2 hn hc he hcan => ?_⟩
    · rw [len_addR]; omega
    · exact k H2 p2 c j (Same.trans s' s2) (s'.free hn) hc he hcan
theorem ok_sub {f C : Addr} {fd : FuncData} (F : Fun K "__sub__" "Polynomial.__sub__" sPSub f fd) (T : Bn mg) (N : PMk P w K mg base C) (DA : Df P w K mg base "added_rows" ["one", "other"] 1 (spAdded K)) (DR : Df P w K mg base "row_of" ["value"] 2 (spCoef C))
    (DO : Df P w K mg base "opposite_row" ["row"] 1 (spOpp K)) : FnOk P w K mg base CX0 4 f fd ["self", "other"] (spBin C (fun r q => addR r (oppR q)) fun _ _ => True) := by
  refine F.ok scSub (fun vs H Q E h => ?_) (fun cdv A outer s H vs Q E hr h => ?_)
  · obtain ⟨a, b, r, q, rfl, _⟩ := h
    rfl
  · obtain ⟨a, b, r, q, rfl, ha, hb, lr, lq, _, k⟩ := h
    obtain ⟨dx, t, h1, h2⟩ := id ha
    refine ⟨_, pss_cons (ps_set (i := 2) scSub.nd rfl (Or.inl rfl) (pe_df DA (hr.mono (by decide)) (by rfl) (pa_cons (pe_fld (pv 0) rfl) (pa_cons (pe_df DO (hr.mono (by decide)) (by rfl) (pa_cons (pe_df DR (hr.mono (by decide)) (by rfl) (pa_cons (pv 1) pa_nil)) pa_nil)) pa_nil))))
      (pss_one (ps_ret (pe_polyS N hr (by rfl) (pv 2) tVar_mono))), ?_⟩
    refine ⟨_, rfl, a, C, dx, _, _, rfl, h1, N.pc.cl, N.pc.nR, rfl, _, rfl, b, q, rfl, hb, fun u hu => ?_⟩
    refine ⟨u, q, rfl, .inl (.inl hu), by omega, fun H0 o s0 ho ho' => ?_⟩
    refine ⟨t, o, r, oppR q, rfl, .inr (.inl (.inl (s0 _ _ h2))), .inl (SqL.of ho'), lr, by unfold oppR; rw [List.length_map]; exact lq, fun H' p s' hp hp' => ?_⟩
    refine ⟨_, rfl, p, _, rfl, SqL.of hp', ?_, fun H2 p2 c j s2 hn hc he hcan => ?_⟩
    · rw [len_addR]; unfold oppR; rw [List.length_map]; omega
    · exact k H2 p2 c j (Same.trans s0 (Same.trans s' s2)) (s0.free (s'.free hn)) hc he hcan
theorem ok_mul {f C : Addr} {fd : FuncData} (F : Fun K "__mul__" "Polynomial.__mul__" sPMul f fd) (T : Bn mg) (N : PMk P w K mg base C) (DM : Df P w K mg base "multiplied_rows" ["one", "other"] 1 (spMult K)) (DR : Df P w K mg base "row_of" ["value"] 2 (spCoef C)) :
    FnOk P w K mg base CX0 4 f fd ["self", "other"] (spBin C mulR preM) := by
  refine F.ok scMul (fun vs H Q E h => ?_) (fun cdv A outer s H vs Q E hr h => ?_)
  · obtain ⟨a, b, r, q, rfl, _⟩ := h
    rfl
  · obtain ⟨a, b, r, q, rfl, ha, hb, lr, lq, ⟨n, m, bn, bm, ln, lm⟩, k⟩ := h
    obtain ⟨dx, t, h1, h2⟩ := id ha
    refine ⟨_, pss_cons (ps_set (i := 2) scMul.nd rfl (Or.inl rfl) (pe_df DM (hr.mono (by decide)) (by rfl) (pa_cons (pe_fld (pv 0) rfl) (pa_cons (pe_df DR (hr.mono (by decide)) (by rfl) (pa_cons (pv 1) pa_nil)) pa_nil))))
      (pss_one (ps_ret (pe_polyS N hr (by rfl) (pv 2) tVar_mono))), ?_⟩
    refine ⟨_, rfl, a, C, dx, _, _, rfl, h1, N.pc.cl, N.pc.nR, rfl, _, rfl, b, q, rfl, hb, fun u hu => ?_⟩
    refine ⟨t, u, r, q, n, m, rfl, .inr (.inl (.inl h2)), .inr (.inl (.inl hu)), lr, lq, bn, bm, ln, lm, fun H' p s' hp hp' => ?_⟩
    refine ⟨_, rfl, p, _, rfl, SqL.of hp', ?_, fun H2 p2 c j s2 hn hc he hcan => ?_⟩
    · rw [len_mulR]; omega
    · exact k H2 p2 c j (Same.trans s' s2) (s'.free hn) hc he hcan
def spNeg (C : Addr) : Sp := fun vs H Q _ => ∃ (a : Addr) (r : List Int), vs = [.ref a] ∧ PolyAt C H a r ∧ r.length ≤ 100 ∧
  ∀ (H' : Hp) (p : Addr) (c : List Int) (k : Nat), Same H H' → H p = none → PolyAt C H' p c → oppR r = c ++ List.replicate k 0 → Canon c → Q (.ref p) H'
theorem scNeg : FnScope ["self", "found"] ["self"] (defScope sPNeg) := ⟨rfl, rfl, rfl, by decide +kernel, rfl, by decide +kernel, by decide +kernel⟩
theorem ok_neg {f C : Addr} {fd : FuncData} (F : Fun K "__neg__" "Polynomial.__neg__" sPNeg f fd) (T : Bn mg) (N : PMk P w K mg base C) (DO : Df P w K mg base "opposite_row" ["row"] 1 (spOpp K)) : FnOk P w K mg base CX0 4 f fd ["self"] (spNeg C) := by
  refine F.ok scNeg (fun vs H Q E h => ?_) (fun cdv A outer s H vs Q E hr h => ?_)
  · obtain ⟨a, r, rfl, _⟩ := h
    rfl
  · obtain ⟨a, r, rfl, ha, lr, k⟩ := h
    obtain ⟨dx, t, h1, h2⟩ := id ha
    refine ⟨_, pss_cons (ps_set (i := 1) scNeg.nd rfl (Or.inl rfl) (pe_df DO (hr.mono (by decide)) (by rfl) (pa_cons (pe_fld (pv 0) rfl) pa_nil)))
      (pss_one (ps_ret (pe_polyS N hr (by rfl) (pv 1) tVar_mono))), ?_⟩
    refine ⟨_, rfl, a, C, dx, _, _, rfl, h1, N.pc.cl, N.pc.nR, rfl, t, r, rfl, .inl (.inl h2), by omega, fun H' p s' hp hp' => ?_⟩
    refine ⟨_, rfl, p, _, rfl, SqL.of hp', ?_, fun H2 p2 c j s2 hn hc he hcan => ?_⟩
    · unfold oppR; rw [List.length_map]; omega
    · exact k H2 p2 c j (Same.trans s' s2) (s'.free hn) hc he hcan
end
end S71

namespace S71
open PySem L2 SR
section
variable {P : Program} {w : World} {K : PySem.W.Frag} {mg : Str → Option Value} {base : Heap}
/-! ### operators as rules -/
structure POp (P : Program) (w : World) (K : PySem.W.Frag) (mg : Str → Option Value) (base : Heap) (C : Addr) : Prop where
  pl : PCl P w K mg base C
  mul : ∃ g, PySem.W.findIn K (.ref C) "__mul__" = some (some (.ref g)) ∧ PySem.W.isFn K (.ref g) = true ∧ FnR P w K mg base CX0 4 g (spBin C mulR preM)
  add : ∃ g, PySem.W.findIn K (.ref C) "__add__" = some (some (.ref g)) ∧ PySem.W.isFn K (.ref g) = true ∧ FnR P w K mg base CX0 4 g (spBin C addR fun _ _ => True)
  sub : ∃ g, PySem.W.findIn K (.ref C) "__sub__" = some (some (.ref g)) ∧ PySem.W.isFn K (.ref g) = true ∧ FnR P w K mg base CX0 4 g (spBin C (fun r q => addR r (oppR q)) fun _ _ => True)
  neg : ∃ g, PySem.W.findIn K (.ref C) "__neg__" = some (some (.ref g)) ∧ PySem.W.isFn K (.ref g) = true ∧ FnR P w K mg base CX0 4 g (spNeg C)
def rPol (C : Addr) (g : List Int → List Int → List Int) (pre : List Int → List Int → Prop) : R2 := fun x y H Q => ∃ (a b : Addr) (r q : List Int), x = .ref a ∧ y = .ref b ∧ PolyAt C H a r ∧ PolyAt C H b q ∧ r.length ≤ 100 ∧ q.length ≤ 100 ∧ pre r q ∧
  ∀ (H' : Hp) (p : Addr) (c : List Int) (k : Nat), Same H H' → H p = none → PolyAt C H' p c → g r q = c ++ List.replicate k 0 → Canon c → Q (.ref p) H'
theorem OpR.imp {X : Cx} {f : Value → Value → Sem Value} {r r' : R2} (h : OpR X f r) (i : ∀ x y H Q, r' x y H Q → r x y H Q) : OpR X f r' := fun pins s σ H x y v u Q I rx ry q => h pins s σ H x y v u Q I rx ry (i x y H Q q)
theorem pol_own {C : Addr} {g : List Int → List Int → List Int} {pre : List Int → List Int → Prop} {E : XK} (x y : V) (H : Hp) (Q : VK) (h : rPol C g pre x y H Q) : rOwnB C (spBin C g pre) E x y H Q := by
  obtain ⟨a, b, r, q, rfl, rfl, ha, hb, l1, l2, hp, k⟩ := h
  obtain ⟨dx, t, h1, h2⟩ := id ha
  obtain ⟨dy, u, g1, g2⟩ := id hb
  exact ⟨a, dx, _, b, dy, _, rfl, rfl, h1, g1, a, b, r, q, rfl, ha, hb, l1, l2, hp, k⟩
theorem op_pmul {X : Cx} {C : Addr} (N : POp X.prog X.w X.K X.mg X.base C) (hr : Room 4 X.A) : OpR X (binaryOp .Mult) (rPol C mulR preM) := by
  obtain ⟨g, h1, h2, h3⟩ := N.mul
  exact OpR.imp (op_ownB (op := .Mult) (E := E0) N.pl.pm.pc.sf h1 h2 h3 hr pass0) pol_own
theorem op_padd {X : Cx} {C : Addr} (N : POp X.prog X.w X.K X.mg X.base C) (hr : Room 4 X.A) : OpR X (binaryOp .Add) (rPol C addR fun _ _ => True) := by
  obtain ⟨g, h1, h2, h3⟩ := N.add
  exact OpR.imp (op_ownB (op := .Add) (E := E0) N.pl.pm.pc.sf h1 h2 h3 hr pass0) pol_own
theorem op_psub {X : Cx} {C : Addr} (N : POp X.prog X.w X.K X.mg X.base C) (hr : Room 4 X.A) : OpR X (binaryOp .Sub) (rPol C (fun r q => addR r (oppR q)) fun _ _ => True) := by
  obtain ⟨g, h1, h2, h3⟩ := N.sub
  exact OpR.imp (op_ownB (op := .Sub) (E := E0) N.pl.pm.pc.sf h1 h2 h3 hr pass0) pol_own
def rPneg (C : Addr) : V → Hp → VK → Prop := fun x H Q => ∃ (a : Addr) (r : List Int), x = .ref a ∧ PolyAt C H a r ∧ r.length ≤ 100 ∧
  ∀ (H' : Hp) (p : Addr) (c : List Int) (k : Nat), Same H H' → H p = none → PolyAt C H' p c → oppR r = c ++ List.replicate k 0 → Canon c → Q (.ref p) H'
theorem un_pneg {X : Cx} {C : Addr} (N : POp X.prog X.w X.K X.mg X.base C) (hr : Room 4 X.A) : UnR X (unaryOp .USub) (rPneg C) := by
  obtain ⟨g, h1, h2, h3⟩ := N.neg
  intro pins s σ H x v Q I rx h
  obtain ⟨a, r, rfl, ha, l, k⟩ := h
  obtain ⟨dx, t, g1, g2⟩ := id ha
  exact un_own (E := E0) h1 h2 h3 hr pass0 pins s σ H _ v Q I rx ⟨a, dx, _, rfl, g1, a, r, rfl, ha, l, k⟩
theorem tCons1_mono {i : Nat} (σ : St) (H : Hp) (Q Q' : List V → Hp → Prop) (h : ∀ y H1, Q y H1 → Q' y H1) (q : tCons (tVar i) tNil σ H Q) : tCons (tVar i) tNil σ H Q' := by
  obtain ⟨v, e, q⟩ := q
  exact ⟨v, e, h _ _ q⟩
theorem tConst2_mono {a b : V} (σ : St) (H : Hp) (Q Q' : List V → Hp → Prop) (h : ∀ y H1, Q y H1 → Q' y H1) (q : tCons (tC a) (tCons (tC b) tNil) σ H Q) : tCons (tC a) (tCons (tC b) tNil) σ H Q' := h _ _ q
/-- of g r q = c ++ zeros -/
theorem row_ev {r c : List Int} {k : Nat} (e : r = c ++ List.replicate k 0) (x : Int) : ev c x = ev r x := by rw [e, ev_append_zeros]
theorem row_bd {r c : List Int} {k n : Nat} (e : r = c ++ List.replicate k 0) (h : Bd n r) : Bd n c := by rw [e] at h; exact h.append
/-! ### step_of -/
def spStep (C : Addr) : Sp := fun vs H Q _ => ∃ (p : Addr) (r : List Int) (n : Nat), vs = [.ref p] ∧ PolyAt C H p r ∧ Bd n r ∧ n ≤ 1500 ∧ r.length ≤ 11 ∧
  ∀ (H' : Hp) (p' : Addr) (c : List Int), Same H H' → H p' = none → PolyAt C H' p' c → Canon c → (∀ x, ev c x = ev r (x + 1) - ev r x) → Bd (n + 90) c → Q (.ref p') H'
abbrev nStep : List Str := ["polynomial", "found", "one"]
theorem scStep : FnScope nStep ["polynomial"] (defScope sStepOf) := ⟨rfl, rfl, rfl, by decide +kernel, rfl, by decide +kernel, by decide +kernel⟩
theorem bd_one1 : Bd 1 [1, 1] := fun a ha => by
  rcases List.mem_cons.mp ha with rfl | ha
  · decide
  · rcases List.mem_cons.mp ha with rfl | ha
    · decide
    · cases ha
theorem ok_step {f C : Addr} {fd : FuncData} (F : Fun K "step_of" "step_of" sStepOf f fd) (N : POp P w K mg base C) : FnOk P w K mg base CX0 5 f fd ["polynomial"] (spStep C) := by
  refine F.ok scStep (fun vs H Q E h => ?_) (fun cdv A outer s H vs Q E hr h => ?_)
  · obtain ⟨p, r, n, rfl, _⟩ := h
    rfl
  · obtain ⟨p, r, n, rfl, hp, hn, ln, hl, q⟩ := h
    obtain ⟨g, gd, gm, gb, G⟩ := N.pl.coef
    obtain ⟨dx, t, h1, h2⟩ := id hp
    have hr3 : Room 3 _ := hr.mono (by decide)
    refine ⟨_, pss_cons (ps_set (i := 1) scStep.nd rfl (Or.inl rfl) (pe_poly0 N.pl.pm hr3 (by rfl)))
      (pss_cons (ps_for PassesOwn.never rfl (pi_tup (pe_revT (pe_meth0 (pv 0) N.pl.pm.pc.cl gm G (hr.mono (by decide)) gb .nil pass0))) (pg_name (i := 2) scStep.nd rfl (Or.inl rfl))
        (pss_one (ps_set (i := 1) scStep.nd rfl (Or.inl rfl) (pe_op (op_padd N hr) (pe_op (op_pmul N hr) (pv 1) (pe_poly N.pl.pm hr3 (by rfl) (pa_cons pe_int (pa_cons pe_int pa_nil)) tConst2_mono)) (pe_poly N.pl.pm hr3 (by rfl) (pa_cons (pv 2) pa_nil) tCons1_mono)))))
      (pss_one (ps_ret (pe_op (op_psub N hr) (pv 1) (pv 0))))), ?_⟩
    refine ⟨Nat.zero_le _, fun H1 p1 c1 k1 s1 n1 hc1 e1 can1 => ?_⟩
    have ec1 : c1 = [] := by
      cases c1 with
      | nil => rfl
      | cons a b => cases e1
    subst ec1
    refine ⟨_, rfl, p, dx, _, rfl, s1 _ _ h1, rfl, p, r, rfl, hp.same s1, fun t' ht' => ?_⟩
    refine ⟨t', _, rfl, .inl (.inl ht'), fun u hu => ?_⟩
    have s2 := sNew (o := .tup (r.map V.int).reverse) s1 hu
    refine ⟨u, rfl, ⟨_, .inl (.inl upd_same)⟩, for_it (walk_tup (K := K) (a := u) (xs := (r.map V.int).reverse)) (fun i σ H' => Same (upd H1 u (.tup (r.map V.int).reverse)) H' ∧ ∃ v pf c, σ = [some (.ref p), some (.ref pf), v] ∧ PolyAt C H' pf c ∧ H pf = none ∧ Canon c ∧ (∀ x, ev c x = ev (r.drop (r.length - i)) (x + 1)) ∧ Bd (n + 7 * i) c)
      ⟨Same.refl _, none, p1, [], rfl, hc1.same (sNew (Same.refl _) hu), n1, (by simp [Canon]), fun x => by rw [Nat.sub_zero, List.drop_length]; rfl, fun a ha => by cases ha⟩ (fun i σ H' _ h => .inl (.inl (h.1 _ _ upd_same))) ?_ ?_⟩
    · rintro i y σ _ H' hi ⟨s3, v, pf, c, rfl, hc, npf, can, hev, hbd⟩ ⟨rfl, hy⟩
      rw [← List.map_reverse] at hy
      obtain ⟨z, hz, rfl⟩ := map_get hy
      have hi' : i < r.length := by simpa using hi
      have hlc : c.length ≤ i := by
        have h3 := canon_len (c := c) (q := shiftR (r.drop (r.length - i))) (N := 0) can (fun x _ => by rw [hev, ev_shiftR])
        rw [len_shiftR, List.length_drop] at h3
        omega
      refine ⟨_, rfl, ?_⟩
      refine ⟨[1, 1], rfl, (by decide), fun H4 p4 c4 k4 s4 n4 hc4 e4 can4 => ?_⟩
      have ec4 : c4 = [1, 1] := by
        cases k4 with
        | zero => simpa using e4.symm
        | succ k =>
          exfalso
          have : ([1, 1] : List Int).getLast? = some 0 := by
            rw [e4, List.replicate_succ']
            simp
          simp at this
      subst ec4
      refine ⟨pf, p4, c, [1, 1], rfl, rfl, hc.same s4, hc4, by omega, by decide, ⟨_, 1, hbd, bd_one1, by omega, by omega⟩, fun H5 p5 c5 k5 s5 n5 hc5 e5 can5 => ?_⟩
      refine ⟨_, rfl, [z], rfl, (by show 1 ≤ 1000; decide), fun H6 p6 c6 k6 s6 n6 hc6 e6 can6 => ?_⟩
      have hb5 : Bd (n + 7 * i + 1 + 5) c5 := row_bd e5 (Bd.mul hbd bd_one1 (by simp only [List.length_cons, List.length_nil]; omega))
      have hb6 : Bd n c6 := row_bd e6 (fun a ha => by
        rcases List.mem_cons.mp ha with rfl | ha
        · exact hn a (List.mem_reverse.mp (List.mem_of_getElem? hz))
        · cases ha)
      have hl5 : c5.length ≤ 100 := by
        have h3 : (mulR c [1, 1]).length = c5.length + k5 := by rw [e5]; simp
        rw [len_mulR] at h3
        simp only [List.length_cons, List.length_nil] at h3
        omega
      have hl6 : c6.length ≤ 100 := by
        have h3 : ([z] : List Int).length = c6.length + k6 := by rw [e6]; simp
        simp only [List.length_cons, List.length_nil] at h3
        omega
      refine ⟨p5, p6, c5, c6, rfl, rfl, hc5.same s6, hc6, hl5, hl6, trivial, fun H7 p7 c7 k7 s7 n7 hc7 e7 can7 => ?_⟩
      refine ⟨Same.trans s3 (Same.trans s4 (Same.trans s5 (Same.trans s6 s7))), _, p7, c7, rfl, hc7, ?_, can7, fun x => ?_, ?_⟩
      · exact (Same.trans s2 (Same.trans s3 (Same.trans s4 (Same.trans s5 s6)))).free n7
      · rw [row_ev e7, ev_addR, row_ev e5, row_ev e6, ev_mulR, hev, ev_drop hz]
        show ev (r.drop (r.length - i)) (x + 1) * (1 + x * (1 + x * 0)) + (z + x * 0) = _
        rw [show (1 + x * (1 + x * 0) : Int) = x + 1 by omega, show z + x * 0 = z by omega]
      · exact row_bd e7 (Bd.add (by omega) (by omega) hb5 hb6)
    · rintro σ H' ⟨s3, v, pf, c, rfl, hc, npf, can, hev, hbd⟩
      have e : r.length - (r.map V.int).reverse.length = 0 := by simp
      have e2 : (r.map V.int).reverse.length = r.length := by simp
      rw [e2] at hbd hev
      rw [Nat.sub_self, List.drop_zero] at hev
      have hlc : c.length ≤ r.length := by
        have h3 := canon_len (c := c) (q := shiftR r) (N := 0) can (fun x _ => by rw [hev, ev_shiftR])
        rw [len_shiftR] at h3
        exact h3
      refine ⟨_, rfl, _, rfl, pf, p, c, r, rfl, rfl, hc, hp.same (Same.trans s2 s3), by omega, by omega, trivial, fun H7 p7 c7 k7 s7 n7 hc7 e7 can7 => ?_⟩
      refine q H7 p7 c7 (Same.trans s2 (Same.trans s3 s7)) ((Same.trans s2 s3).free n7) hc7 can7 (fun x => ?_) ?_
      · rw [row_ev e7, ev_addR, ev_oppR, hev]; omega
      · refine Bd.mono (row_bd e7 (Bd.add (k := n + 88) (n := n + 7 * r.length) (m := n) (by omega) (by omega) hbd hn.opp)) (by omega)
end
end S71

namespace S71
open PySem L2 SR
/-! ### lists of pairs -/
def Tups (H : Hp) : List V → List (Int × Int) → Prop
  | [], [] => True
  | v :: vs, p :: ps => (∃ t, v = .ref t ∧ H t = some (.tup [.int p.1, .int p.2])) ∧ Tups H vs ps
  | _, _ => False
theorem Tups.same {H H' : Hp} (s : Same H H') : ∀ {vs : List V} {L : List (Int × Int)}, Tups H vs L → Tups H' vs L
  | [], [], _ => trivial
  | _ :: _, _ :: _, ⟨⟨t, e, h⟩, r⟩ => ⟨⟨t, e, s _ _ h⟩, Tups.same s r⟩
  | [], _ :: _, h => h.elim
  | _ :: _, [], h => h.elim
theorem Tups.len {H : Hp} : ∀ {vs : List V} {L : List (Int × Int)}, Tups H vs L → vs.length = L.length
  | [], [], _ => rfl
  | _ :: _, _ :: _, ⟨_, r⟩ => by rw [List.length_cons, List.length_cons, Tups.len r]
  | [], _ :: _, h => h.elim
  | _ :: _, [], h => h.elim
theorem Tups.append {H : Hp} : ∀ {vs ws : List V} {L M : List (Int × Int)}, Tups H vs L → Tups H ws M → Tups H (vs ++ ws) (L ++ M)
  | [], _, [], _, _, h => h
  | _ :: _, _, _ :: _, _, ⟨a, r⟩, h => ⟨a, Tups.append r h⟩
  | [], _, _ :: _, _, h, _ => h.elim
  | _ :: _, _, [], _, h, _ => h.elim
theorem Tups.get {H : Hp} : ∀ {vs : List V} {L : List (Int × Int)} {i : Nat} {v : V}, Tups H vs L → vs[i]? = some v → ∃ p t, L[i]? = some p ∧ v = .ref t ∧ H t = some (.tup [.int p.1, .int p.2])
  | [], [], i, v, _, e => by simp at e
  | x :: _, p :: _, 0, v, ⟨⟨t, h1, h2⟩, _⟩, e => by
    have e : x = v := Option.some.inj e
    exact ⟨p, t, rfl, e ▸ h1, h2⟩
  | _ :: vs, _ :: L, i + 1, v, ⟨_, r⟩, e => Tups.get (vs := vs) (L := L) (i := i) r e
  | [], _ :: _, _, _, h, _ => h.elim
  | _ :: _, [], _, _, h, _ => h.elim
theorem Tups.one {H : Hp} {t : Addr} {a b : Int} (h : H t = some (.tup [.int a, .int b])) : Tups H [.ref t] [(a, b)] := ⟨⟨t, rfl, h⟩, trivial⟩
def RunsAt (H : Hp) (l : Addr) (L : List (Int × Int)) : Prop := ∃ vs, H l = some (.lst vs) ∧ Tups H vs L
theorem RunsAt.same {H H' : Hp} {l : Addr} {L : List (Int × Int)} (s : Same H H') (h : RunsAt H l L) : RunsAt H' l L := by
  obtain ⟨vs, h1, h2⟩ := h
  exact ⟨vs, s _ _ h1, h2.same s⟩
def dPairs (L : List (Int × Int)) : PyData := .list (L.map fun p => .tuple [.int p.1, .int p.2])
theorem lay_pairs (L : List (Int × Int)) : PyData.canLayAll0 (L.map fun p => .tuple [.int p.1, .int p.2]) = true := by
  induction L with
  | nil => rfl
  | cons a r ih => show (true && PyData.canLayAll0 (r.map _)) = true; rw [ih]; rfl
theorem depth_pairs (L : List (Int × Int)) : PyData.depthAll (L.map fun p => .tuple [.int p.1, .int p.2]) ≤ 1 := by
  induction L with
  | nil => exact Nat.zero_le _
  | cons a r ih => show max 1 (PyData.depthAll (r.map _)) ≤ 1; omega
theorem sh_pairs (L : List (Int × Int)) : SeqAt.shaped (dPairs L) = true := by
  show (PyData.canLayAll0 (L.map _) && decide (PyData.depthAll (L.map _) + 1 ≤ 64)) = true
  rw [lay_pairs]
  exact decide_eq_true (by have := depth_pairs L; omega)
theorem dp_pairsAll {K : PySem.W.Frag} {H : Hp} : ∀ {vs : List V} {L : List (Int × Int)}, Tups H vs L → DpAll K H vs (L.map fun p => .tuple [.int p.1, .int p.2])
  | [], [], _ => .nil
  | _ :: _, _ :: _, ⟨⟨t, e, h⟩, r⟩ => by subst e; exact .cons (.tup (.inl (.inl h)) (.cons (.int _) (.cons (.int _) .nil))) (dp_pairsAll r)
  | [], _ :: _, h => h.elim
  | _ :: _, [], h => h.elim
theorem dp_pairs {K : PySem.W.Frag} {H : Hp} {l : Addr} {L : List (Int × Int)} (h : RunsAt H l L) : Dp K H (.ref l) (dPairs L) := by
  obtain ⟨vs, h1, h2⟩ := h
  exact .lst (SqL.of h1) (dp_pairsAll h2)
theorem eqv_pairs_nil (L : List (Int × Int)) : PyData.eqv (dPairs L) (dPairs []) = decide (L = []) := by
  cases L with
  | nil => rfl
  | cons a r => rfl
theorem eqv_pairs_self (L : List (Int × Int)) : PyData.eqv (dPairs L) (dPairs L) = true := SeqAt.eqv_refl _ (lay_pairs L)
section
variable {P : Program} {w : World} {K : PySem.W.Frag} {mg : Str → Option Value} {base : Heap}
/-- the tuples stand, if all but a list stands -/
theorem tups_but {H H' : Hp} {D : Addr} {xs : List V} (s : ∀ b o, b ≠ D → H b = some o → H' b = some o) (hD : H D = some (.lst xs)) : ∀ {vs : List V} {L : List (Int × Int)}, Tups H vs L → Tups H' vs L
  | [], [], _ => trivial
  | _ :: _, _ :: _, ⟨⟨t, e, h⟩, r⟩ => ⟨⟨t, e, s _ _ (fun z => by rw [z, hD] at h; cases h) h⟩, tups_but s hD r⟩
  | [], _ :: _, h => h.elim
  | _ :: _, [], h => h.elim
/-! ### joined_runs -/
def spJoined : Sp := fun vs H Q _ => ∃ (l : Addr) (L : List (Int × Int)), vs = [.ref l] ∧ RunsAt H l L ∧ L.length ≤ 600000 ∧ ∀ H' l', Same H H' → H l' = none → RunsAt H' l' (joined L) → Q (.ref l') H'
abbrev nJoined : List Str := ["runs", "found", "start", "sign"]
theorem scJoined : FnScope nJoined ["runs"] (defScope sJoined) := ⟨rfl, rfl, rfl, by decide +kernel, rfl, by decide +kernel, by decide +kernel⟩
theorem join_app {A : List (Int × Int)} {p : Int × Int} (h : ¬ A.getLast?.map (·.2) = some p.2) : joinStep A p = A ++ [p] := if_neg h
theorem join_keep {A : List (Int × Int)} {p : Int × Int} (h : A.getLast?.map (·.2) = some p.2) : joinStep A p = A := if_pos h
theorem join_len (L M : List (Int × Int)) : (M.foldl joinStep L).length ≤ L.length + M.length := by
  induction M generalizing L with
  | nil => simp
  | cons p r ih =>
    have h := ih (joinStep L p)
    have h2 : (joinStep L p).length ≤ L.length + 1 := by
      unfold joinStep; split
      · omega
      · simp
    simp only [List.foldl_cons, List.length_cons]; omega
theorem fold_take {L : List (Int × Int)} {i : Nat} {p : Int × Int} (h : L[i]? = some p) : (L.take (i + 1)).foldl joinStep [] = joinStep ((L.take i).foldl joinStep []) p := by
  rw [List.take_add_one, h, List.foldl_append]; rfl
theorem ok_joined {f : Addr} {fd : FuncData} (F : Fun K "joined_runs" "joined_runs" sJoined f fd) : FnOk P w K mg base CX0 1 f fd ["runs"] spJoined := by
  refine F.ok scJoined (fun vs H Q E h => ?_) (fun cdv A outer s H vs Q E hr h => ?_)
  · obtain ⟨l, L, rfl, _⟩ := h
    rfl
  · obtain ⟨l, L, rfl, hL, hlen, q⟩ := h
    obtain ⟨ws, hw, tw⟩ := id hL
    refine ⟨_, pss_cons (ps_set (i := 1) scJoined.nd rfl (Or.inl rfl) (pe_lst pa_nil))
      (pss_cons (ps_for PassesOwn.never rfl (pi_list (pv 0)) (pg_tup rfl (pgs_cons (pg_name (i := 2) scJoined.nd rfl (Or.inl rfl)) (pgs_cons (pg_name (i := 3) scJoined.nd rfl (Or.inl rfl)) pgs_nil)))
        (pss_one (ps_if (PW.pt (pw_or (pt_cmpR (op_eqD hr.units) (pv 1) (pe_lst pa_nil) (nomark _)) (pw_or1 (pt_cmpR op_ne (pe_ix ix_tup (pe_ix ix_list (pv 1) (pe_un un_neg pe_int) (fun _ _ => rfl)) pe_int (fun _ _ => rfl)) (pv 3) (nomark _)))))
          (pss_one (ps_expr (pe_bm PySem.F.plainAttrs_list PySem.F.slot_list_append PySem.F.type_list_append mt_append (pv 1) (pa_cons (pe_tup (pa_cons (pv 2) (pa_cons (pv 3) pa_nil))) pa_nil)))) pss_nil)))
      (pss_one (ps_ret (pv 1)))), ?_⟩
    refine ⟨Nat.zero_le _, fun D hD => ?_⟩
    refine ⟨_, rfl, l, rfl, ⟨_, SqL.of (old hw hD)⟩, for_it (walk_list (K := K) (a := l) (xs := ws)) (fun i σ H' => Same H H' ∧ RunsAt H' D ((L.take i).foldl joinStep []) ∧ ∃ u v, σ = [some (.ref l), some (.ref D), u, v])
      ⟨sNew (Same.refl H) hD, ⟨[], upd_same, trivial⟩, none, none, rfl⟩ (fun i σ H' _ h => SqL.of (h.1 _ _ hw)) ?_ ?_⟩
    · rintro i y σ _ H' hi ⟨s1, ⟨acc, a1, a2⟩, u, v, rfl⟩ ⟨rfl, hy⟩
      obtain ⟨p, t, hp, rfl, ht⟩ := tw.get hy
      have hil : i < L.length := (List.getElem?_eq_some_iff.mp hp).1
      have hfold := fold_take hp
      refine ⟨t, _, rfl, .inl (.inl (s1 _ _ ht)), rfl, _, _, rfl, _, _, rfl, rfl, ?_⟩
      refine ⟨_, rfl, Nat.zero_le _, fun l2 hl2 => ?_⟩
      refine ⟨_, _, dp_pairs ⟨acc, old a1 hl2, a2.same (sNew (Same.refl _) hl2)⟩, dp_pairs (L := []) ⟨[], upd_same, trivial⟩, sh_pairs _, sh_pairs _, _, rfl, ?_⟩
      rw [eqv_pairs_nil]
      by_cases hA : (L.take i).foldl joinStep [] = []
      · rw [decide_eq_true hA]
        refine iteT ?_
        refine ⟨_, rfl, .inl ⟨rfl, _, SqL.of (old a1 hl2)⟩, _, rfl, _, rfl, (by show 2 ≤ sizeLine; decide), fun tp htp => ?_⟩
        refine ⟨D, _, _, rfl, rfl, old (old a1 hl2) htp, ?_, ?_⟩
        · rw [a2.len]
          have h3 := join_len [] (L.take i)
          simp only [List.length_take, List.length_nil] at h3
          exact lt_line (by omega)
        · have s3 := sNew (o := .tup [V.int p.1, V.int p.2]) (sNew (o := .lst []) s1 hl2) htp
          refine ⟨sPut s3 hD, ⟨_, upd_same, ?_⟩, _, _, rfl⟩
          rw [hfold, join_app (by rw [hA]; simp)]
          have nD : tp ≠ D := fun e => by rw [e, old a1 hl2] at htp; cases htp
          refine Tups.append ?_ (Tups.one (by rw [upd_ne nD, upd_same]))
          have sD : ∀ b o, b ≠ D → H' b = some o → upd (upd (upd H' l2 (.lst [])) tp (.tup [V.int p.1, V.int p.2])) D (.lst (acc ++ [V.ref tp])) b = some o := fun b o hb e => by rw [upd_ne hb]; exact old (old e hl2) htp
          exact tups_but sD a1 a2
      · rw [decide_eq_false hA]
        refine iteF ?_
        obtain ⟨B, z, hB⟩ : ∃ B z, (L.take i).foldl joinStep [] = B ++ [z] := ⟨_, _, (List.dropLast_concat_getLast hA).symm⟩
        have a2' := a2
        rw [hB] at a2'
        have hacc : acc ≠ [] := fun e => by
          have := a2'.len
          rw [e] at this
          simp at this
        obtain ⟨ac, va, rfl⟩ : ∃ ac va, acc = ac ++ [va] := ⟨_, _, (List.dropLast_concat_getLast hacc).symm⟩
        have hle : ac.length = B.length := by
          have := a2'.len
          simpa using this
        obtain ⟨p2, t2, hp2, rfl, ht2⟩ := a2'.get (i := ac.length) (v := va) (by simp)
        have ez : p2 = z := by
          rw [hle] at hp2
          simp at hp2
          exact hp2.symm
        subst ez
        refine ⟨_, rfl, _, rfl, D, _, _, _, rfl, rfl, SqL.of (old a1 hl2), atI_lastV _ _, t2, _, _, _, rfl, rfl, .inl (.inl (old ht2 hl2)), at_of (j := 1) rfl rfl, _, rfl, rfl, _, rfl, ?_⟩
        by_cases hz : p2.2 = p.2
        · have ed : decide (V.int p2.2 = V.int p.2) = true := decide_eq_true (by rw [hz])
          show if (!decide (V.int p2.2 = V.int p.2)) = true then _ else _
          rw [ed]
          refine iteF ?_
          refine ⟨sNew s1 hl2, ?_, _, _, rfl⟩
          rw [hfold, join_keep (by rw [hB]; simp [hz])]
          exact ⟨_, old a1 hl2, a2.same (sNew (Same.refl _) hl2)⟩
        · have ed : decide (V.int p2.2 = V.int p.2) = false := decide_eq_false (fun e => hz (V.int.inj e))
          show if (!decide (V.int p2.2 = V.int p.2)) = true then _ else _
          rw [ed]
          refine iteT ?_
          refine ⟨_, rfl, .inl ⟨rfl, _, SqL.of (old a1 hl2)⟩, _, rfl, _, rfl, (by show 2 ≤ sizeLine; decide), fun tp htp => ?_⟩
          refine ⟨D, _, _, rfl, rfl, old (old a1 hl2) htp, ?_, ?_⟩
          · rw [a2.len]
            have h3 := join_len [] (L.take i)
            simp only [List.length_take, List.length_nil] at h3
            exact lt_line (by omega)
          · have s3 := sNew (o := .tup [V.int p.1, V.int p.2]) (sNew (o := .lst []) s1 hl2) htp
            refine ⟨sPut s3 hD, ⟨_, upd_same, ?_⟩, _, _, rfl⟩
            rw [hfold, join_app (by rw [hB]; simp [hz])]
            have nD : tp ≠ D := fun e => by rw [e, old a1 hl2] at htp; cases htp
            refine Tups.append ?_ (Tups.one (by rw [upd_ne nD, upd_same]))
            have sD : ∀ b o, b ≠ D → H' b = some o → upd (upd (upd H' l2 (.lst [])) tp (.tup [V.int p.1, V.int p.2])) D (.lst ((ac ++ [V.ref t2]) ++ [V.ref tp])) b = some o := fun b o hb e => by rw [upd_ne hb]; exact old (old e hl2) htp
            exact tups_but sD a1 a2
    · rintro σ H' ⟨s1, hr1, u, v, rfl⟩
      refine ⟨_, rfl, ?_⟩
      refine q H' D s1 hD ?_
      rw [tw.len, List.take_of_length_le (Nat.le_refl _)] at hr1
      exact hr1
end
end S71

namespace S71
open PySem L2 SR
def enV : Option Int → V
  | none => .non
  | some i => .int i
def oneSign (r : List Int) : Option Int := if r.any (fun a => decide (a > 0)) = true then (if r.any (fun a => decide (a < 0)) = true then none else some 1) else some (if r = [] then 0 else -1)
section
variable {P : Program} {w : World} {K : PySem.W.Frag} {mg : Str → Option Value} {base : Heap}
/-! ### one_sign -/
def spOne (K : PySem.W.Frag) : Sp := fun vs H Q _ => ∃ (a : Addr) (r : List Int), vs = [.ref a] ∧ SqT K H a (r.map V.int) ∧ r.length ≤ 1000 ∧ ∀ H', Same H H' → Q (enV (oneSign r)) H'
theorem scOne : FnScope ["row", "one"] ["row"] (defScope sOneSign) := ⟨rfl, rfl, rfl, by decide +kernel, rfl, by decide +kernel, by decide +kernel⟩
theorem any_map (r : List Int) (f : Int → Bool) : (r.map f).any id = r.any f := by
  rw [List.any_map]; rfl
theorem ok_one {f : Addr} {fd : FuncData} (F : Fun K "one_sign" "one_sign" sOneSign f fd) (T : Bn mg) : FnOk P w K mg base CX0 1 f fd ["row"] (spOne K) := by
  refine F.ok scOne (fun vs H Q E h => ?_) (fun cdv A outer s H vs Q E hr h => ?_)
  · obtain ⟨a, r, rfl, _⟩ := h
    rfl
  · obtain ⟨a, r, rfl, hr1, hlen, q⟩ := h
    refine ⟨_, pss_cons (ps_if (pt_val (pe_callB (cr_any rfl) (by rfl) T.any (by decide +kernel) (pa_cons (pe_lc (own := [("one", 1)]) (g := gName 1) (tt := tYes) (by rfl) scOne.nd (pi_tup (pv 0)) (blkOk_by (own := [("one", 1)]) (N := ["row", "one"]) (sc := defScope sOneSign) (by decide +kernel))
        (fun _ _ _ _ _ => pg_name (i := 1) scOne.nd rfl (Or.inl rfl)) (fun _ _ _ _ _ => pts_nil) (fun _ _ _ _ _ => pe_cmpR op_gt (pv 1) pe_int (nomark _))) pa_nil)))
        (pss_one (ps_ret (pe_ifExp (pt_val (pe_callB (cr_any rfl) (by rfl) T.any (by decide +kernel) (pa_cons (pe_lc (own := [("one", 1)]) (g := gName 1) (tt := tYes) (by rfl) scOne.nd (pi_tup (pv 0)) (blkOk_by (own := [("one", 1)]) (N := ["row", "one"]) (sc := defScope sOneSign) (by decide +kernel))
        (fun _ _ _ _ _ => pg_name (i := 1) scOne.nd rfl (Or.inl rfl)) (fun _ _ _ _ _ => pts_nil) (fun _ _ _ _ _ => pe_cmpR op_lt (pv 1) pe_int (nomark _))) pa_nil))) pe_non pe_int))) pss_nil)
      (pss_one (ps_ret (pe_ifExp (pt_cmpR (op_neD hr.units) (pv 0) (pe_tup pa_nil) (nomark _)) (pe_un un_neg pe_int) pe_int))), ?_⟩
    refine ⟨_, rfl, a, rfl, ⟨_, hr1⟩, fun D hD => ?_⟩
    refine lc_it (walk_tup (K := K) (a := a) (xs := r.map V.int)) (fun i H' => Same H H' ∧ H' D = some (.lst (((r.map fun a => decide (a > 0)).take i).map V.bl))) ⟨sNew (Same.refl H) hD, upd_same⟩ (fun i H' _ h => sTup h.1 hr1) ?_ ?_
    · rintro i x _ H' hi ⟨s1, h1⟩ ⟨rfl, hx⟩
      obtain ⟨z, hz, rfl⟩ := map_get hx
      refine ⟨rfl, _, rfl, _, _, rfl, rfl, _, h1, ?_, sPut s1 hD, ?_⟩
      · have : i < r.length := by simpa using hi
        simp only [List.length_map, List.length_take]
        exact lt_line (by omega)
      · rw [upd_same]
        congr 2
        refine take_succ_map (f := V.bl) ?_
        rw [List.getElem?_map, hz]; rfl
    rintro H1 ⟨s1, h1⟩
    rw [List.take_of_length_le (by simp)] at h1
    refine ⟨D, _, rfl, SqL.of h1, _, rfl, ?_⟩
    rw [any_map]
    by_cases hp : r.any (fun a => decide (a > 0)) = true
    · rw [hp]
      refine iteT ?_
      refine ⟨_, rfl, a, rfl, ⟨_, sTup s1 hr1⟩, fun D2 hD2 => ?_⟩
      refine lc_it (walk_tup (K := K) (a := a) (xs := r.map V.int)) (fun i H' => Same H1 H' ∧ H' D2 = some (.lst (((r.map fun a => decide (a < 0)).take i).map V.bl))) ⟨sNew (Same.refl H1) hD2, upd_same⟩ (fun i H' _ h => sTup (Same.trans s1 h.1) hr1) ?_ ?_
      · rintro i x _ H' hi ⟨s2, h2⟩ ⟨rfl, hx⟩
        obtain ⟨z, hz, rfl⟩ := map_get hx
        refine ⟨rfl, _, rfl, _, _, rfl, rfl, _, h2, ?_, sPut s2 hD2, ?_⟩
        · have : i < r.length := by simpa using hi
          simp only [List.length_map, List.length_take]
          exact lt_line (by omega)
        · rw [upd_same]
          congr 2
          refine take_succ_map (f := V.bl) ?_
          rw [List.getElem?_map, hz]; rfl
      rintro H2 ⟨s2, h2⟩
      rw [List.take_of_length_le (by simp)] at h2
      refine ⟨D2, _, rfl, SqL.of h2, _, rfl, ?_⟩
      rw [any_map]
      have q2 := q H2 (Same.trans s1 s2)
      unfold oneSign at q2
      rw [if_pos hp] at q2
      by_cases hn : r.any (fun a => decide (a < 0)) = true
      · rw [hn]
        rw [if_pos hn] at q2
        exact iteT q2
      · rw [if_neg hn] at q2
        rw [show r.any (fun a => decide (a < 0)) = false by simpa using hn]
        exact iteF q2
    · have hp' : r.any (fun a => decide (a > 0)) = false := by simpa using hp
      rw [hp']
      refine iteF ?_
      refine ⟨_, rfl, Nat.zero_le _, fun t ht => ?_⟩
      have s2 := sNew (o := .tup []) s1 ht
      refine ⟨dTup r, dTup [], dp_tup (sTup s2 hr1), dp_tup (r := []) (.inl (.inl upd_same)), sh_tup _, sh_tup _, _, rfl, ?_⟩
      rw [tup_nil]
      have q2 := q _ s2
      unfold oneSign at q2
      rw [if_neg hp] at q2
      by_cases hn : r = []
      · rw [if_pos hn] at q2
        rw [decide_eq_true hn]
        exact iteF q2
      · rw [if_neg hn] at q2
        rw [decide_eq_false hn]
        refine iteT ?_
        exact ⟨1, rfl, q2⟩
end
end S71

namespace S71
open PySem L2 SR
section
variable {P : Program} {w : World} {K : PySem.W.Frag} {mg : Str → Option Value} {base : Heap}
/-! ### first_other -/
/-- what first_other asks and promises: g the sign by places -/
structure FoPre (g : Int → Int) (sg st : Int) (en : Option Int) (m : Nat) : Prop where
  at0 : g st = sg
  st0 : 0 ≤ st
  mono : ∀ d d', st ≤ d → d ≤ d' → (∀ e, en = some e → d' < e) → g d ≠ sg → g d' ≠ sg
  fin : ∀ e, en = some e → st < e ∧ e.natAbs < 2 ^ m
  inf : en = none → ∃ T : Int, st < T ∧ T.natAbs < 2 ^ m ∧ ∀ d, T ≤ d → g d ≠ sg
def spFirst (C : Addr) : Sp := fun vs H Q _ => ∃ (p : Addr) (r : List Int) (sg st : Int) (en : Option Int) (n m : Nat), vs = [.ref p, .int sg, .int st, enV en] ∧ PolyAt C H p r ∧ Bd n r ∧ r.length ≤ 20 ∧ n ≤ 2000 ∧ m ≤ 1900 ∧
  FoPre (fun d => sgn (ev r d)) sg st en m ∧
  ∀ (H' : Hp) (h : Int), Same H H' → st < h → (∀ e, en = some e → h ≤ e) → (∀ d, st ≤ d → d < h → sgn (ev r d) = sg) → ((∀ e, en = some e → h < e) → sgn (ev r h) ≠ sg) → Q (.int h) H'
abbrev nFirst : List Str := ["polynomial", "sign", "start", "end", "low", "high", "reach", "middle"]
theorem scFirst : FnScope nFirst ["polynomial", "sign", "start", "end"] (defScope sFirst) := ⟨rfl, rfl, rfl, by decide +kernel, rfl, by decide +kernel, by decide +kernel⟩
theorem small_of {a b : Int} {m k : Nat} (h0 : 0 ≤ a) (h : a ≤ 2 * b) (hb : b.natAbs < 2 ^ m) (hk : m < k) : a.natAbs < 2 ^ k := by
  have h1 : 2 ^ (m + 1) ≤ 2 ^ k := pow_mono (by omega)
  rw [Nat.pow_succ] at h1
  omega
theorem ok_first {f C : Addr} {fd : FuncData} (F : Fun K "first_other" "first_other" sFirst f fd) (DS : Df P w K mg base "sign_at" ["polynomial", "d"] 3 (spSignAt C)) : FnOk P w K mg base CX0 4 f fd ["polynomial", "sign", "start", "end"] (spFirst C) := by
  refine F.ok scFirst (fun vs H Q E h => ?_) (fun cdv A outer s H vs Q E hr h => ?_)
  · obtain ⟨p, r, sg, st, en, n, m, rfl, _⟩ := h
    rfl
  · obtain ⟨p, r, sg, st, en, n, m, rfl, hp, hn, hl, ln, lm, pre, q⟩ := h
    refine ⟨_, pss_cons (ps_par (i := 4) (j := 5) (by rfl) scFirst.nd rfl rfl (by decide) rfl rfl (pa_cons (pv 2) (pa_cons (pv 3) pa_nil)) (by rfl))
      (pss_cons (ps_if (pt_cmpR op_isN (pv 3) pe_non (nomark _))
        (pss_cons (ps_set (i := 6) scFirst.nd rfl (Or.inl rfl) pe_int)
        (pss_cons (ps_while PassesOwn.never (pt_cmpR op_eq (pe_df DS hr (by rfl) (pa_cons (pv 0) (pa_cons (pe_op op_add (pv 2) (pv 6)) pa_nil))) (pv 1) (nomark _)) (pss_one (ps_set (i := 6) scFirst.nd rfl (Or.inl rfl) (pe_op op_mul pe_int (pv 6)))))
        (pss_one (ps_set (i := 5) scFirst.nd rfl (Or.inl rfl) (pe_op op_add (pv 2) (pv 6)))))) pss_nil)
      (pss_cons (ps_while PassesOwn.never (pt_cmpR op_gt (pe_op op_sub (pv 5) (pv 4)) pe_int (nomark _))
        (pss_cons (ps_set (i := 7) scFirst.nd rfl (Or.inl rfl) (pe_op op_fdiv (pe_op op_add (pv 4) (pv 5)) pe_int))
        (pss_one (ps_if (pt_cmpR op_eq (pe_df DS hr (by rfl) (pa_cons (pv 0) (pa_cons (pv 7) pa_nil))) (pv 1) (nomark _)) (pss_one (ps_set (i := 4) scFirst.nd rfl (Or.inl rfl) (pv 7))) (pss_one (ps_set (i := 5) scFirst.nd rfl (Or.inl rfl) (pv 7)))))))
      (pss_one (ps_ret (pv 5))))), ?_⟩
    refine ⟨_, rfl, _, rfl, _, _, rfl, ?_⟩
    -- the second loop, from any state that has found a place
    have loop2 : ∀ (D : Ends) (tc : TT) (tb : TS), True := fun _ _ _ => trivial
    refine ⟨_, rfl, rfl, _, rfl, ?_⟩
    cases en with
    | some e =>
      refine iteF ?_
      obtain ⟨hse, hem⟩ := pre.fin e rfl
      refine ⟨fun mm σ H' => ∃ lo hi : Int, ∃ v7 v6, σ = [some (.ref p), some (.int sg), some (.int st), some (.int e), some (.int lo), some (.int hi), v6, v7] ∧ mm = (hi - lo).toNat ∧ Same H H' ∧ st ≤ lo ∧ lo < hi ∧ hi ≤ e ∧ sgn (ev r lo) = sg ∧ (hi < e → sgn (ev r hi) ≠ sg), ⟨_, st, e, none, none, rfl, rfl, Same.refl H, Int.le_refl _, hse, Int.le_refl _, pre.at0, fun h => absurd h (by omega)⟩, ?_⟩
      rintro mm σ H1 ⟨lo, hi, v7, v6, rfl, rfl, s1, h1, h2, h3, h4, h5⟩
      refine ⟨_, rfl, _, rfl, _, _, rfl, rfl, _, _, rfl, rfl, _, rfl, ?_⟩
      by_cases hgap : hi - lo > 1
      · rw [decide_eq_true hgap]
        refine iteT ?_
        refine ⟨fun σ' H' => ∃ lo' hi' : Int, ∃ v7' v6', σ' = [some (.ref p), some (.int sg), some (.int st), some (.int e), some (.int lo'), some (.int hi'), v6', v7'] ∧ (hi' - lo').toNat < (hi - lo).toNat ∧ Same H H' ∧ st ≤ lo' ∧ lo' < hi' ∧ hi' ≤ e ∧ sgn (ev r lo') = sg ∧ (hi' < e → sgn (ev r hi') ≠ sg), fun σ' H' ⟨lo', hi', a, b, c1, c2, c3, c4⟩ => ⟨_, c2, lo', hi', a, b, c1, rfl, c3, c4⟩, ?_⟩
        have hmid : lo < (lo + hi) / 2 ∧ (lo + hi) / 2 < hi := by omega
        refine ⟨_, rfl, _, rfl, _, _, rfl, rfl, _, _, rfl, rfl, ⟨by decide, by decide⟩, ?_⟩
        have s0 := pre.st0
        refine ⟨_, rfl, _, rfl, p, r, (lo + hi) / 2, n, m + 1, rfl, hp.same s1, hn, small_of (b := e) (m := m) (by omega) (by omega) hem (by omega), hl, ln, by omega, fun H2 s2 => ?_⟩
        refine ⟨_, rfl, rfl, _, rfl, ?_⟩
        by_cases hs : sgn (ev r ((lo + hi) / 2)) = sg
        · rw [decide_eq_true (congrArg V.int hs)]
          refine iteT ?_
          exact ⟨_, rfl, _, hi, _, _, rfl, by omega, Same.trans s1 s2, by omega, hmid.2, h3, hs, h5⟩
        · rw [decide_eq_false (fun z => hs (V.int.inj z))]
          refine iteF ?_
          exact ⟨_, rfl, lo, _, _, _, rfl, by omega, Same.trans s1 s2, h1, hmid.1, by omega, h4, fun _ => hs⟩
      · rw [decide_eq_false hgap]
        refine iteF ?_
        refine ⟨_, rfl, q H1 hi s1 (by omega) (fun e' he => by cases he; exact h3) (fun d hd1 hd2 => ?_) (fun hh => h5 (hh e rfl))⟩
        by_cases hd : sgn (ev r d) = sg
        · exact hd
        · exact absurd h4 (pre.mono d lo hd1 (by omega) (fun e' he => by cases he; omega) hd)
    | none =>
      refine iteT ?_
      obtain ⟨T, hT, hTm, hTd⟩ := pre.inf rfl
      have s0 := pre.st0
      refine ⟨fun mm σ H' => ∃ re : Int, σ = [some (.ref p), some (.int sg), some (.int st), some .non, some (.int st), some .non, some (.int re), none] ∧ mm = (2 * T - st - re).toNat ∧ Same H H' ∧ 1 ≤ re ∧ st + re ≤ 2 * T, ⟨_, 1, rfl, rfl, Same.refl H, by omega, by omega⟩, ?_⟩
      rintro mm σ H1 ⟨re, rfl, rfl, s1, h1, h2⟩
      refine ⟨_, rfl, _, rfl, _, rfl, _, _, rfl, rfl, p, r, st + re, n, m + 1, rfl, hp.same s1, hn, small_of (b := T) (m := m) (by omega) h2 hTm (by omega), hl, ln, by omega, fun H2 s2 => ?_⟩
      refine ⟨_, rfl, rfl, _, rfl, ?_⟩
      by_cases hs : sgn (ev r (st + re)) = sg
      · rw [decide_eq_true (congrArg V.int hs)]
        refine iteT ?_
        have hlt : st + re < T := by
          by_cases h : st + re < T
          · exact h
          · exact absurd hs (hTd _ (by omega))
        refine ⟨fun σ' H' => ∃ re' : Int, σ' = [some (.ref p), some (.int sg), some (.int st), some .non, some (.int st), some .non, some (.int re'), none] ∧ (2 * T - st - re').toNat < (2 * T - st - re).toNat ∧ Same H H' ∧ 1 ≤ re' ∧ st + re' ≤ 2 * T, fun σ' H' ⟨re', c1, c2, c3⟩ => ⟨_, c2, re', c1, rfl, c3⟩, ?_⟩
        exact ⟨_, rfl, _, _, rfl, rfl, .inl ⟨by decide, by decide⟩, 2 * re, rfl, by omega, Same.trans s1 s2, by omega, by omega⟩
      · rw [decide_eq_false (fun z => hs (V.int.inj z))]
        refine iteF ?_
        refine ⟨_, rfl, _, rfl, _, _, rfl, rfl, ?_⟩
        refine ⟨fun mm σ H' => ∃ lo hi : Int, ∃ v7 v6, σ = [some (.ref p), some (.int sg), some (.int st), some .non, some (.int lo), some (.int hi), v6, v7] ∧ mm = (hi - lo).toNat ∧ Same H H' ∧ st ≤ lo ∧ lo < hi ∧ hi ≤ 2 * T ∧ sgn (ev r lo) = sg ∧ sgn (ev r hi) ≠ sg, ⟨_, st, st + re, none, _, rfl, rfl, Same.trans s1 s2, Int.le_refl _, by omega, h2, pre.at0, hs⟩, ?_⟩
        rintro mm σ H3 ⟨lo, hi, v7, v6, rfl, rfl, s3, g1, g2, g3, g4, g5⟩
        refine ⟨_, rfl, _, rfl, _, _, rfl, rfl, _, _, rfl, rfl, _, rfl, ?_⟩
        by_cases hgap : hi - lo > 1
        · rw [decide_eq_true hgap]
          refine iteT ?_
          refine ⟨fun σ' H' => ∃ lo' hi' : Int, ∃ v7' v6', σ' = [some (.ref p), some (.int sg), some (.int st), some .non, some (.int lo'), some (.int hi'), v6', v7'] ∧ (hi' - lo').toNat < (hi - lo).toNat ∧ Same H H' ∧ st ≤ lo' ∧ lo' < hi' ∧ hi' ≤ 2 * T ∧ sgn (ev r lo') = sg ∧ sgn (ev r hi') ≠ sg, fun σ' H' ⟨lo', hi', a, b, c1, c2, c3, c4⟩ => ⟨_, c2, lo', hi', a, b, c1, rfl, c3, c4⟩, ?_⟩
          have hmid : lo < (lo + hi) / 2 ∧ (lo + hi) / 2 < hi := by omega
          refine ⟨_, rfl, _, rfl, _, _, rfl, rfl, _, _, rfl, rfl, ⟨by decide, by decide⟩, ?_⟩
          refine ⟨_, rfl, _, rfl, p, r, (lo + hi) / 2, n, m + 1, rfl, hp.same s3, hn, small_of (b := T) (m := m) (by omega) (by omega) hTm (by omega), hl, ln, by omega, fun H4 s4 => ?_⟩
          refine ⟨_, rfl, rfl, _, rfl, ?_⟩
          by_cases hs2 : sgn (ev r ((lo + hi) / 2)) = sg
          · rw [decide_eq_true (congrArg V.int hs2)]
            refine iteT ?_
            exact ⟨_, rfl, _, hi, _, _, rfl, by omega, Same.trans s3 s4, by omega, hmid.2, g3, hs2, g5⟩
          · rw [decide_eq_false (fun z => hs2 (V.int.inj z))]
            refine iteF ?_
            exact ⟨_, rfl, lo, _, _, _, rfl, by omega, Same.trans s3 s4, g1, hmid.1, by omega, g4, hs2⟩
        · rw [decide_eq_false hgap]
          refine iteF ?_
          refine ⟨_, rfl, q H3 hi s3 (by omega) (fun e' he => by cases he) (fun d hd1 hd2 => ?_) (fun _ => g5)⟩
          by_cases hd : sgn (ev r d) = sg
          · exact hd
          · exact absurd g4 (pre.mono d lo hd1 (by omega) (fun e' he => by cases he) hd)
end
end S71

namespace S71
open PySem L2 SR
def dEn : Option Int → PyData
  | none => .none
  | some i => .int i
theorem dp_en {K : PySem.W.Frag} {H : Hp} (en : Option Int) : Dp K H (enV en) (dEn en) := by
  cases en with
  | none => exact .non
  | some i => exact .int i
theorem sh_en (en : Option Int) : SeqAt.shaped (dEn en) = true := by
  cases en with
  | none => rfl
  | some i => rfl
theorem sh_int (i : Int) : SeqAt.shaped (.int i) = true := rfl
theorem eqv_en (h : Int) (en : Option Int) : PyData.eqv (.int h) (dEn en) = decide (en = some h) := by
  cases en with
  | none => rfl
  | some i =>
    show (h == i) = decide (some i = some h)
    by_cases e : h = i
    · subst e; simp
    · have e2 : ¬ (some i = some h) := fun z => e (Option.some.inj z).symm
      rw [decide_eq_false e2]
      simpa using e
/-! ### a function that only rises, falls or stays -/
structure RiPre (f : Int → Int) (st : Int) (en : Option Int) (dir : Int) (m : Nat) : Prop where
  st0 : 0 ≤ st
  dirs : dir = -1 ∨ dir = 0 ∨ dir = 1
  fin : ∀ e, en = some e → st < e ∧ e.natAbs < 2 ^ m
  step : ∀ d, st ≤ d → (∀ e, en = some e → d + 1 < e) → sgn (f (d + 1) - f d) = dir
  far : ∃ T : Int, st < T ∧ T.natAbs < 2 ^ m ∧ (en = none → dir ≠ 0 → ∀ d, T ≤ d → sgn (f d) = dir)
theorem RiPre.go {f : Int → Int} {st : Int} {en : Option Int} {dir : Int} {m : Nat} (h : RiPre f st en dir m) : ∀ (k : Nat) (d : Int), st ≤ d → (∀ e, en = some e → d + (k : Int) < e) → (dir = 1 → f d ≤ f (d + k)) ∧ (dir = -1 → f (d + k) ≤ f d) ∧ (dir = 0 → f (d + k) = f d)
  | 0, d, _, _ => by simp
  | k + 1, d, hd, he => by
    obtain ⟨a, b, c⟩ := h.go k d hd (fun e q => by have := he e q; omega)
    have s := h.step (d + k) (by omega) (fun e q => by have := he e q; omega)
    have e1 : d + ((k + 1 : Nat) : Int) = d + k + 1 := by omega
    rw [e1]
    rcases sgn_cases (f (d + k + 1) - f (d + k)) with ⟨p, e⟩ | ⟨p, e⟩ | ⟨p, e⟩ <;> refine ⟨fun z => ?_, fun z => ?_, fun z => ?_⟩ <;> first | omega | (have := a z; omega) | (have := b z; omega) | (have := c z; omega)
theorem RiPre.mono {f : Int → Int} {st : Int} {en : Option Int} {dir : Int} {m : Nat} (h : RiPre f st en dir m) {d d' : Int} (h1 : st ≤ d) (h2 : d ≤ d') (he : ∀ e, en = some e → d' < e) :
    (dir = 1 → sgn (f d) ≤ sgn (f d')) ∧ (dir = -1 → sgn (f d') ≤ sgn (f d)) ∧ (dir = 0 → sgn (f d') = sgn (f d)) := by
  have e1 : d' = d + ((d' - d).toNat : Int) := by omega
  obtain ⟨a, b, c⟩ := h.go (d' - d).toNat d h1 (fun e q => by rw [← e1]; exact he e q)
  rw [← e1] at a b c
  exact ⟨fun z => sgn_mono (a z), fun z => sgn_mono (b z), fun z => by rw [c z]⟩
/-- where the sign is the direction, or there is none, it stays -/
theorem RiPre.stays {f : Int → Int} {st : Int} {en : Option Int} {dir : Int} {m : Nat} (h : RiPre f st en dir m) {d d' : Int} (h1 : st ≤ d) (h2 : d ≤ d') (he : ∀ e, en = some e → d' < e) (hs : dir = 0 ∨ sgn (f d) = dir) : sgn (f d') = sgn (f d) := by
  obtain ⟨a, b, c⟩ := h.mono h1 h2 he
  have hb := sgn_bounds (f d')
  rcases h.dirs with z | z | z
  · have := b z; rcases hs with q | q <;> omega
  · exact c z
  · have := a z; rcases hs with q | q <;> omega
/-- first_other may be asked -/
theorem RiPre.fo {f : Int → Int} {st : Int} {en : Option Int} {dir : Int} {m : Nat} (h : RiPre f st en dir m) {d : Int} (h1 : st ≤ d) (he : ∀ e, en = some e → d < e) (hT : en = none → ∀ T : Int, (∀ d, T ≤ d → sgn (f d) = dir) → st < T → d ≤ T) (h0 : dir ≠ 0) (hs : sgn (f d) ≠ dir) :
    FoPre (fun d => sgn (f d)) (sgn (f d)) d en m := by
  refine ⟨rfl, by have := h.st0; omega, fun d1 d2 g1 g2 g3 g4 => ?_, fun e q => ⟨he e q, (h.fin e q).2⟩, fun q => ?_⟩
  · have g5 : ∀ e, en = some e → d1 < e := fun e q => by have := g3 e q; omega
    obtain ⟨a, b, _⟩ := h.mono h1 g1 g5
    obtain ⟨a', b', _⟩ := h.mono (d := d1) (by omega) g2 g3
    have g4 : sgn (f d1) ≠ sgn (f d) := g4
    show sgn (f d2) ≠ sgn (f d)
    rcases h.dirs with z | z | z
    · have := b z; have := b' z; omega
    · exact absurd z h0
    · have := a z; have := a' z; omega
  · obtain ⟨T, t1, t2, t3⟩ := h.far
    have t3 := t3 q h0
    refine ⟨T, ?_, t2, fun d' hd => ?_⟩
    · have := hT q T t3 t1
      by_cases e : d = T
      · exact absurd (e ▸ t3 T (Int.le_refl _)) hs
      · omega
    · show sgn (f d') ≠ sgn (f d)
      rw [t3 d' hd]
      exact fun z => hs z.symm
section
variable {P : Program} {w : World} {K : PySem.W.Frag} {mg : Str → Option Value} {base : Heap}
/-! ### runs_in -/
def spRunsIn (C : Addr) : Sp := fun vs H Q _ => ∃ (p : Addr) (r : List Int) (st : Int) (en : Option Int) (dir : Int) (n m : Nat), vs = [.ref p, .int st, enV en, .int dir] ∧ PolyAt C H p r ∧ Bd n r ∧ r.length ≤ 20 ∧ n ≤ 2000 ∧ m ≤ 1900 ∧
  RiPre (ev r) st en dir m ∧ ∀ (H' : Hp) (l : Addr) (L : List (Int × Int)), Same H H' → H l = none → RunsAt H' l L → Seg (fun d => sgn (ev r d)) st en L → L.length ≤ 3 → Q (.ref l) H'
abbrev nRunsIn : List Str := ["polynomial", "start", "end", "direction", "found", "place", "sign", "following"]
theorem scRunsIn : FnScope nRunsIn ["polynomial", "start", "end", "direction"] (defScope sRunsIn) := ⟨rfl, rfl, rfl, by decide +kernel, rfl, by decide +kernel, by decide +kernel⟩
/-- the state of the loop: the place to be looked at, or none -/
def RiSt (g : Int → Int) (st : Int) (en : Option Int) (dir : Int) (T : Int) (L : List (Int × Int)) (mm : Nat) : Option Int → Prop
  | none => Seg g st en L ∧ L.length ≤ 3
  | some d => st ≤ d ∧ (∀ e, en = some e → d < e) ∧ (en = none → d ≤ T) ∧ ((L = [] ∧ d = st) ∨ Seg g st (some d) L) ∧ (mm : Int) = 2 - dir * g d ∧ (L.length : Int) ≤ 1 + dir * g d
end
end S71

namespace S71
open PySem L2 SR
theorem Seg.up {g : Int → Int} {st d : Int} {e : Option Int} {L : List (Int × Int)} {v : Int} (h : (L = [] ∧ d = st) ∨ Seg g st (some d) L) (hm : ∀ x, e = some x → d < x) (hv : ∀ d', d ≤ d' → (∀ x, e = some x → d' < x) → g d' = v) : Seg g st e (L ++ [(d, v)]) := by
  rcases h with ⟨rfl, rfl⟩ | h
  · exact ⟨rfl, hm, hv⟩
  · exact h.snoc hm hv
theorem dir_lt {f : Int → Int} {st : Int} {en : Option Int} {dir : Int} {m : Nat} (h : RiPre f st en dir m) {d d' : Int} (h1 : st ≤ d) (h2 : d ≤ d') (he : ∀ e, en = some e → d' < e) (h0 : dir ≠ 0) (hne : sgn (f d') ≠ sgn (f d)) : dir * sgn (f d) + 1 ≤ dir * sgn (f d') := by
  obtain ⟨a, b, c⟩ := h.mono h1 h2 he
  rcases h.dirs with z | z | z
  · have := b z; subst z; omega
  · exact absurd z h0
  · have := a z; subst z; omega
theorem dir_bd {f : Int → Int} {st : Int} {en : Option Int} {dir : Int} {m : Nat} (h : RiPre f st en dir m) (d : Int) : -1 ≤ dir * sgn (f d) ∧ dir * sgn (f d) ≤ 1 := by
  have hb := sgn_bounds (f d)
  rcases h.dirs with z | z | z <;> subst z <;> omega
section
variable {P : Program} {w : World} {K : PySem.W.Frag} {mg : Str → Option Value} {base : Heap}
theorem ok_runsIn {f C : Addr} {fd : FuncData} (F : Fun K "runs_in" "runs_in" sRunsIn f fd) (DS : Df P w K mg base "sign_at" ["polynomial", "d"] 3 (spSignAt C)) (DF : Df P w K mg base "first_other" ["polynomial", "sign", "start", "end"] 4 (spFirst C)) :
    FnOk P w K mg base CX0 5 f fd ["polynomial", "start", "end", "direction"] (spRunsIn C) := by
  refine F.ok scRunsIn (fun vs H Q E h => ?_) (fun cdv A outer s H vs Q E hr h => ?_)
  · obtain ⟨p, r, st, en, dir, n, m, rfl, _⟩ := h
    rfl
  · obtain ⟨p, r, st, en, dir, n, m, rfl, hp, hn, hl, ln, lm, pre, q⟩ := h
    refine ⟨_, pss_cons (ps_par (i := 4) (j := 5) (by rfl) scRunsIn.nd rfl rfl (by decide) rfl rfl (pa_cons (pe_lst pa_nil) (pa_cons (pv 1) pa_nil)) (by rfl))
      (pss_cons (ps_while PassesOwn.never (pt_cmpR op_notN (pv 5) pe_non (nomark _))
        (pss_cons (ps_set (i := 6) scRunsIn.nd rfl (Or.inl rfl) (pe_df DS (hr.mono (by decide)) (by rfl) (pa_cons (pv 0) (pa_cons (pv 5) pa_nil))))
        (pss_cons (ps_expr (pe_bm PySem.F.plainAttrs_list PySem.F.slot_list_append PySem.F.type_list_append mt_append (pv 4) (pa_cons (pe_tup (pa_cons (pv 5) (pa_cons (pv 6) pa_nil))) pa_nil)))
        (pss_cons (ps_set (i := 7) scRunsIn.nd rfl (Or.inl rfl) pe_non)
        (pss_cons (ps_if (PW.pt (pw_and (pt_cmpR op_ne (pv 3) pe_int (nomark _)) (pw_and1 (pt_cmpR op_ne (pv 6) (pv 3) (nomark _)))))
          (pss_one (ps_set (i := 7) scRunsIn.nd rfl (Or.inl rfl) (pe_df DF hr (by rfl) (pa_cons (pv 0) (pa_cons (pv 6) (pa_cons (pv 5) (pa_cons (pv 2) pa_nil))))))) pss_nil)
        (pss_one (ps_set (i := 5) scRunsIn.nd rfl (Or.inl rfl) (pe_ifExp (PW.pt (pw_and (pt_cmpR op_notN (pv 7) pe_non (nomark _)) (pw_and1 (pt_cmpR (op_neD hr.units) (pv 7) (pv 2) (nomark _))))) (pv 7) pe_non))))))))
      (pss_one (ps_ret (pv 4)))), ?_⟩
    obtain ⟨T, hT1, hT2, hT3⟩ := pre.far
    refine ⟨Nat.zero_le _, fun l hl0 => ?_⟩
    refine ⟨_, rfl, _, _, rfl, ?_⟩
    have db := dir_bd pre
    refine ⟨fun mm σ H' => ∃ (pl : Option Int) (L : List (Int × Int)) (v6 v7 : Option V), σ = [some (.ref p), some (.int st), some (enV en), some (.int dir), some (.ref l), some (enV pl), v6, v7] ∧ Same H H' ∧ RunsAt H' l L ∧ RiSt (fun d => sgn (ev r d)) st en dir T L mm pl,
      ⟨(2 - dir * sgn (ev r st)).toNat, some st, [], none, none, rfl, sNew (Same.refl H) hl0, ⟨[], upd_same, trivial⟩, Int.le_refl _, fun e he => (pre.fin e he).1, fun _ => by omega, .inl ⟨rfl, rfl⟩, by have := db st; show ((2 - dir * sgn (ev r st)).toNat : Int) = 2 - dir * sgn (ev r st); omega, by have := db st; show ((([] : List (Int × Int)).length : Nat) : Int) ≤ 1 + dir * sgn (ev r st); simp only [List.length_nil]; omega⟩, ?_⟩
    rintro mm σ H1 ⟨pl, L, v6, v7, rfl, s1, hL, hst⟩
    refine ⟨_, rfl, rfl, _, rfl, ?_⟩
    cases pl with
    | none =>
      refine iteF ?_
      exact ⟨_, rfl, q H1 l L s1 hl0 hL hst.1 hst.2⟩
    | some d =>
      refine iteT ?_
      obtain ⟨g1, g2, g3, g4, g5, g6⟩ := hst
      have g5 : (mm : Int) = 2 - dir * sgn (ev r d) := g5
      have g6 : (L.length : Int) ≤ 1 + dir * sgn (ev r d) := g6
      have dbd := db d
      have st0 := pre.st0
      have hdm : d.natAbs < 2 ^ m := by
        cases hen : en with
        | none => have := g3 hen; omega
        | some e => have := g2 e hen; have := (pre.fin e hen).2; omega
      refine ⟨fun σ' H' => ∃ (m' : Nat) (pl : Option Int) (L : List (Int × Int)) (v6 v7 : Option V), m' < mm ∧ σ' = [some (.ref p), some (.int st), some (enV en), some (.int dir), some (.ref l), some (enV pl), v6, v7] ∧ Same H H' ∧ RunsAt H' l L ∧ RiSt (fun d => sgn (ev r d)) st en dir T L m' pl, fun σ' H' ⟨m', pl, L, v6, v7, c0, c1⟩ => ⟨m', c0, pl, L, v6, v7, c1⟩, ?_⟩
      refine ⟨_, rfl, _, rfl, p, r, d, n, m, rfl, hp.same s1, hn, hdm, hl, ln, by omega, fun H2 s2 => ?_⟩
      obtain ⟨acc, a1, a2⟩ := hL.same s2
      refine ⟨_, rfl, .inl ⟨rfl, _, SqL.of a1⟩, _, rfl, _, rfl, (by show 2 ≤ sizeLine; decide), fun tp htp => ?_⟩
      refine ⟨l, _, _, rfl, rfl, old a1 htp, ?_, ?_⟩
      · rw [a2.len]; exact lt_line (by omega)
      have s3 := sNew (o := .tup [V.int d, V.int (sgn (ev r d))]) (Same.trans s1 s2) htp
      have ntl : tp ≠ l := fun e => by rw [e, a1] at htp; cases htp
      have hL3 : RunsAt (upd (upd H2 tp (.tup [V.int d, V.int (sgn (ev r d))])) l (.lst (acc ++ [V.ref tp]))) l (L ++ [(d, sgn (ev r d))]) := by
        refine ⟨_, upd_same, Tups.append (tups_but (fun b o hb e => by rw [upd_ne hb]; exact old e htp) a1 a2) (Tups.one (by rw [upd_ne ntl, upd_same]))⟩
      have s4 : Same H (upd (upd H2 tp (.tup [V.int d, V.int (sgn (ev r d))])) l (.lst (acc ++ [V.ref tp]))) := sPut s3 hl0
      rw [show enV (some d) = V.int d from rfl]
      generalize upd (upd H2 tp (.tup [V.int d, V.int (sgn (ev r d))])) l (.lst (acc ++ [V.ref tp])) = H5 at hL3 s4 ⊢
      refine ⟨_, rfl, rfl, _, rfl, ?_⟩
      by_cases hd0 : dir = 0
      · -- no direction
        rw [decide_eq_true (congrArg V.int hd0)]
        refine iteF ?_
        refine ⟨_, rfl, rfl, _, rfl, ?_⟩
        refine iteF ?_
        exact ⟨0, none, _, _, _, by omega, rfl, s4, hL3, Seg.up g4 g2 (fun d' h1 h2 => pre.stays g1 h1 h2 (.inl hd0)), by rw [List.length_append]; simp only [List.length_cons, List.length_nil]; omega⟩
      · rw [decide_eq_false (fun z => hd0 (V.int.inj z))]
        refine iteT ?_
        refine ⟨_, rfl, _, rfl, rfl, _, rfl, ?_⟩
        by_cases hs : sgn (ev r d) = dir
        · rw [decide_eq_true (congrArg V.int hs)]
          refine iteF ?_
          refine ⟨_, rfl, rfl, _, rfl, ?_⟩
          refine iteF ?_
          exact ⟨0, none, _, _, _, by omega, rfl, s4, hL3, Seg.up g4 g2 (fun d' h1 h2 => pre.stays g1 h1 h2 (.inr hs)), by rw [List.length_append]; simp only [List.length_cons, List.length_nil]; omega⟩
        · rw [decide_eq_false (fun z => hs (V.int.inj z))]
          refine iteT ?_
          have hfo := pre.fo (d := d) g1 g2 (fun z T' t1 t2 => ?_) hd0 hs
          · refine ⟨_, rfl, _, rfl, _, rfl, _, rfl, p, r, _, d, en, n, m, rfl, hp.same s4, hn, hl, ln, lm, hfo, fun H6 h s6 k1 k2 k3 k4 => ?_⟩
            refine ⟨_, rfl, rfl, _, rfl, ?_⟩
            refine iteT ?_
            refine ⟨_, rfl, _, rfl, _, _, .int h, dp_en en, sh_int h, sh_en en, _, rfl, ?_⟩
            rw [eqv_en]
            by_cases he : en = some h
            · rw [decide_eq_true he]
              refine iteF ?_
              refine ⟨0, none, _, _, _, by omega, rfl, Same.trans s4 s6, hL3.same s6, ?_, by rw [List.length_append]; simp only [List.length_cons, List.length_nil]; omega⟩
              exact Seg.up g4 g2 (fun d' h1 h2 => k3 d' h1 (h2 h he))
            · rw [decide_eq_false he]
              refine iteT ?_
              have hlt : ∀ e, en = some e → h < e := fun e q' => by
                have := k2 e q'
                by_cases z : h = e
                · exact absurd (z ▸ q') he
                · omega
              have hne := k4 hlt
              have hdl := dir_lt pre (d := d) (d' := h) g1 (by omega) hlt hd0 hne
              refine ⟨_, rfl, (2 - dir * sgn (ev r h)).toNat, some h, _, _, _, by have := db h; omega, rfl, Same.trans s4 s6, hL3.same s6, by omega, hlt, fun z => ?_, ?_, by have := db h; show ((2 - dir * sgn (ev r h)).toNat : Int) = 2 - dir * sgn (ev r h); omega, ?_⟩
              · have t3 := hT3 z hd0
                by_cases zz : h ≤ T
                · exact zz
                · have := k3 T (by have := g3 z; omega) (by omega)
                  rw [t3 T (Int.le_refl _)] at this
                  exact absurd this.symm hs
              · exact .inr (Seg.up g4 (fun x hx => by cases hx; omega) (fun d' h1 h2 => k3 d' h1 (h2 h rfl)))
              · show ((L ++ [(d, sgn (ev r d))]).length : Int) ≤ 1 + dir * sgn (ev r h)
                rw [List.length_append]; simp only [List.length_cons, List.length_nil]; omega
          · by_cases zz : d ≤ T'
            · exact zz
            · have h5 := (pre.mono (d := T') (d' := d) (by omega) (by omega) g2)
              have h6 := t1 T' (Int.le_refl _)
              have h7 := t1 d (by omega)
              exact absurd h7 hs
end
end S71

namespace S71
open PySem L2 SR
theorem pow2_lt (k : Nat) : ((2 ^ k : Nat) : Int) + 3 < ((2 ^ (k + 3) : Nat) : Int) := by
  have h1 : 2 ^ (k + 3) = 2 ^ k * 8 := by rw [Nat.pow_add]
  have h2 : 1 ≤ 2 ^ k := Nat.pos_of_ne_zero (by simp)
  rw [h1]
  generalize 2 ^ k = N at h2 ⊢
  omega
theorem nat_small {x N M : Int} {k : Nat} (h0 : 0 ≤ x) (h1 : x ≤ N) (h2 : N < M) (h3 : M = ((2 ^ k : Nat) : Int)) : x.natAbs < 2 ^ k := by
  omega
theorem ri_of {r c : List Int} {k : Nat} (hr : Bd k r) (hc : Bd k c) (hstep : ∀ x, ev c x = ev r (x + 1) - ev r x) {L : List (Int × Int)} (hL : IsRuns (fun d => sgn (ev c d)) 1 L) {i : Nat} {p : Int × Int} (hp : L[i]? = some p) :
    RiPre (ev r) p.1 (L[i + 1]?.map (·.1)) p.2 (k + 3) := by
  obtain ⟨a1, a2, a3⟩ := hL.at hp
  have near := hL.near hc (List.mem_of_getElem? hp)
  have hpw := pow2_lt k
  have hN0 : (0 : Int) ≤ ((2 ^ k : Nat) : Int) := Int.natCast_nonneg _
  have hst : ∀ d, p.1 ≤ d → (∀ e, L[i + 1]?.map (·.1) = some e → d < e) → sgn (ev r (d + 1) - ev r d) = p.2 := fun d hd he => by
    rw [← hstep]
    exact a3 d hd (fun q hq => he q.1 (by rw [hq]; rfl))
  refine ⟨by omega, ?_, fun e he => ?_, fun d hd he => hst d hd (fun e q => by have := he e q; omega), ?_⟩
  · have h1 := hst p.1 (Int.le_refl _) (fun e he => ?_)
    · rcases sgn_cases (ev r (p.1 + 1) - ev r p.1) with ⟨_, b⟩ | ⟨_, b⟩ | ⟨_, b⟩ <;> omega
    · cases hq : L[i + 1]? with
      | none => rw [hq] at he; cases he
      | some q => rw [hq] at he; cases he; exact a2 q hq
  · cases hq : L[i + 1]? with
    | none => rw [hq] at he; cases he
    | some q =>
      rw [hq] at he
      have he : q.1 = e := Option.some.inj he
      subst he
      have n2 := hL.near hc (List.mem_of_getElem? hq)
      exact ⟨a2 q hq, nat_small (by omega) n2.2 (by omega) rfl⟩
  · obtain ⟨s, hs⟩ := right_sign hN0 hr.int
    refine ⟨((2 ^ k : Nat) : Int) + 2, by omega, nat_small (by omega) (Int.le_refl _) (by omega) rfl, fun hen h0 d hd => ?_⟩
    have e := far_sign (f := ev r) (s := s) (dir := p.2) (T := p.1) (T0 := ((2 ^ k : Nat) : Int) + 1) hs (fun d hd => hst d hd (fun e he => by rw [hen] at he; cases he)) h0
    rw [hs d (by omega), e]
/-! ### the chain of steps, the last one first -/
def Good (r : List Int) : Prop := Canon r ∧ Bd 1500 r ∧ r.length ≤ 11
def ChOk (C : Addr) (H : Hp) : List (Addr × List Int) → Prop
  | [] => False
  | [x] => PolyAt C H x.1 x.2 ∧ Good x.2
  | x :: y :: rest => PolyAt C H x.1 x.2 ∧ Good x.2 ∧ (∀ z, ev x.2 z = ev y.2 (z + 1) - ev y.2 z) ∧ ChOk C H (y :: rest)
theorem ChOk.same {C : Addr} {H H' : Hp} (s : Same H H') : ∀ {rv : List (Addr × List Int)}, ChOk C H rv → ChOk C H' rv
  | [], h => h
  | [_], h => ⟨h.1.same s, h.2⟩
  | _ :: _ :: _, h => ⟨h.1.same s, h.2.1, h.2.2.1, ChOk.same s h.2.2.2⟩
theorem ChOk.at {C : Addr} {H : Hp} : ∀ {rv : List (Addr × List Int)}, ChOk C H rv → ∀ {i : Nat} {x : Addr × List Int}, rv[i]? = some x → PolyAt C H x.1 x.2 ∧ Good x.2 ∧ ∀ y, rv[i + 1]? = some y → ∀ z, ev x.2 z = ev y.2 (z + 1) - ev y.2 z
  | [], h, _, _, _ => h.elim
  | [_], h, 0, x, e => by cases e; exact ⟨h.1, h.2, fun y z => by simp at z⟩
  | [_], h, i + 1, x, e => by simp at e
  | _ :: _ :: _, h, 0, x, e => by cases e; exact ⟨h.1, h.2.1, fun y z => by cases z; exact h.2.2.1⟩
  | _ :: _ :: _, h, i + 1, x, e => ChOk.at h.2.2.2 (i := i) e
def fA : Addr × List Int → V := fun x => .ref x.1
theorem back_rv (x : Addr × List Int) (rest : List (Addr × List Int)) : ((x :: rest).reverse.map fA).dropLast.reverse = rest.map fA := by
  rw [List.reverse_cons, List.map_append]
  simp [fA]
theorem last_rv (x : Addr × List Int) (rest : List (Addr × List Int)) : (x :: rest).reverse.map fA = rest.reverse.map fA ++ [.ref x.1] := by
  rw [List.reverse_cons, List.map_append]; rfl
theorem ext_runs {H H' : Hp} {D : Addr} {F : List (Int × Int)} (s : ∀ b o, b ≠ D → H b = some o → H' b = some o) {acc : List V} (h1 : H D = some (.lst acc)) (h2 : Tups H acc F) {ws : List V} {M : List (Int × Int)} (h3 : Tups H ws M) (h4 : H' D = some (.lst (acc ++ ws))) : RunsAt H' D (F ++ M) :=
  ⟨_, h4, Tups.append (tups_but s h1 h2) (tups_but s h1 h3)⟩
end S71

namespace S71
open PySem L2 SR
theorem oneSign_none {r : List Int} (h : oneSign r = none) : True := trivial
theorem oneSign_some {r : List Int} {v : Int} (hc : Canon r) (h : oneSign r = some v) : IsRuns (fun d => sgn (ev r d)) 1 [(1, v)] := by
  unfold oneSign at h
  by_cases hp : r.any (fun a => decide (a > 0)) = true
  · rw [if_pos hp] at h
    by_cases hn : r.any (fun a => decide (a < 0)) = true
    · rw [if_pos hn] at h; cases h
    · rw [if_neg hn] at h
      cases h
      obtain ⟨a, ha, hq⟩ := List.any_eq_true.mp hp
      refine one_pos (fun b hb => ?_) ⟨a, ha, by simpa using hq⟩
      by_cases hb2 : b < 0
      · exact absurd (List.any_eq_true.mpr ⟨b, hb, by simpa using hb2⟩) hn
      · omega
  · rw [if_neg hp] at h
    by_cases hn : r = []
    · rw [if_pos hn] at h
      cases h
      subst hn
      exact one_zero
    · rw [if_neg hn] at h
      cases h
      refine one_neg hc hn (fun b hb => ?_)
      by_cases hb2 : b > 0
      · exact absurd (List.any_eq_true.mpr ⟨b, hb, by simpa using hb2⟩) hp
      · omega
theorem pow3 {i : Nat} (h : i ≤ 11) : 3 ^ i ≤ 177147 := Nat.le_trans (Nat.pow_le_pow_right (by decide) h) (by decide)
section
variable {P : Program} {w : World} {K : PySem.W.Frag} {mg : Str → Option Value} {base : Heap}
/-! ### sign_runs -/
def spSignRuns (C : Addr) : Sp := fun vs H Q _ => ∃ (p : Addr) (r : List Int), vs = [.ref p] ∧ PolyAt C H p r ∧ Canon r ∧ Bd 450 r ∧ r.length ≤ 11 ∧
  ∀ (H' : Hp) (l : Addr) (L : List (Int × Int)), Same H H' → H l = none → RunsAt H' l L → IsRuns (fun d => sgn (ev r d)) 1 L → L.length ≤ 600000 → Q (.ref l) H'
abbrev nSR : List Str := ["polynomial", "sign", "chain", "runs", "one", "found", "number", "start", "end"]
theorem scSR : FnScope nSR ["polynomial"] (defScope sSignRuns) := ⟨rfl, rfl, rfl, by decide +kernel, rfl, by decide +kernel, by decide +kernel⟩
theorem ok_signRuns {f C : Addr} {fd : FuncData} (F : Fun K "sign_runs" "sign_runs" sSignRuns f fd) (T : Bn mg) (N : PCl P w K mg base C) (DO : Df P w K mg base "one_sign" ["row"] 1 (spOne K)) (DR : Df P w K mg base "row_of" ["value"] 2 (spCoef C))
    (DSt : Df P w K mg base "step_of" ["polynomial"] 5 (spStep C)) (DS : Df P w K mg base "sign_at" ["polynomial", "d"] 3 (spSignAt C)) (DI : Df P w K mg base "runs_in" ["polynomial", "start", "end", "direction"] 5 (spRunsIn C)) (DJ : Df P w K mg base "joined_runs" ["runs"] 1 spJoined) :
    FnOk P w K mg base CX0 6 f fd ["polynomial"] (spSignRuns C) := by
  refine F.ok scSR (fun vs H Q E h => ?_) (fun cdv A outer s H vs Q E hr h => ?_)
  · obtain ⟨p, r, rfl, _⟩ := h
    rfl
  · obtain ⟨p, r, rfl, hp, hcan, hbd, hlen, q⟩ := h
    obtain ⟨pp, pg, pfd, pprop, pb, PF⟩ := N.deg
    refine ⟨_, pss_cons (ps_set (i := 1) scSR.nd rfl (Or.inl rfl) (pe_df DO (hr.mono (by decide)) (by rfl) (pa_cons (pe_df DR (hr.mono (by decide)) (by rfl) (pa_cons (pv 0) pa_nil)) pa_nil)))
      (pss_cons (ps_if (pt_cmpR op_notN (pv 1) pe_non (nomark _)) (pss_one (ps_ret (pe_lst (pa_cons (pe_tup (pa_cons pe_int (pa_cons (pv 1) pa_nil))) pa_nil)))) pss_nil)
      (pss_cons (ps_set (i := 2) scSR.nd rfl (Or.inl rfl) (pe_lst (pa_cons (pv 0) pa_nil)))
      (pss_cons (ps_while PassesOwn.never (pt_cmpR op_gt (pe_prop (pe_ix ix_list (pv 2) (pe_un un_neg pe_int) (fun _ _ => rfl)) N.pm.pc.cl pprop PF (hr.mono (by decide)) pb .nil pass0 rfl) pe_int (nomark _))
        (pss_one (ps_expr (pe_bm PySem.F.plainAttrs_list PySem.F.slot_list_append PySem.F.type_list_append mt_append (pv 2) (pa_cons (pe_df DSt hr (by rfl) (pa_cons (pe_ix ix_list (pv 2) (pe_un un_neg pe_int) (fun _ _ => rfl)) pa_nil)) pa_nil)))))
      (pss_cons (ps_set (i := 3) scSR.nd rfl (Or.inl rfl) (pe_lst (pa_cons (pe_tup (pa_cons pe_int (pa_cons (pe_df DS (hr.mono (by decide)) (by rfl) (pa_cons (pe_ix ix_list (pv 2) (pe_un un_neg pe_int) (fun _ _ => rfl)) (pa_cons pe_int pa_nil))) pa_nil))) pa_nil)))
      (pss_cons (ps_for PassesOwn.never rfl (pi_list (pe_back2 (pv 2))) (pg_name (i := 4) scSR.nd rfl (Or.inl rfl))
        (pss_cons (ps_set (i := 5) scSR.nd rfl (Or.inl rfl) (pe_lst pa_nil))
        (pss_cons (ps_for PassesOwn.never rfl (pi_enum (by rfl) T.enum (pa_cons (pv 3) pa_nil)) (pg_tup rfl (pgs_cons (pg_name (i := 6) scSR.nd rfl (Or.inl rfl)) (pgs_cons (pg_tup rfl (pgs_cons (pg_name (i := 7) scSR.nd rfl (Or.inl rfl)) (pgs_cons (pg_name (i := 1) scSR.nd rfl (Or.inl rfl)) pgs_nil))) pgs_nil)))
          (pss_cons (ps_set (i := 8) scSR.nd rfl (Or.inl rfl) (pe_ifExp (pt_cmpR op_lt (pe_op op_add (pv 6) pe_int) (pe_callB call_len_seq (by rfl) T.len PySem.boot_len (pa_cons (pv 3) pa_nil)) (nomark _))
            (pe_ix ix_tup (pe_ix ix_list (pv 3) (pe_op op_add (pv 6) pe_int) (fun _ _ => rfl)) pe_int (fun _ _ => rfl)) pe_non))
          (pss_one (ps_expr (pe_bm PySem.F.plainAttrs_list PySem.F.slot_list_extend PySem.F.type_list_extend mt_extend (pv 5) (pa_cons (pe_df DI hr (by rfl) (pa_cons (pv 4) (pa_cons (pv 7) (pa_cons (pv 8) (pa_cons (pv 1) pa_nil))))) pa_nil))))))
        (pss_one (ps_set (i := 3) scSR.nd rfl (Or.inl rfl) (pe_df DJ (hr.mono (by decide)) (by rfl) (pa_cons (pv 5) pa_nil)))))))
      (pss_one (ps_ret (pv 3)))))))), ?_⟩
    refine ⟨_, rfl, p, r, rfl, hp, fun t ht => ?_⟩
    refine ⟨t, r, rfl, .inl (.inl ht), by omega, fun H1 s1 => ?_⟩
    refine ⟨_, rfl, rfl, _, rfl, ?_⟩
    cases hos : oneSign r with
    | some v =>
      refine iteT ?_
      refine ⟨_, rfl, (by show 2 ≤ sizeLine; decide), fun tp htp => ?_⟩
      refine ⟨(by show 1 ≤ sizeLine; decide), fun l hl => ?_⟩
      have s2 := sNew (o := .tup [V.int 1, V.int v]) s1 htp
      have s3 := sNew (o := .lst [V.ref tp]) s2 hl
      refine q _ l [(1, v)] s3 (s2.free hl) ⟨_, upd_same, Tups.one (old upd_same hl)⟩ (oneSign_some hcan hos) (by show 1 ≤ 600000; decide)
    | none =>
      refine iteF ?_
      refine ⟨_, rfl, (by show 1 ≤ sizeLine; decide), fun lc hlc => ?_⟩
      have hgood : Good r := ⟨hcan, hbd.mono (by omega), hlen⟩
      have s2 := sNew (o := .lst [V.ref p]) s1 hlc
      refine ⟨fun mm σ H' => ∃ (x : Addr × List Int) (rest : List (Addr × List Int)), σ = [some (.ref p), some .non, some (.ref lc), none, none, none, none, none, none] ∧ mm = x.2.length ∧ Same H1 H' ∧ H' lc = some (.lst ((x :: rest).reverse.map fA)) ∧ ChOk C H' (x :: rest) ∧ (x :: rest).getLast? = some (p, r) ∧ Bd (450 + 90 * rest.length) x.2 ∧ x.2.length + rest.length ≤ 11,
        ⟨r.length, (p, r), [], rfl, rfl, sNew (Same.refl H1) hlc, upd_same, ⟨hp.same s2, hgood⟩, rfl, hbd, hlen⟩, ?_⟩
      rintro mm σ H2 ⟨x, rest, rfl, rfl, s3, hch, hok, hlast, hb, hle⟩
      have hch' := hch
      rw [last_rv] at hch'
      obtain ⟨hx1, hx2, hx3⟩ := hok.at (i := 0) rfl
      obtain ⟨dx, tx, hx4, hx5⟩ := id hx1
      refine ⟨_, rfl, _, rfl, lc, _, _, _, rfl, rfl, SqL.of hch', atI_lastV _ _, x.1, dx, _, rfl, hx4, x.1, x.2, rfl, hx1, ?_⟩
      refine ⟨_, _, rfl, rfl, _, rfl, ?_⟩
      by_cases hdeg : (x.2.length : Int) - 1 > 0
      · -- one more step
        rw [decide_eq_true hdeg]
        refine iteT ?_
        refine ⟨fun σ' H' => ∃ (x' : Addr × List Int) (rest' : List (Addr × List Int)), x'.2.length < x.2.length ∧ σ' = [some (.ref p), some .non, some (.ref lc), none, none, none, none, none, none] ∧ Same H1 H' ∧ H' lc = some (.lst ((x' :: rest').reverse.map fA)) ∧ ChOk C H' (x' :: rest') ∧ (x' :: rest').getLast? = some (p, r) ∧ Bd (450 + 90 * rest'.length) x'.2 ∧ x'.2.length + rest'.length ≤ 11, fun σ' H' ⟨x', rest', c0, c1, c2⟩ => ⟨_, c0, x', rest', c1, rfl, c2⟩, ?_⟩
        refine ⟨_, rfl, .inl ⟨rfl, _, SqL.of hch⟩, ?_⟩
        refine ⟨_, rfl, _, rfl, lc, _, _, _, rfl, rfl, SqL.of hch', atI_lastV _ _, x.1, x.2, 450 + 90 * rest.length, rfl, hx1, hb, by omega, hx2.2.2, fun H3 p3 c s4 hp3 hc hcc hev hbc => ?_⟩
        refine ⟨lc, _, _, rfl, rfl, s4 _ _ hch, ?_, ?_⟩
        · rw [List.length_map, List.length_reverse, List.length_cons]; exact lt_line (by omega)
        · have hcl : c.length < x.2.length := step_len hcc hev (by omega)
          have sb : Same H1 (upd H3 lc (.lst ((x :: rest).reverse.map fA ++ [V.ref p3]))) := sPut (Same.trans s3 s4) hlc
          have sok : ∀ b o, b ≠ lc → H3 b = some o → upd H3 lc (.lst ((x :: rest).reverse.map fA ++ [V.ref p3])) b = some o := fun b o hb e => by rw [upd_ne hb]; exact e
          have pk : ∀ {a : Addr} {u : List Int}, PolyAt C H3 a u → PolyAt C (upd H3 lc (.lst ((x :: rest).reverse.map fA ++ [V.ref p3]))) a u := fun {a u} ⟨d1, t1, e1, e2⟩ => by
            have hl3 := s4 _ _ hch
            exact ⟨d1, t1, sok _ _ (fun z => by rw [z, hl3] at e1; cases e1) e1, sok _ _ (fun z => by rw [z, hl3] at e2; cases e2) e2⟩
          have cok : ∀ {rv : List (Addr × List Int)}, ChOk C H3 rv → ChOk C (upd H3 lc (.lst ((x :: rest).reverse.map fA ++ [V.ref p3]))) rv := by
            intro rv
            induction rv with
            | nil => exact fun h => h
            | cons a b ih =>
              cases b with
              | nil => exact fun h => ⟨pk h.1, h.2⟩
              | cons c d => exact fun h => ⟨pk h.1, h.2.1, h.2.2.1, ih h.2.2.2⟩
          refine ⟨(p3, c), x :: rest, hcl, rfl, sb, ?_, ⟨pk hc, ⟨hcc, hbc.mono (by omega), by show c.length ≤ 11; omega⟩, hev, cok (hok.same s4)⟩, ?_, ?_, ?_⟩
          · rw [upd_same, last_rv (p3, c) (x :: rest)]
          · rw [List.getLast?_cons_cons]; exact hlast
          · exact hbc.mono (by simp only [List.length_cons]; omega)
          · simp only [List.length_cons]; omega
      · -- the chain is made
        rw [decide_eq_false hdeg]
        refine iteF ?_
        refine ⟨_, rfl, _, rfl, lc, _, _, _, rfl, rfl, SqL.of hch', atI_lastV _ _, x.1, x.2, 1, 1500, 2, rfl, hx1, hx2.2.1, by decide, by omega, by omega, by omega, fun H3 s4 => ?_⟩
        refine ⟨(by show 2 ≤ sizeLine; decide), fun tp htp => ?_⟩
        refine ⟨(by show 1 ≤ sizeLine; decide), fun lr hlr => ?_⟩
        have s5 := sNew (o := .lst [V.ref tp]) (sNew (o := .tup [V.int 1, V.int (sgn (ev x.2 1))]) s4 htp) hlr
        have hR0 : RunsAt (upd (upd H3 tp (.tup [V.int 1, V.int (sgn (ev x.2 1))])) lr (.lst [V.ref tp])) lr [(1, sgn (ev x.2 1))] := ⟨_, upd_same, Tups.one (old upd_same hlr)⟩
        have flr : H2 lr = none := (sNew (o := .tup [V.int 1, V.int (sgn (ev x.2 1))]) s4 htp).free hlr
        generalize upd (upd H3 tp (.tup [V.int 1, V.int (sgn (ev x.2 1))])) lr (.lst [V.ref tp]) = H4 at s5 hR0 ⊢
        have hok4 := hok.same s5
        refine ⟨_, rfl, lc, _, rfl, SqL.of (s5 _ _ hch), by rw [last_rv]; simp, fun lb hlb => ?_⟩
        rw [back_rv]
        have s6 := sNew (o := .lst (rest.map fA)) (Same.refl H4) hlb
        generalize hH5 : upd H4 lb (.lst (rest.map fA)) = H5 at s6 ⊢
        have hlb5 : H5 lb = some (.lst (rest.map fA)) := by rw [← hH5]; exact upd_same
        have hok5 := hok4.same s6
        have s05 : Same H H5 := Same.trans s1 (Same.trans s3 (Same.trans s5 s6))
        have f0lr : H lr = none := (Same.trans s1 s3).free flr
        refine ⟨lb, rfl, ⟨_, SqL.of hlb5⟩, for_it (walk_list (K := K) (a := lb) (xs := rest.map fA)) (fun i σ H' => ∃ (lr : Addr) (L : List (Int × Int)) (y : Addr × List Int) (v1 v4 v5 v6 v7 v8 : Option V), σ = [some (.ref p), v1, some (.ref lc), some (.ref lr), v4, v5, v6, v7, v8] ∧ Same H5 H' ∧ RunsAt H' lr L ∧ H lr = none ∧ (x :: rest)[i]? = some y ∧ IsRuns (fun d => sgn (ev y.2 d)) 1 L ∧ L.length ≤ 3 ^ i)
          ⟨lr, _, x, _, _, _, _, _, _, rfl, Same.refl _, hR0.same s6, f0lr, rfl, short_runs (by omega), by show 1 ≤ 1; decide⟩ (fun i σ H' _ ⟨_, _, _, _, _, _, _, _, _, _, h, _⟩ => SqL.of (h _ _ hlb5)) ?_ ?_⟩
        · rintro i yv σ _ H6 hi ⟨lr, L, y, v1, v4, v5, v6, v7, v8, rfl, s7, hL, f0, hy, hRL, hLl⟩ ⟨rfl, hyv⟩
          obtain ⟨z, hz, rfl⟩ := map_get hyv
          have hi7 : i ≤ 10 := by
            have := (List.getElem?_eq_some_iff.mp hz).1
            omega
          obtain ⟨y1, y2, y3⟩ := hok5.at hy
          obtain ⟨z1, z2, z3⟩ := hok5.at (i := i + 1) (x := z) hz
          have hstep := y3 z hz
          have p3 := pow3 (i := i) (by omega)
          obtain ⟨lv, hl1, hl2⟩ := id hL
          have hlenL : lv.length = L.length := hl2.len
          refine ⟨Nat.zero_le _, fun lf hlf => ?_⟩
          have s8 := sNew (o := .lst []) (Same.refl H6) hlf
          refine ⟨_, rfl, lr, _, rfl, SqL.of (s8 _ _ hl1), ?_⟩
          refine for_it (walk_enum (K := K) (a := lr) (xs := lv)) (fun j σ H' => ∃ (F : List (Int × Int)) (v1 v6 v7 v8 : Option V), σ = [some (.ref p), v1, some (.ref lc), some (.ref lr), some (.ref z.1), some (.ref lf), v6, v7, v8] ∧ Same H6 H' ∧ RunsAt H' lf F ∧ ((j = 0 ∧ F = []) ∨ Seg (fun d => sgn (ev z.2 d)) 1 (L[j]?.map (·.1)) F) ∧ F.length ≤ 3 * j)
            ⟨[], _, _, _, _, rfl, s8, ⟨[], upd_same, trivial⟩, .inl ⟨rfl, rfl⟩, Nat.zero_le _⟩ (fun j σ H' _ ⟨_, _, _, _, _, _, h, _⟩ => SqL.of (h _ _ hl1)) ?_ ?_
          · rintro j xv σ H7 H8 hj ⟨FF, w1, w6, w7, w8, rfl, s9, hF, hseg, hFl⟩ ⟨TT, x1, x2, rfl, hTT, rfl, e1, e2⟩
            have e1 : x1 = V.int ((j : Nat) : Int) := (Option.some.inj e1).symm
            subst e1
            obtain ⟨pr, tr, hpr, rfl, htr⟩ := hl2.get e2
            have s10 := sNew (o := .tup [V.int ((j : Nat) : Int), V.ref tr]) s9 hTT
            refine ⟨TT, _, rfl, .inl (.inl upd_same), rfl, _, _, rfl, _, _, rfl, tr, _, rfl, .inl (.inl (s10 _ _ htr)), rfl, _, _, rfl, _, _, rfl, rfl, rfl, ?_⟩
            have ri := ri_of z2.2.1 y2.2.1 hstep hRL hpr
            have hF10 := hF.same (sNew (o := .tup [V.int ((j : Nat) : Int), V.ref tr]) (Same.refl H7) hTT)
            generalize upd H7 TT (.tup [V.int ((j : Nat) : Int), V.ref tr]) = H9 at s10 hF10 ⊢
            have fin : ∀ (H' : Hp) (l : Addr) (M : List (Int × Int)) , Same H9 H' → RunsAt H' l M → Seg (fun d => sgn (ev z.2 d)) pr.1 (L[j + 1]?.map (·.1)) M → M.length ≤ 3 → ∀ acc, H9 lf = some (.lst acc) → Tups H9 acc FF →
                ∃ ws, H' l = some (.lst ws) ∧ Tups H' ws M ∧ acc.length + ws.length ≤ sizeLine ∧ Same H6 (upd H' lf (.lst (acc ++ ws))) ∧ RunsAt (upd H' lf (.lst (acc ++ ws))) lf (FF ++ M) ∧ ((j + 1 = 0 ∧ FF ++ M = []) ∨ Seg (fun d => sgn (ev z.2 d)) 1 (L[j + 1]?.map (·.1)) (FF ++ M)) ∧ (FF ++ M).length ≤ 3 * (j + 1) := by
              intro H' l M sM hM hsg hMl acc ha1 ha2
              obtain ⟨ws, hw1, hw2⟩ := hM
              have hlj : j < L.length := (List.getElem?_eq_some_iff.mp hpr).1
              refine ⟨ws, hw1, hw2, ?_, sPut (Same.trans s10 sM) hlf, ext_runs (fun b o hb e => by rw [upd_ne hb]; exact e) (sM _ _ ha1) (ha2.same sM) hw2 upd_same, .inr ?_, ?_⟩
              · rw [ha2.len, hw2.len]; exact le_line (by omega)
              · rcases hseg with ⟨rfl, rfl⟩ | hseg
                · obtain ⟨v0, hv0⟩ := hRL.first
                  rw [hv0] at hpr
                  cases hpr
                  exact hsg
                · rw [hpr] at hseg
                  exact hseg.append hsg
              · rw [List.length_append]; omega
            obtain ⟨acc, ha1, ha2⟩ := id hF10
            refine ⟨_, rfl, _, _, rfl, rfl, _, rfl, lr, _, rfl, .inl (SqL.of (s10 _ _ hl1)), _, _, rfl, rfl, _, rfl, ?_⟩
            cases hnx : L[j + 1]? with
            | none =>
              have hge : ¬ ((j : Nat) : Int) + 1 < ((lv.length : Nat) : Int) := by
                have := List.getElem?_eq_none_iff.mp hnx
                omega
              rw [decide_eq_false hge]
              refine iteF ?_
              rw [hnx] at ri fin
              refine ⟨_, rfl, .inl ⟨rfl, _, SqL.of ha1⟩, _, rfl, _, rfl, _, rfl, _, rfl, z.1, z.2, pr.1, none, pr.2, 1500, 1503, rfl, z1.same (Same.trans s7 s10), z2.2.1, Nat.le_trans z2.2.2 (by decide), by omega, by omega, ri, fun H' l M sM _ hM hsg hMl => ?_⟩
              obtain ⟨ws, b1, b2, b3, b4, b5, b6, b7⟩ := fin H' l M sM hM hsg hMl acc ha1 ha2
              exact ⟨lf, l, acc, ws, rfl, rfl, sM _ _ ha1, b1, b3, _, _, _, _, _, rfl, b4, b5, b6, b7⟩
            | some nx =>
              have hlt : ((j : Nat) : Int) + 1 < ((lv.length : Nat) : Int) := by
                have := (List.getElem?_eq_some_iff.mp hnx).1
                omega
              rw [decide_eq_true hlt]
              refine iteT ?_
              rw [hnx] at ri fin
              obtain ⟨tn, htn1, htn2⟩ : ∃ tn, lv[j + 1]? = some (V.ref tn) ∧ H6 tn = some (.tup [V.int nx.1, V.int nx.2]) := by
                obtain ⟨hb, _⟩ := List.getElem?_eq_some_iff.mp hnx
                have hb2 : j + 1 < lv.length := by omega
                obtain ⟨p', t', c1, c2, c3⟩ := hl2.get (List.getElem?_eq_getElem hb2)
                rw [hnx] at c1
                cases c1
                exact ⟨t', by rw [List.getElem?_eq_getElem hb2, c2], c3⟩
              refine ⟨_, rfl, _, rfl, _, _, rfl, rfl, lr, _, _, _, rfl, rfl, SqL.of (s10 _ _ hl1), at_of (j := j + 1) (by omega) htn1, tn, _, _, _, rfl, rfl, .inl (.inl (s10 _ _ htn2)), at_of (j := 0) rfl rfl, ?_⟩
              refine ⟨_, rfl, .inl ⟨rfl, _, SqL.of ha1⟩, _, rfl, _, rfl, _, rfl, _, rfl, z.1, z.2, pr.1, some nx.1, pr.2, 1500, 1503, rfl, z1.same (Same.trans s7 s10), z2.2.1, Nat.le_trans z2.2.2 (by decide), by omega, by omega, ri, fun H' l M sM _ hM hsg hMl => ?_⟩
              obtain ⟨ws, b1, b2, b3, b4, b5, b6, b7⟩ := fin H' l M sM hM hsg hMl acc ha1 ha2
              exact ⟨lf, l, acc, ws, rfl, rfl, sM _ _ ha1, b1, b3, _, _, _, _, _, rfl, b4, b5, b6, b7⟩
          · rintro σ H7 ⟨FF, w1, w6, w7, w8, rfl, s9, hF, hseg, hFl⟩
            have hseg' : Seg (fun d => sgn (ev z.2 d)) 1 none FF := by
              have hne := List.length_pos_iff.mpr hRL.ne
              rcases hseg with ⟨e, _⟩ | hseg
              · omega
              · rw [hlenL, List.getElem?_eq_none (Nat.le_refl _)] at hseg
                exact hseg
            have hF3 : FF.length ≤ 3 * 3 ^ i := by
              rw [hlenL] at hFl
              omega
            refine ⟨_, rfl, lf, FF, rfl, hF, by omega, fun H8 l8 s11 hl8 hR8 => ?_⟩
            refine ⟨l8, joined FF, z, _, _, _, _, _, _, rfl, Same.trans s7 (Same.trans s9 s11), hR8, (Same.trans s05 (Same.trans s7 s9)).free hl8, hz, joined_runs hseg', ?_⟩
            have := join_len [] FF
            simp only [List.length_nil] at this
            show (joined FF).length ≤ 3 ^ (i + 1)
            unfold joined
            rw [Nat.pow_succ]
            omega
        · rintro σ H6 ⟨lr, L, y, v1, v4, v5, v6, v7, v8, rfl, s7, hL, f0, hy, hRL, hLl⟩
          rw [List.length_map] at hy hLl
          have ey : y = (p, r) := by
            rw [List.getLast?_eq_getElem?] at hlast
            have e : (x :: rest).length - 1 = rest.length := by simp
            rw [e, hy] at hlast
            exact Option.some.inj hlast
          subst ey
          have p3 := pow3 (i := rest.length) (by omega)
          exact ⟨_, rfl, q H6 lr L (Same.trans s05 s7) f0 hL hRL (by omega)⟩
end
end S71

namespace S71
open PySem L2 SR TXM
theorem log_of {n m : Nat} (h : n < 2 ^ m) (h0 : 0 < m) : n.log2 < m := by
  by_cases hn : n = 0
  · subst hn
    exact h0
  · exact (Nat.log2_lt hn).mpr h
/-! ### the built-in names -//-- the two numbers that draw -/
def PotAt (H : Hp) (l : Addr) : Prop := ∃ x y : Int, H l = some (.lst [.int x, .int y]) ∧ 0 ≤ x ∧ 0 ≤ y ∧ y < 4294967296
theorem SameX.same {x : Addr} {H H' H2 : Hp} (a : SameX x H H') (b : Same H' H2) : SameX x H H2 := fun c o hc e => b c o (a c o hc e)
theorem SameX.trans {x : Addr} {H H' H2 : Hp} (a : SameX x H H') (b : SameX x H' H2) : SameX x H H2 := fun c o hc e => b c o hc (a c o hc e)
theorem SameX.of {x : Addr} {H H' : Hp} (a : Same H H') : SameX x H H' := fun c o _ e => a c o e
theorem SameX.put {x : Addr} {H H' : Hp} {o : HO} (a : SameX x H H') : SameX x H (upd H' x o) := fun c p hc e => by rw [upd_ne hc]; exact a c p hc e
theorem SameX.free {x : Addr} {H H' : Hp} (a : SameX x H H') {l : Addr} (hl : l ≠ x) (h : H' l = none) : H l = none := by
  cases e : H l with
  | none => rfl
  | some o => rw [a l o hl e] at h; cases h
theorem PotAt.same {H H' : Hp} {l : Addr} (s : Same H H') (h : PotAt H l) : PotAt H' l := by
  obtain ⟨x, y, e, r⟩ := h
  exact ⟨x, y, s _ _ e, r⟩
theorem PotAt.ne {H : Hp} {l t : Addr} (h : PotAt H l) (ht : H t = none) : t ≠ l := fun e => by
  obtain ⟨x, y, e1, _⟩ := h
  rw [e, e1] at ht
  cases ht
theorem PotAt.put {H : Hp} {l p : Addr} {o : HO} (h : PotAt H l) (n : l ≠ p) : PotAt (upd H p o) l := by
  obtain ⟨x, y, e, r⟩ := h
  exact ⟨x, y, by rw [upd_ne n]; exact e, r⟩
theorem SameX.new {x p : Addr} {H H' : Hp} {o : HO} (a : SameX x H H') (n : H p = none) : SameX x H (upd H' p o) := fun b u hb e => by
  rw [upd_ne (ne_of_none e n)]
  exact a b u hb e
section
variable {P : Program} {w : World} {K : PySem.W.Frag} {mg : Str → Option Value} {base : Heap}
/-! ### _law_rng -/
def spRng (K : PySem.W.Frag) : Sp := fun vs H Q _ => ∃ (a : Addr) (ns : List Int) (k : Nat), vs = [.ref a, .int k] ∧ SqL K H a (ns.map V.int) ∧ k < 4 ∧ ns.length ≤ 1000 ∧ ∀ H' l, Same H H' → H l = none → PotAt H' l → Q (.ref l) H'
abbrev nRng : List Str := ["_law_script", "_law_k", "_law_cell"]
theorem scRng : FnScope nRng ["_law_script", "_law_k"] (defScope sRng) := ⟨rfl, rfl, rfl, by decide +kernel, rfl, by decide +kernel, by decide +kernel⟩
theorem ok_rng {f : Addr} {fd : FuncData} (F : Fun K "_law_rng" "_law_rng" sRng f fd) (T : Bn mg) : FnOk P w K mg base CX0 1 f fd ["_law_script", "_law_k"] (spRng K) := by
  refine F.ok scRng (fun vs H Q E h => ?_) (fun cdv A outer s H vs Q E hr h => ?_)
  · obtain ⟨a, ns, k, rfl, _⟩ := h
    rfl
  · obtain ⟨a, ns, k, rfl, ha, hk, hl, q⟩ := h
    refine ⟨_, pss_cons (ps_set (i := 2) scRng.nd rfl (Or.inl rfl) (pe_op op_add (pe_op op_mul pe_int (pv 1)) pe_int))
      (pss_cons (ps_if (pt_cmpR op_lt (pv 1) (pe_callB call_len_seq (by rfl) T.len PySem.boot_len (pa_cons (pv 0) pa_nil)) (nomark _)) (pss_one (ps_set (i := 2) scRng.nd rfl (Or.inl rfl) (pe_ix ix_list (pv 0) (pv 1) (fun _ _ => rfl)))) pss_nil)
      (pss_one (ps_ret (pe_lst (pa_cons (pe_callB (call_max2 rfl) (by rfl) T.max (by decide +kernel) (pa_cons pe_int (pa_cons (pe_op op_sub (pe_callB call_abs (by rfl) T.abs (by decide +kernel) (pa_cons (pv 2) pa_nil)) (pe_op op_pow pe_int pe_int)) pa_nil)))
        (pa_cons (pe_op op_add (pe_op op_mod (pe_op op_mul (pe_callTy call_int1 (by rfl) T.int (by decide +kernel) (pa_cons (pe_op op_add (pe_op op_mod (pe_callTy call_int1 (by rfl) T.int (by decide +kernel) (pa_cons (pe_callB call_abs (by rfl) T.abs (by decide +kernel) (pa_cons (pv 2) pa_nil)) pa_nil)) pe_int) pe_int) pa_nil)) (pe_op op_pow (pe_op op_add (pe_op op_mul pe_int (pv 1)) pe_int) pe_int)) pe_int) pe_int) pa_nil)))))), ?_⟩
    refine ⟨_, rfl, _, _, rfl, rfl, .inl ⟨by decide, by decide⟩, _, _, rfl, rfl, ?_⟩
    refine ⟨_, rfl, _, rfl, a, _, rfl, .inl ha, _, _, rfl, rfl, _, rfl, ?_⟩
    by_cases hlt : ((k : Nat) : Int) < ((ns.map V.int).length : Nat)
    · rw [decide_eq_true hlt]
      refine iteT ?_
      have hk2 : k < ns.length := by
        rw [List.length_map] at hlt
        omega
      refine ⟨_, rfl, _, rfl, a, _, _, V.int ns[k], rfl, rfl, ha, at_of (j := k) rfl (by rw [List.getElem?_map, List.getElem?_eq_getElem hk2]; rfl), ?_⟩
      refine ⟨_, rfl, _, rfl, _, _, rfl, rfl, ⟨by decide, by decide, by decide⟩, _, _, rfl, rfl, _, _, rfl, ?_⟩
      have hm1 := Int.emod_nonneg (if ns[k] < 0 then -ns[k] else ns[k]) (b := 2147483489) (by omega)
      have hm2 := Int.emod_lt_of_pos (if ns[k] < 0 then -ns[k] else ns[k]) (b := 2147483489) (by omega)
      refine ⟨_, rfl, _, rfl, .inl ⟨_, rfl, _, _, rfl, rfl, (by show (0 : Int) < 2147483489; decide), _, _, rfl, rfl, .inl ⟨_, rfl, _, rfl, _, _, rfl, rfl, .inl ⟨by decide, by decide⟩, _, _, rfl, rfl, _, _, rfl, rfl, ⟨by decide, by decide, ?_⟩, _, _, rfl, rfl, .inl ⟨by omega, by omega⟩, _, _, rfl, rfl, (by show (0 : Int) < 2147483423; decide), _, _, rfl, rfl, ?_⟩⟩⟩
      · have : (2 * ((k : Nat) : Int) + 7).natAbs ≤ 100 := by omega
        exact Nat.lt_of_le_of_lt this (by decide)
      refine ⟨(by show 2 ≤ sizeLine; decide), fun l hl => q _ l (sNew (Same.refl H) hl) hl ⟨_, _, upd_same, ?_, ?_, ?_⟩⟩
      · split <;> omega
      · have := Int.emod_nonneg (((if ns[k] < 0 then -ns[k] else ns[k]) % 2147483489 + 1) * (2 * ((k : Nat) : Int) + 7) ^ (3 : Int).toNat) (b := 2147483423) (by omega)
        omega
      · have := Int.emod_lt_of_pos (((if ns[k] < 0 then -ns[k] else ns[k]) % 2147483489 + 1) * (2 * ((k : Nat) : Int) + 7) ^ (3 : Int).toNat) (b := 2147483423) (by omega)
        omega
    · rw [decide_eq_false hlt]
      refine iteF ?_
      refine ⟨_, rfl, _, rfl, _, _, rfl, rfl, ⟨by decide, by decide, by decide⟩, _, _, rfl, rfl, _, _, rfl, ?_⟩
      have hm1 := Int.emod_nonneg (if (17 * ((k : Nat) : Int) + 3) < 0 then -(17 * ((k : Nat) : Int) + 3) else (17 * ((k : Nat) : Int) + 3)) (b := 2147483489) (by omega)
      have hm2 := Int.emod_lt_of_pos (if (17 * ((k : Nat) : Int) + 3) < 0 then -(17 * ((k : Nat) : Int) + 3) else (17 * ((k : Nat) : Int) + 3)) (b := 2147483489) (by omega)
      refine ⟨_, rfl, _, rfl, .inl ⟨_, rfl, _, _, rfl, rfl, (by show (0 : Int) < 2147483489; decide), _, _, rfl, rfl, .inl ⟨_, rfl, _, rfl, _, _, rfl, rfl, .inl ⟨by decide, by decide⟩, _, _, rfl, rfl, _, _, rfl, rfl, ⟨by decide, by decide, ?_⟩, _, _, rfl, rfl, .inl ⟨by omega, by omega⟩, _, _, rfl, rfl, (by show (0 : Int) < 2147483423; decide), _, _, rfl, rfl, ?_⟩⟩⟩
      · have : (2 * ((k : Nat) : Int) + 7).natAbs ≤ 100 := by omega
        exact Nat.lt_of_le_of_lt this (by decide)
      refine ⟨(by show 2 ≤ sizeLine; decide), fun l hl => q _ l (sNew (Same.refl H) hl) hl ⟨_, _, upd_same, ?_, ?_, ?_⟩⟩
      · split <;> omega
      · have := Int.emod_nonneg (((if (17 * ((k : Nat) : Int) + 3) < 0 then -(17 * ((k : Nat) : Int) + 3) else (17 * ((k : Nat) : Int) + 3)) % 2147483489 + 1) * (2 * ((k : Nat) : Int) + 7) ^ (3 : Int).toNat) (b := 2147483423) (by omega)
        omega
      · have := Int.emod_lt_of_pos (((if (17 * ((k : Nat) : Int) + 3) < 0 then -(17 * ((k : Nat) : Int) + 3) else (17 * ((k : Nat) : Int) + 3)) % 2147483489 + 1) * (2 * ((k : Nat) : Int) + 7) ^ (3 : Int).toNat) (b := 2147483423) (by omega)
        omega
/-! ### _law_draw -/
def spDraw : Sp := fun vs H Q _ => ∃ (l : Addr) (many : Int), vs = [.ref l, .int many] ∧ PotAt H l ∧ 1 ≤ many ∧ many ≤ 100000000000000000000 ∧ ∀ (H' : Hp) (d : Int), SameX l H H' → PotAt H' l → 0 ≤ d → d < many → Q (.int d) H'
abbrev nDraw : List Str := ["_law_rng_here", "_law_many", "_law_digit"]
theorem scDraw : FnScope nDraw ["_law_rng_here", "_law_many"] (defScope sDraw) := ⟨rfl, rfl, rfl, by decide +kernel, rfl, by decide +kernel, by decide +kernel⟩
theorem log_many {m : Int} (h1 : 1 ≤ m) (h2 : m ≤ 100000000000000000000) : m.natAbs.log2 < 9000 := Nat.lt_of_lt_of_le (log_of (m := 67) (Nat.lt_of_le_of_lt (show m.natAbs ≤ 100000000000000000000 by omega) (by decide)) (by decide)) (by decide)
theorem ok_draw {f : Addr} {fd : FuncData} (F : Fun K "_law_draw" "_law_draw" sDraw f fd) (T : Bn mg) : FnOk P w K mg base CX0 1 f fd ["_law_rng_here", "_law_many"] spDraw := by
  refine F.ok scDraw (fun vs H Q E h => ?_) (fun cdv A outer s H vs Q E hr h => ?_)
  · obtain ⟨l, many, rfl, _⟩ := h
    rfl
  · obtain ⟨l, many, rfl, ⟨x, y, hl, hx, hy, hy2⟩, m1, m2, q⟩ := h
    refine ⟨_, pss_cons (ps_if (pt_cmpR op_gt (pe_ix ix_list (pv 0) pe_int (fun _ _ => rfl)) pe_int (nomark _))
        (pss_cons (ps_asg (pe_callB call_divmodW (by rfl) T.divmod (by decide +kernel) (pa_cons (pe_ix ix_list (pv 0) pe_int (fun _ _ => rfl)) (pa_cons (pv 1) pa_nil)))
          (pg_tup rfl (pgs_cons (pg_sub (pv 0) pe_int set_list) (pgs_cons (pg_name (i := 2) scDraw.nd rfl (Or.inl rfl)) pgs_nil))))
        (pss_one (ps_ret (pv 2)))) pss_nil)
      (pss_cons (ps_asg (pe_op op_mod (pe_callTy call_int1 (by rfl) T.int (by decide +kernel) (pa_cons (pe_op op_add (pe_op op_mul (pe_ix ix_list (pv 0) pe_int (fun _ _ => rfl)) pe_int) pe_int) pa_nil)) pe_int) (pg_sub (pv 0) pe_int set_list))
      (pss_one (ps_ret (pe_op op_mod (pe_op op_fdiv (pe_op op_mod (pe_callTy call_int1 (by rfl) T.int (by decide +kernel) (pa_cons (pe_op op_mul (pe_ix ix_list (pv 0) pe_int (fun _ _ => rfl)) (pe_ix ix_list (pv 0) pe_int (fun _ _ => rfl))) pa_nil)) pe_int) pe_int) (pv 1))))), ?_⟩
    refine ⟨_, rfl, l, _, _, V.int x, rfl, rfl, SqL.of hl, at_of (j := 0) rfl rfl, _, _, rfl, rfl, _, rfl, ?_⟩
    by_cases hp : x > 0
    · rw [decide_eq_true hp]
      refine iteT ?_
      refine ⟨_, rfl, l, _, _, V.int x, rfl, rfl, SqL.of hl, at_of (j := 0) rfl rfl, _, rfl, _, _, rfl, ⟨by omega, PyProof.noPylong_of_log2 (log_many m1 m2)⟩, fun t ht => ?_⟩
      have s1 := sNew (o := .tup [V.int (x / many), V.int (x % many)]) (Same.refl H) ht
      refine ⟨t, _, rfl, .inl (.inl upd_same), rfl, _, _, rfl, _, rfl, l, _, _, 0, rfl, rfl, old hl ht, rfl, _, _, rfl, rfl, _, rfl, ?_⟩
      have e1 := Int.emod_nonneg x (b := many) (by omega)
      have e2 := Int.emod_lt_of_pos x (b := many) (by omega)
      have e3 : 0 ≤ x / many := Int.ediv_nonneg hx (by omega)
      exact q _ _ (SameX.put (SameX.of s1)) ⟨x / many, y, upd_same, e3, hy, hy2⟩ e1 e2
    · rw [decide_eq_false hp]
      refine iteF ?_
      refine ⟨_, rfl, l, _, _, V.int y, rfl, rfl, SqL.of hl, at_of (j := 1) rfl rfl, _, _, rfl, rfl, .inl ⟨by omega, by omega⟩, _, _, rfl, rfl, .inl ⟨_, rfl, ?_⟩⟩
      refine ⟨_, _, rfl, rfl, (by show (0 : Int) < 2147483399; decide), ?_⟩
      refine ⟨_, rfl, l, _, _, 1, rfl, rfl, hl, rfl, ?_⟩
      have e1 := Int.emod_nonneg (y * 39373 + 28411) (b := 2147483399) (by omega)
      have e2 := Int.emod_lt_of_pos (y * 39373 + 28411) (b := 2147483399) (by omega)
      have h2 : upd H l (.lst ([V.int x, V.int y].set 1 (V.int ((y * 39373 + 28411) % 2147483399)))) l = some (.lst [V.int x, V.int ((y * 39373 + 28411) % 2147483399)]) := upd_same
      have sx : SameX l H (upd H l (.lst ([V.int x, V.int y].set 1 (V.int ((y * 39373 + 28411) % 2147483399))))) := SameX.put (SameX.of (Same.refl H))
      generalize upd H l (.lst ([V.int x, V.int y].set 1 (V.int ((y * 39373 + 28411) % 2147483399)))) = H2 at h2 sx ⊢
      generalize (y * 39373 + 28411) % 2147483399 = z at e1 e2 h2 ⊢
      refine ⟨_, rfl, l, _, _, V.int z, rfl, rfl, SqL.of h2, at_of (j := 1) rfl rfl, _, rfl, l, _, _, V.int z, rfl, rfl, SqL.of h2, at_of (j := 1) rfl rfl, _, _, rfl, rfl, .inl ⟨by omega, by omega⟩, .inl ⟨_, rfl, ?_⟩⟩
      refine ⟨_, _, rfl, rfl, (by show (0 : Int) < 2147483353; decide), _, _, rfl, rfl, ⟨by decide, by decide⟩, _, rfl, _, _, rfl, rfl, (by show (0 : Int) < many; omega), ?_⟩
      exact q _ _ sx ⟨x, z, h2, hx, e1, by omega⟩ (Int.emod_nonneg _ (by omega)) (Int.emod_lt_of_pos _ (by omega))
/-! ### _law_choice -/
def spChoice : Sp := fun vs H Q _ => ∃ (l s : Addr) (xs : List V), vs = [.ref l, .ref s] ∧ PotAt H l ∧ H s = some (.lst xs) ∧ s ≠ l ∧ 1 ≤ xs.length ∧ xs.length ≤ 1000 ∧ ∀ (H' : Hp) (v : V), SameX l H H' → PotAt H' l → v ∈ xs → Q v H'
theorem scChoice : FnScope ["_law_rng_here", "_law_some"] ["_law_rng_here", "_law_some"] (defScope sChoice) := ⟨rfl, rfl, rfl, by decide +kernel, rfl, by decide +kernel, by decide +kernel⟩
theorem ok_choice {f : Addr} {fd : FuncData} (F : Fun K "_law_choice" "_law_choice" sChoice f fd) (T : Bn mg) (DD : Df P w K mg base "_law_draw" ["_law_rng_here", "_law_many"] 1 spDraw) : FnOk P w K mg base CX0 2 f fd ["_law_rng_here", "_law_some"] spChoice := by
  refine F.ok scChoice (fun vs H Q E h => ?_) (fun cdv A outer s H vs Q E hr h => ?_)
  · obtain ⟨l, s, xs, rfl, _⟩ := h
    rfl
  · obtain ⟨l, s, xs, rfl, hp, hs, ne, h1, h2, q⟩ := h
    refine ⟨_, pss_one (ps_ret (pe_ix ix_list (pv 1) (pe_df DD hr (by rfl) (pa_cons (pv 0) (pa_cons (pe_callB call_len_seq (by rfl) T.len PySem.boot_len (pa_cons (pv 1) pa_nil)) pa_nil))) (fun _ _ => rfl))), ?_⟩
    refine ⟨_, rfl, _, rfl, _, rfl, s, _, rfl, .inl (SqL.of hs), l, _, rfl, hp, by omega, by omega, fun H' d sx hp' d0 d1 => ?_⟩
    have hd : d.toNat < xs.length := by omega
    refine ⟨s, xs, d, xs[d.toNat], rfl, rfl, SqL.of (sx _ _ ne hs), at_of (j := d.toNat) (by omega) (List.getElem?_eq_getElem hd), ?_⟩
    exact q H' _ sx hp' (List.getElem_mem hd)
end
end S71

namespace S71
open PySem L2 SR TXM
/-! ### factors: a * d - b, or a * d * d + b -/
def FacAt (H : Hp) (v : V) (f : Fac) : Prop := ∃ t, v = .ref t ∧ H t = some (.tup [.int f.a, .int f.b, .bl f.sq])
def FacOk (m : Nat) (f : Fac) : Prop := (1 ≤ f.a ∧ f.a ≤ 40) ∧ (-(100000000000000000000 + 41 * (m : Int)) ≤ f.b ∧ f.b ≤ 100000000000000000000 + 41 * (m : Int)) ∧ (f.sq = true → 1 ≤ f.b)
theorem FacAt.same {H H' : Hp} {v : V} {f : Fac} (s : Same H H') (h : FacAt H v f) : FacAt H' v f := let ⟨t, e, k⟩ := h; ⟨t, e, s _ _ k⟩
theorem FacAt.at {H : Hp} {t : Addr} {f : Fac} (h : FacAt H (.ref t) f) : H t = some (.tup [.int f.a, .int f.b, .bl f.sq]) := by
  obtain ⟨u, e, k⟩ := h
  cases e
  exact k
/-- what is no list of two ints is not the pot -/
theorem PotAt.apart {H : Hp} {l b : Addr} {o : HO} (h : PotAt H l) (e : H b = some o) (n : ∀ x y : Int, o ≠ .lst [.int x, .int y]) : b ≠ l := fun z => by
  obtain ⟨x, y, e1, _⟩ := h
  rw [z, e1] at e
  exact n x y (Option.some.inj e).symm
theorem FacAt.sameX {H H' : Hp} {l : Addr} {v : V} {f : Fac} (hl : PotAt H l) (s : SameX l H H') (h : FacAt H v f) : FacAt H' v f :=
  let ⟨t, e, k⟩ := h; ⟨t, e, s _ _ (hl.apart k fun _ _ z => nomatch z) k⟩
theorem FacOk.mono {m n : Nat} {f : Fac} (h : FacOk m f) (hm : m ≤ n) : FacOk n f := by
  obtain ⟨h1, h2, h3⟩ := h
  exact ⟨h1, ⟨by omega, by omega⟩, h3⟩
/-- all values of a list are factors -/
def AllF (H : Hp) (m : Nat) (xs : List V) : Prop := ∀ v ∈ xs, ∃ f, FacAt H v f ∧ FacOk m f
theorem AllF.same {H H' : Hp} {m : Nat} {xs : List V} (s : Same H H') (h : AllF H m xs) : AllF H' m xs := fun v hv => let ⟨f, a, b⟩ := h v hv; ⟨f, a.same s, b⟩
theorem AllF.sameX {H H' : Hp} {l : Addr} {m : Nat} {xs : List V} (hl : PotAt H l) (s : SameX l H H') (h : AllF H m xs) : AllF H' m xs := fun v hv => let ⟨f, a, b⟩ := h v hv; ⟨f, a.sameX hl s, b⟩
theorem AllF.mono {H : Hp} {m n : Nat} {xs : List V} (h : AllF H m xs) (hm : m ≤ n) : AllF H n xs := fun v hv => let ⟨f, a, b⟩ := h v hv; ⟨f, a, b.mono hm⟩
theorem AllF.app {H : Hp} {m : Nat} {xs ys : List V} (h : AllF H m xs) (k : AllF H m ys) : AllF H m (xs ++ ys) := fun v hv => (List.mem_append.mp hv).elim (h v) (k v)
theorem AllF.cons {H : Hp} {m : Nat} {x : V} {xs : List V} {f : Fac} (h : FacAt H x f) (k : FacOk m f) (r : AllF H m xs) : AllF H m (x :: xs) := fun v hv => by
  rcases List.mem_cons.mp hv with rfl | hv
  · exact ⟨f, h, k⟩
  · exact r v hv
theorem AllF.nil {H : Hp} {m : Nat} : AllF H m [] := fun v hv => by cases hv
/-- a new tuple -/
theorem facNew {H : Hp} {t : Addr} (f : Fac) (h : H t = none) : Same H (upd H t (.tup [.int f.a, .int f.b, .bl f.sq])) ∧ FacAt (upd H t (.tup [.int f.a, .int f.b, .bl f.sq])) (.ref t) f := ⟨sNew (Same.refl H) h, t, rfl, upd_same⟩
section
variable {P : Program} {w : World} {K : PySem.W.Frag} {mg : Str → Option Value} {base : Heap}
/-! ### _law_sign -/
def spLSign : Sp := fun vs H Q _ => ∃ x : Int, vs = [.int x] ∧ Q (.int (sgn x)) H
theorem scLSign : FnScope ["_law_number"] ["_law_number"] (defScope sLSign) := ⟨rfl, rfl, rfl, by decide +kernel, rfl, by decide +kernel, by decide +kernel⟩
theorem ok_lsign {f : Addr} {fd : FuncData} (F : Fun K "_law_sign" "_law_sign" sLSign f fd) (T : Bn mg) : FnOk P w K mg base CX0 1 f fd ["_law_number"] spLSign := by
  refine F.ok scLSign (fun vs H Q E h => ?_) (fun cdv A outer s H vs Q E hr h => ?_)
  · obtain ⟨x, rfl, _⟩ := h
    rfl
  · obtain ⟨x, rfl, q⟩ := h
    refine ⟨_, pss_one (ps_ret (pe_op op_sub (pe_callTy call_int1 (by rfl) T.int (by decide +kernel) (pa_cons (pe_cmpR op_gt (pv 0) pe_int (nomark _)) pa_nil)) (pe_callTy call_int1 (by rfl) T.int (by decide +kernel) (pa_cons (pe_cmpR op_lt (pv 0) pe_int (nomark _)) pa_nil)))), ?_⟩
    refine ⟨_, rfl, _, _, rfl, rfl, .inr ⟨_, rfl, _, rfl, _, _, rfl, rfl, .inr ⟨_, rfl, _, _, rfl, rfl, ?_⟩⟩⟩
    have e := sgn_int x
    rw [← e] at q
    exact q
/-! ### _law_factor -/
def spFactor : Sp := fun vs H Q _ => ∃ (l L : Addr) (great : Int) (ws : List V) (m : Nat), vs = [.ref l, .ref L, .int great] ∧ PotAt H l ∧ H L = some (.lst ws) ∧ L ≠ l ∧ ws.length ≤ 10 ∧ AllF H m ws ∧ 1 ≤ great ∧ great ≤ 1000000000 ∧
  ∀ (H' : Hp) (v : V) (f : Fac), SameX l H H' → PotAt H' l → FacAt H' v f → FacOk (m + 1) f → Q v H'
abbrev nFactor : List Str := ["_law_rng_here", "_law_others", "_law_great", "_law_a", "_law_near", "_law_far", "_law_b", "_law_some", "_law_one"]
theorem scFactor : FnScope nFactor ["_law_rng_here", "_law_others", "_law_great"] (defScope sFactor) := ⟨rfl, rfl, rfl, by decide +kernel, rfl, by decide +kernel, by decide +kernel⟩
theorem far_bd {d g e a : Int} (d0 : 0 ≤ d) (d1 : d < g) (g1 : g ≤ 1000000000) (e0 : 0 ≤ e) (e1 : e < 7) (a0 : 1 ≤ a) (a1 : a ≤ 40) : 0 ≤ d * (g + e) ∧ d * (g + e) ≤ 1000000006000000000 ∧ 0 ≤ a * (d * (g + e)) ∧ a * (d * (g + e)) ≤ 40000000240000000000 := by
  have h0 : 0 ≤ d * (g + e) := Int.mul_nonneg d0 (by omega)
  have h1 : d * (g + e) ≤ 1000000000 * 1000000006 := Int.mul_le_mul (by omega) (by omega) (by omega) (by omega)
  have h2 : 0 ≤ a * (d * (g + e)) := Int.mul_nonneg (by omega) h0
  have h3 : a * (d * (g + e)) ≤ 40 * (1000000000 * 1000000006) := Int.mul_le_mul a1 h1 h0 (by omega)
  omega
theorem near_bd {n a : Int} (n0 : -6 ≤ n) (n1 : n ≤ 23) (a0 : 1 ≤ a) (a1 : a ≤ 40) : -240 ≤ a * n ∧ a * n ≤ 920 := by
  have h1 : a * n ≤ a * 23 := Int.mul_le_mul_of_nonneg_left n1 (by omega)
  have h2 : a * (-6) ≤ a * n := Int.mul_le_mul_of_nonneg_left n0 (by omega)
  omega
theorem ok_factor {f : Addr} {fd : FuncData} (F : Fun K "_law_factor" "_law_factor" sFactor f fd) (T : Bn mg) (DD : Df P w K mg base "_law_draw" ["_law_rng_here", "_law_many"] 1 spDraw) (DC : Df P w K mg base "_law_choice" ["_law_rng_here", "_law_some"] 2 spChoice) :
    FnOk P w K mg base CX0 3 f fd ["_law_rng_here", "_law_others", "_law_great"] spFactor := by
  refine F.ok scFactor (fun vs H Q E h => ?_) (fun cdv A outer s H vs Q E hr h => ?_)
  · obtain ⟨l, L, great, ws, m, rfl, _⟩ := h
    rfl
  · obtain ⟨l, L, great, ws, m, rfl, hp, hL, nL, hlen, hall, g0, g1, q⟩ := h
    have h1 : Room 1 _ := hr.mono (by decide)
    have h2 : Room 2 _ := hr.mono (by decide)
    refine ⟨_, pss_cons (ps_set (i := 3) scFactor.nd rfl (Or.inl rfl) (pe_df DC h2 (by rfl) (pa_cons (pv 0) (pa_cons (pe_lst (pa_cons pe_int (pa_cons pe_int (pa_cons pe_int (pa_cons pe_int (pa_cons pe_int (pa_cons (pe_op op_add pe_int (pe_df DD h1 (by rfl) (pa_cons (pv 0) (pa_cons pe_int pa_nil)))) pa_nil))))))) pa_nil))))
      (pss_cons (ps_par (i := 4) (j := 5) (by rfl) scFactor.nd rfl rfl (by decide) rfl rfl
        (pa_cons (pe_op op_sub (pe_df DD h1 (by rfl) (pa_cons (pv 0) (pa_cons pe_int pa_nil))) pe_int) (pa_cons (pe_op op_mul (pe_df DD h1 (by rfl) (pa_cons (pv 0) (pa_cons (pv 2) pa_nil))) (pe_op op_add (pv 2) (pe_df DD h1 (by rfl) (pa_cons (pv 0) (pa_cons pe_int pa_nil))))) pa_nil)) (by rfl))
      (pss_cons (ps_set (i := 6) scFactor.nd rfl (Or.inl rfl) (pe_df DC h2 (by rfl) (pa_cons (pv 0) (pa_cons (pe_lst (pa_cons (pv 4) (pa_cons (pv 4) (pa_cons (pe_op op_mul (pv 3) (pv 4)) (pa_cons (pv 5) (pa_cons (pe_op op_add (pe_op op_mul (pv 3) (pv 5)) pe_int) (pa_cons (pe_un un_neg (pv 5)) pa_nil))))))) pa_nil))))
      (pss_cons (ps_set (i := 7) scFactor.nd rfl (Or.inl rfl) (pe_lst (pa_cons (pe_tup (pa_cons (pv 3) (pa_cons (pv 6) (pa_cons pe_bl pa_nil)))) (pa_cons (pe_tup (pa_cons (pv 3) (pa_cons (pv 6) (pa_cons pe_bl pa_nil)))) (pa_cons (pe_tup (pa_cons (pv 3) (pa_cons (pv 6) (pa_cons pe_bl pa_nil))))
        (pa_cons (pe_tup (pa_cons (pv 3) (pa_cons (pe_op op_add pe_int (pe_callB call_abs (by rfl) T.abs (by decide +kernel) (pa_cons (pv 4) pa_nil))) (pa_cons pe_bl pa_nil)))) pa_nil))))))
      (pss_cons (ps_for PassesOwn.never rfl (pi_list (pv 1)) (pg_name (i := 8) scFactor.nd rfl (Or.inl rfl)) (pss_one (ps_set (i := 7) scFactor.nd rfl (Or.inl rfl) (pe_op op_cat (pv 7) (pe_lst (pa_cons (pv 8)
        (pa_cons (pe_tup (pa_cons (pe_ix ix_tup (pv 8) pe_int (fun _ _ => rfl)) (pa_cons (pe_op op_add (pe_ix ix_tup (pv 8) pe_int (fun _ _ => rfl)) pe_int) (pa_cons (pe_ix ix_tup (pv 8) pe_int (fun _ _ => rfl)) pa_nil))))
        (pa_cons (pe_tup (pa_cons (pe_ix ix_tup (pv 8) pe_int (fun _ _ => rfl)) (pa_cons (pe_op op_add (pe_ix ix_tup (pv 8) pe_int (fun _ _ => rfl)) (pe_ix ix_tup (pv 8) pe_int (fun _ _ => rfl))) (pa_cons (pe_ix ix_tup (pv 8) pe_int (fun _ _ => rfl)) pa_nil)))) pa_nil))))))))
      (pss_one (ps_ret (pe_df DC h2 (by rfl) (pa_cons (pv 0) (pa_cons (pv 7) pa_nil))))))))), ?_⟩
    -- a
    refine ⟨_, rfl, _, rfl, l, _, rfl, hp, by decide, by decide, fun H1 d1 sx1 hp1 d10 d11 => ?_⟩
    refine ⟨_, _, rfl, rfl, (by show 6 ≤ sizeLine; decide), fun k1 hk1 => ?_⟩
    have s2 := sNew (o := .lst [V.int 1, .int 1, .int 1, .int 2, .int 3, .int (1 + d1)]) (Same.refl H1) hk1
    refine ⟨l, k1, _, rfl, hp1.same s2, upd_same, hp1.ne hk1, (by show 1 ≤ 6; decide), (by show 6 ≤ 1000; decide), fun H3 va sx3 hp3 hva => ?_⟩
    obtain ⟨a, rfl, a0, a1⟩ : ∃ a : Int, va = .int a ∧ 1 ≤ a ∧ a ≤ 40 := by
      simp only [List.mem_cons, List.not_mem_nil, or_false] at hva
      rcases hva with rfl | rfl | rfl | rfl | rfl | rfl
      · exact ⟨_, rfl, by decide, by decide⟩
      · exact ⟨_, rfl, by decide, by decide⟩
      · exact ⟨_, rfl, by decide, by decide⟩
      · exact ⟨_, rfl, by decide, by decide⟩
      · exact ⟨_, rfl, by decide, by decide⟩
      · exact ⟨_, rfl, by omega, by omega⟩
    have sx03 : SameX l H H3 := SameX.trans (SameX.same sx1 s2) sx3
    -- near, far
    refine ⟨_, rfl, l, _, rfl, hp3, by decide, by decide, fun H4 d4 sx4 hp4 d40 d41 => ?_⟩
    refine ⟨_, _, rfl, rfl, _, rfl, _, rfl, l, _, rfl, hp4, by omega, by omega, fun H5 d5 sx5 hp5 d50 d51 => ?_⟩
    refine ⟨_, rfl, _, rfl, l, _, rfl, hp5, by decide, by decide, fun H6 d6 sx6 hp6 d60 d61 => ?_⟩
    refine ⟨_, _, rfl, rfl, _, _, rfl, rfl, .inl ⟨by omega, by omega⟩, _, _, rfl, ?_⟩
    obtain ⟨f0, f1, f2, f3⟩ := far_bd d50 d51 g1 d60 d61 a0 a1
    obtain ⟨n0, n1⟩ := near_bd (n := d4 - 6) (by omega) (by omega) a0 a1
    have sx06 : SameX l H H6 := SameX.trans sx03 (SameX.trans sx4 (SameX.trans sx5 sx6))
    dsimp only
    generalize d5 * (great + d6) = far at f0 f1 f2 f3 ⊢
    have near0 : -6 ≤ d4 - 6 := by omega
    have near1 : d4 - 6 ≤ 23 := by omega
    generalize d4 - 6 = near at n0 n1 near0 near1 ⊢
    -- b
    refine ⟨_, rfl, _, rfl, _, rfl, _, rfl, _, rfl, _, _, rfl, rfl, .inl ⟨by omega, by omega⟩, _, rfl, _, rfl, _, rfl, _, _, rfl, rfl, .inl ⟨by omega, by omega⟩, _, _, rfl, rfl, _, rfl, _, rfl, (by show 6 ≤ sizeLine; decide), fun k7 hk7 => ?_⟩
    have s7 := sNew (o := .lst [V.int near, .int near, .int (a * near), .int far, .int (a * far + 1), .int (-far)]) (Same.refl H6) hk7
    refine ⟨l, k7, _, rfl, hp6.same s7, upd_same, hp6.ne hk7, (by show 1 ≤ 6; decide), (by show 6 ≤ 1000; decide), fun H8 vb sx8 hp8 hvb => ?_⟩
    obtain ⟨b, rfl, b0, b1⟩ : ∃ b : Int, vb = .int b ∧ -100000000000000000000 ≤ b ∧ b ≤ 100000000000000000000 := by
      simp only [List.mem_cons, List.not_mem_nil, or_false] at hvb
      rcases hvb with rfl | rfl | rfl | rfl | rfl | rfl
      · exact ⟨_, rfl, by omega, by omega⟩
      · exact ⟨_, rfl, by omega, by omega⟩
      · exact ⟨_, rfl, by omega, by omega⟩
      · exact ⟨_, rfl, by omega, by omega⟩
      · exact ⟨_, rfl, by omega, by omega⟩
      · exact ⟨_, rfl, by omega, by omega⟩
    have sx08 : SameX l H H8 := SameX.trans (SameX.same sx06 s7) sx8
    -- the first four
    have one : FacOk (m + 1) ⟨a, b, false⟩ := ⟨⟨a0, a1⟩, ⟨by show _ ≤ b; omega, by show b ≤ _; omega⟩, fun z => nomatch z⟩
    refine ⟨_, rfl, _, rfl, (by show 3 ≤ sizeLine; decide), fun t1 ht1 => ?_⟩
    obtain ⟨u1, c1⟩ := facNew ⟨a, b, false⟩ ht1
    generalize upd H8 t1 (HO.tup [V.int a, .int b, .bl false]) = G1 at u1 c1 ⊢
    refine ⟨_, rfl, _, rfl, (by show 3 ≤ sizeLine; decide), fun t2 ht2 => ?_⟩
    obtain ⟨u2, c2⟩ := facNew ⟨a, b, false⟩ ht2
    have c1 := c1.same u2
    generalize upd G1 t2 (HO.tup [V.int a, .int b, .bl false]) = G2 at u2 c1 c2 ⊢
    refine ⟨_, rfl, _, rfl, (by show 3 ≤ sizeLine; decide), fun t3 ht3 => ?_⟩
    obtain ⟨u3, c3⟩ := facNew ⟨a, b, false⟩ ht3
    have c1 := c1.same u3
    have c2 := c2.same u3
    generalize upd G2 t3 (HO.tup [V.int a, .int b, .bl false]) = G3 at u3 c1 c2 c3 ⊢
    obtain ⟨b2, hb2, b20, b21⟩ : ∃ b2 : Int, 1 + (if near < 0 then -near else near) = b2 ∧ 1 ≤ b2 ∧ b2 ≤ 30 := ⟨_, rfl, by split <;> omega, by split <;> omega⟩
    have two : FacOk (m + 1) ⟨a, b2, true⟩ := ⟨⟨a0, a1⟩, ⟨by show _ ≤ b2; omega, by show b2 ≤ _; omega⟩, fun _ => b20⟩
    refine ⟨_, rfl, _, rfl, _, rfl, _, _, rfl, rfl, ?_⟩
    dsimp only [tCons, tNil, tC]
    rw [hb2]
    refine ⟨(by show 3 ≤ sizeLine; decide), fun t4 ht4 => ?_⟩
    obtain ⟨u4, c4⟩ := facNew ⟨a, b2, true⟩ ht4
    have c1 := c1.same u4
    have c2 := c2.same u4
    have c3 := c3.same u4
    generalize upd G3 t4 (HO.tup [V.int a, .int b2, .bl true]) = G4 at u4 c1 c2 c3 c4 ⊢
    refine ⟨(by show 4 ≤ sizeLine; decide), fun D hD => ?_⟩
    have all4 : AllF G4 (m + 1) [.ref t1, .ref t2, .ref t3, .ref t4] := .cons c1 one (.cons c2 one (.cons c3 one (.cons c4 two .nil)))
    have u8 : Same H8 G4 := Same.trans u1 (Same.trans u2 (Same.trans u3 u4))
    have sx0 := SameX.same sx08 (sNew (o := .lst [V.ref t1, .ref t2, .ref t3, .ref t4]) u8 hD)
    have hp0 := hp8.same (sNew (o := .lst [V.ref t1, .ref t2, .ref t3, .ref t4]) u8 hD)
    have nD : D ≠ l := (hp8.same u8).ne hD
    have hD0 : H D = none := (SameX.same sx08 u8).free nD hD
    have all4 := all4.same (sNew (o := .lst [V.ref t1, .ref t2, .ref t3, .ref t4]) (Same.refl G4) hD)
    have hL0 := sx0 _ _ nL hL
    have hall0 := hall.sameX hp sx0
    generalize hH9 : upd G4 D (HO.lst [V.ref t1, .ref t2, .ref t3, .ref t4]) = H9 at sx0 hp0 all4 hL0 hall0 ⊢
    have hD9 : H9 D = some (.lst [V.ref t1, .ref t2, .ref t3, .ref t4]) := by rw [← hH9]; exact upd_same
    refine ⟨_, rfl, L, rfl, ⟨_, SqL.of hL0⟩, for_it (walk_list (K := K) (a := L) (xs := ws)) (fun i σ H' => Same H9 H' ∧ ∃ (D : Addr) (xs : List V) (v : Option V), σ = [some (.ref l), some (.ref L), some (.int great), some (.int a), some (.int near), some (.int far), some (.int b), some (.ref D), v] ∧
        H' D = some (.lst xs) ∧ D ≠ l ∧ xs.length = 4 + 3 * i ∧ AllF H' (m + 1) xs) ⟨Same.refl _, D, _, _, rfl, hD9, nD, rfl, all4⟩ (fun i σ H' _ h => SqL.of (h.1 _ _ hL0)) ?_ ?_⟩
    · rintro i y σ _ H' hi ⟨s1, D, xs, v, rfl, hDx, nD, hxl, hxa⟩ ⟨rfl, hy⟩
      obtain ⟨g, hgf, ok⟩ := hall0 y (List.mem_of_getElem? hy)
      obtain ⟨tg, rfl, hg⟩ := hgf.same s1
      have hix : ∀ {H2 : Hp}, Same H' H2 → SqT K H2 tg [.int g.a, .int g.b, .bl g.sq] := fun s => .inl (.inl (s _ _ hg))
      obtain ⟨⟨ga0, ga1⟩, ⟨gb0, gb1⟩, gs⟩ := id ok
      refine ⟨_, rfl, _, rfl, ?_⟩
      have s0 := Same.refl H'
      refine ⟨_, rfl, tg, _, _, V.int g.a, rfl, rfl, hix s0, at_of (j := 0) rfl rfl, _, rfl, tg, _, _, V.int g.b, rfl, rfl, hix s0, at_of (j := 1) rfl rfl, _, _, rfl, rfl, _, rfl, tg, _, _, V.bl g.sq, rfl, rfl, hix s0, at_of (j := 2) rfl rfl, (by show 3 ≤ sizeLine; decide), fun t5 ht5 => ?_⟩
      obtain ⟨u5, c5⟩ := facNew ⟨g.a, g.b + 1, g.sq⟩ ht5
      generalize upd H' t5 (HO.tup [V.int g.a, .int (g.b + 1), .bl g.sq]) = H5 at u5 c5 ⊢
      refine ⟨_, rfl, tg, _, _, V.int g.a, rfl, rfl, hix u5, at_of (j := 0) rfl rfl, _, rfl, tg, _, _, V.int g.b, rfl, rfl, hix u5, at_of (j := 1) rfl rfl, _, rfl, tg, _, _, V.int g.a, rfl, rfl, hix u5, at_of (j := 0) rfl rfl, _, _, rfl, rfl, _, rfl, tg, _, _, V.bl g.sq, rfl, rfl, hix u5, at_of (j := 2) rfl rfl, (by show 3 ≤ sizeLine; decide), fun t6 ht6 => ?_⟩
      obtain ⟨u6, c6⟩ := facNew ⟨g.a, g.b + g.a, g.sq⟩ ht6
      have c5 := c5.same u6
      generalize upd H5 t6 (HO.tup [V.int g.a, .int (g.b + g.a), .bl g.sq]) = H6 at u6 c5 c6 ⊢
      have s6 := Same.trans u5 u6
      refine ⟨(by show 3 ≤ sizeLine; decide), fun l7 hl7 => ?_⟩
      have s7 := sNew (o := .lst [V.ref tg, .ref t5, .ref t6]) (Same.refl H6) hl7
      refine ⟨D, l7, xs, [V.ref tg, .ref t5, .ref t6], rfl, rfl, s7 _ _ (s6 _ _ hDx), upd_same, le_line (by simp only [List.length_cons, List.length_nil]; omega), fun D2 hD2 => ?_⟩
      have s8 := sNew (o := .lst (xs ++ [V.ref tg, .ref t5, .ref t6])) s7 hD2
      have s68 := Same.trans s6 s8
      refine ⟨Same.trans s1 s68, D2, _, _, rfl, upd_same, ((hp0.same s1).same (Same.trans s6 s7)).ne hD2, by simp only [List.length_append, List.length_cons, List.length_nil]; omega, AllF.app (hxa.same s68) ?_⟩
      refine .cons ((FacAt.same (Same.trans s1 s68)) hgf) (ok.mono (by omega)) (.cons (c5.same s8) ?_ (.cons (c6.same s8) ?_ .nil))
      · exact ⟨⟨ga0, ga1⟩, ⟨by show _ ≤ g.b + 1; omega, by show g.b + 1 ≤ _; omega⟩, fun z => by have := gs z; show 1 ≤ g.b + 1; omega⟩
      · exact ⟨⟨ga0, ga1⟩, ⟨by show _ ≤ g.b + g.a; omega, by show g.b + g.a ≤ _; omega⟩, fun z => by have := gs z; show 1 ≤ g.b + g.a; omega⟩
    · rintro σ H' ⟨s1, D, xs, v, rfl, hDx, nD, hxl, hxa⟩
      refine ⟨_, rfl, _, rfl, l, D, xs, rfl, hp0.same s1, hDx, nD, by omega, by omega, fun H10 v10 sx10 hp10 hv10 => ?_⟩
      obtain ⟨g, hg, ok⟩ := hxa v10 hv10
      exact q H10 v10 g (SameX.trans (SameX.same sx0 s1) sx10) hp10 (hg.sameX (hp0.same s1) sx10) ok
end
end S71

namespace S71
open PySem L2 SR TXM
/-- a list of factors -/
def Facs (H : Hp) (ws : List V) (fs : List Fac) : Prop := ws.length = fs.length ∧ ∀ (i : Nat) (v : V), ws[i]? = some v → ∃ f, fs[i]? = some f ∧ FacAt H v f ∧ FacOk 10 f
theorem Facs.same {H H' : Hp} {ws : List V} {fs : List Fac} (s : Same H H') (h : Facs H ws fs) : Facs H' ws fs := ⟨h.1, fun i v e => let ⟨f, a, b, c⟩ := h.2 i v e; ⟨f, a, b.same s, c⟩⟩
theorem Facs.sameX {H H' : Hp} {l : Addr} {ws : List V} {fs : List Fac} (hl : PotAt H l) (s : SameX l H H') (h : Facs H ws fs) : Facs H' ws fs := ⟨h.1, fun i v e => let ⟨f, a, b, c⟩ := h.2 i v e; ⟨f, a, b.sameX hl s, c⟩⟩
theorem Facs.nil {H : Hp} : Facs H [] [] := ⟨rfl, fun i v e => by simp at e⟩
theorem Facs.snoc {H : Hp} {ws : List V} {fs : List Fac} {v : V} {f : Fac} (h : Facs H ws fs) (a : FacAt H v f) (b : FacOk 10 f) : Facs H (ws ++ [v]) (fs ++ [f]) := by
  refine ⟨by simp [h.1], fun i u e => ?_⟩
  by_cases hi : i < ws.length
  · rw [List.getElem?_append_left hi] at e
    rw [List.getElem?_append_left (h.1 ▸ hi)]
    exact h.2 i u e
  · rw [List.getElem?_append_right (by omega)] at e
    rw [List.getElem?_append_right (by rw [← h.1]; omega), ← h.1]
    cases hk : i - ws.length with
    | zero =>
      rw [hk] at e
      obtain rfl : v = u := Option.some.inj e
      exact ⟨f, rfl, a, b⟩
    | succ k => rw [hk] at e; simp at e
theorem Facs.all {H : Hp} {ws : List V} {fs : List Fac} (h : Facs H ws fs) : ∀ f ∈ fs, FacOk 10 f := fun f hf => by
  obtain ⟨i, hi⟩ := List.mem_iff_getElem?.mp hf
  have lt := (List.getElem?_eq_some_iff.mp hi).1
  obtain ⟨g, hg, _, ok⟩ := h.2 i _ (List.getElem?_eq_getElem (h.1 ▸ lt))
  rw [hi] at hg
  cases hg
  exact ok
theorem take_fac {fs : List Fac} {i : Nat} {f : Fac} (h : fs[i]? = some f) : fs.take (i + 1) = fs.take i ++ [f] := by rw [List.take_add_one, h]; rfl
theorem Facs.get {H : Hp} {ws : List V} {fs : List Fac} (h : Facs H ws fs) {i : Nat} {v : V} (e : ws[i]? = some v) : ∃ f t, fs[i]? = some f ∧ v = .ref t ∧ H t = some (.tup [.int f.a, .int f.b, .bl f.sq]) ∧ FacOk 10 f := by
  obtain ⟨f, a, ⟨t, b, c⟩, d⟩ := h.2 i v e
  exact ⟨f, t, a, b, c, d⟩
section
variable {P : Program} {w : World} {K : PySem.W.Frag} {mg : Str → Option Value} {base : Heap}
/-! ### _law_polynomial -/
def spPoly (C : Addr) : Sp := fun vs H Q _ => ∃ (t : Addr) (f : Fac), vs = [.ref t] ∧ H t = some (.tup [.int f.a, .int f.b, .bl f.sq]) ∧ 1 ≤ f.a ∧ ∀ (H' : Hp) (p : Addr), Same H H' → H p = none → PolyAt C H' p (facR f) → Q (.ref p) H'
abbrev nPoly : List Str := ["_law_factor_here", "_law_a", "_law_b", "_law_is_square"]
theorem scPoly : FnScope nPoly ["_law_factor_here"] (defScope sPoly) := ⟨rfl, rfl, rfl, by decide +kernel, rfl, by decide +kernel, by decide +kernel⟩
theorem canon_eq {r c : List Int} {k : Nat} (e : r = c ++ List.replicate k 0) (h : Canon r) : c = r := by
  cases k with
  | zero => rw [e]; simp
  | succ k =>
    refine absurd ?_ h
    rw [e, List.replicate_succ', ← List.append_assoc]
    simp
def tSq (C : Addr) : TE := tPoly C (tCons (tVar 2) (tCons (tC (.int 0)) (tCons (tVar 1) tNil)))
def tLn (C : Addr) : TE := tPoly C (tCons (tUn (rU fun i => .int (-i)) (tVar 2)) (tCons (tVar 1) tNil))
theorem ok_poly {f C : Addr} {fd : FuncData} (F : Fun K "_law_polynomial" "_law_polynomial" sPoly f fd) (N : PMk P w K mg base C) : FnOk P w K mg base CX0 4 f fd ["_law_factor_here"] (spPoly C) := by
  refine F.ok scPoly (fun vs H Q E h => ?_) (fun cdv A outer s H vs Q E hr h => ?_)
  · obtain ⟨t, g, rfl, _⟩ := h
    rfl
  · obtain ⟨t, g, rfl, ht, ga, q⟩ := h
    refine ⟨_, pss_cons (ps_asg (pv 0) (pg_tup rfl (pgs_cons (pg_name (i := 1) scPoly.nd rfl (Or.inl rfl)) (pgs_cons (pg_name (i := 2) scPoly.nd rfl (Or.inl rfl)) (pgs_cons (pg_name (i := 3) scPoly.nd rfl (Or.inl rfl)) pgs_nil)))))
      (pss_one (ps_ret (pe_ifExp (pt_val (pv 3)) (pe_poly N hr (by rfl) (pa_cons (pv 2) (pa_cons pe_int (pa_cons (pv 1) pa_nil))) fun σ H Q Q' i q => ?m1) (pe_poly N hr (by rfl) (pa_cons (pe_un un_neg (pv 2)) (pa_cons (pv 1) pa_nil)) fun σ H Q Q' i q => ?m2)))), ?_⟩
    case m1 =>
      obtain ⟨v, e, u, k, q⟩ := q
      exact ⟨v, e, u, k, i _ _ q⟩
    case m2 =>
      obtain ⟨v, e, u, k, x, y, q⟩ := q
      exact ⟨v, e, u, k, x, y, i _ _ q⟩
    refine ⟨_, rfl, t, _, rfl, .inl (.inl ht), rfl, _, _, rfl, _, _, rfl, _, _, rfl, rfl, ?_⟩
    refine ⟨_, rfl, g.sq, rfl, ?_⟩
    have fin : ∀ (H' : Hp) (p : Addr) (c : List Int) (k : Nat), Same H H' → H p = none → PolyAt C H' p c → facR g = c ++ List.replicate k 0 → Q (.ref p) H' := fun H' p c k s n hc e => by
      rw [canon_eq e (canon_facR ga)] at hc
      exact q H' p s n hc
    by_cases hs : g.sq = true
    · refine (congrArg (fun b => if b = true then _ else _) hs).mpr (iteT ?_)
      refine ⟨_, rfl, _, rfl, [g.b, 0, g.a], rfl, (by show 3 ≤ 1000; decide), fun H' p c k s n hc e _ => fin H' p c k s n hc ?_⟩
      unfold facR
      rw [if_pos hs, e]
    · have hs' : g.sq = false := by simpa using hs
      rw [hs']
      refine iteF ⟨_, rfl, _, rfl, _, rfl, [-g.b, g.a], rfl, (by show 2 ≤ 1000; decide), fun H' p c k s n hc e _ => fin H' p c k s n hc ?_⟩
      unfold facR
      rw [if_neg hs, e]
/-! ### _law_sign_at -/
def spLSignAt : Sp := fun vs H Q _ => ∃ (n d : Int) (L : Addr) (ws : List V) (fs : List Fac), vs = [.int n, .ref L, .int d] ∧ H L = some (.lst ws) ∧ Facs H ws fs ∧ ∀ H', Same H H' → Q (.int (signAt n fs d)) H'
abbrev nLSignAt : List Str := ["_law_number", "_law_factors", "_law_place", "_law_found", "_law_a", "_law_b", "_law_is_square"]
theorem scLSignAt : FnScope nLSignAt ["_law_number", "_law_factors", "_law_place"] (defScope sLSignAt) := ⟨rfl, rfl, rfl, by decide +kernel, rfl, by decide +kernel, by decide +kernel⟩
theorem ok_lsignAt {f : Addr} {fd : FuncData} (F : Fun K "_law_sign_at" "_law_sign_at" sLSignAt f fd) (DS : Df P w K mg base "_law_sign" ["_law_number"] 1 spLSign) : FnOk P w K mg base CX0 2 f fd ["_law_number", "_law_factors", "_law_place"] spLSignAt := by
  refine F.ok scLSignAt (fun vs H Q E h => ?_) (fun cdv A outer s H vs Q E hr h => ?_)
  · obtain ⟨n, d, L, ws, fs, rfl, _⟩ := h
    rfl
  · obtain ⟨n, d, L, ws, fs, rfl, hL, hF, q⟩ := h
    refine ⟨_, pss_cons (ps_set (i := 3) scLSignAt.nd rfl (Or.inl rfl) (pe_df DS hr (by rfl) (pa_cons (pv 0) pa_nil)))
      (pss_cons (ps_for PassesOwn.never rfl (pi_list (pv 1)) (pg_tup rfl (pgs_cons (pg_name (i := 4) scLSignAt.nd rfl (Or.inl rfl)) (pgs_cons (pg_name (i := 5) scLSignAt.nd rfl (Or.inl rfl)) (pgs_cons (pg_name (i := 6) scLSignAt.nd rfl (Or.inl rfl)) pgs_nil))))
        (pss_one (ps_set (i := 3) scLSignAt.nd rfl (Or.inl rfl) (pe_op op_mul (pv 3) (pe_ifExp (pt_val (pv 6)) pe_int (pe_df DS hr (by rfl) (pa_cons (pe_op op_sub (pe_op op_mul (pv 4) (pv 2)) (pv 5)) pa_nil)))))))
      (pss_one (ps_ret (pv 3)))), ?_⟩
    refine ⟨_, rfl, n, rfl, ?_⟩
    refine ⟨_, rfl, L, rfl, ⟨_, SqL.of hL⟩, for_it (walk_list (K := K) (a := L) (xs := ws)) (fun i σ H' => Same H H' ∧ ∃ a b c, σ = [some (.int n), some (.ref L), some (.int d), some (.int (signAt n (fs.take i) d)), a, b, c])
      ⟨Same.refl _, none, none, none, rfl⟩ (fun i σ H' _ h => SqL.of (h.1 _ _ hL)) ?_ ?_⟩
    · rintro i y σ _ H' hi ⟨s1, v4, v5, v6, rfl⟩ ⟨rfl, hy⟩
      obtain ⟨g, t, hg, rfl, ht, ok⟩ := hF.get hy
      obtain ⟨⟨g0, g1⟩, _⟩ := ok
      have c := signAt_cases n (fs.take i) d
      have e : signAt n (fs.take (i + 1)) d = signAt n (fs.take i) d * facS g d := by rw [take_fac hg, signAt_snoc]
      generalize signAt n (fs.take i) d = x at c e ⊢
      refine ⟨t, _, rfl, .inl (.inl (s1 _ _ ht)), rfl, _, _, rfl, _, _, rfl, _, _, rfl, rfl, _, rfl, _, rfl, g.sq, rfl, ?_⟩
      by_cases hs : g.sq = true
      · rw [hs]
        refine iteT ⟨_, _, rfl, rfl, .inl ⟨by omega, by omega⟩, s1, some (.int g.a), some (.int g.b), some (.bl true), ?_⟩
        rw [e]
        unfold facS
        rw [if_pos hs]
        rfl
      · have hs' : g.sq = false := by simpa using hs
        rw [hs']
        refine iteF ⟨_, rfl, _, rfl, _, _, rfl, rfl, .inl ⟨by omega, by omega⟩, _, rfl, _, _, rfl, rfl, _, rfl, _, _, rfl, rfl, .inl ⟨by omega, by omega⟩, s1, some (.int g.a), some (.int g.b), some (.bl false), ?_⟩
        rw [e]
        unfold facS
        rw [if_neg hs]
        rfl
    · rintro σ H' ⟨s1, v4, v5, v6, rfl⟩
      rw [hF.1, List.take_length]
      exact ⟨_, rfl, q H' s1⟩
/-! ### _law_places -/
def spPlaces : Sp := fun vs H Q _ => ∃ (L : Addr) (ws : List V) (fs : List Fac), vs = [.ref L] ∧ H L = some (.lst ws) ∧ Facs H ws fs ∧ fs.length ≤ 10 ∧
  ∀ (H' : Hp) (p : Addr) (ns : List Int), Same H H' → H p = none → H' p = some (.lst (ns.map V.int)) → ns.Pairwise (· < ·) → (∀ k, k ∈ ns ↔ k ∈ cand fs ∧ 0 < k) → ns.length < 64 → Q (.ref p) H'
abbrev nPlaces : List Str := ["_law_factors", "_law_found", "_law_a", "_law_b", "_law_is_square", "_law_place"]
theorem scPlaces : FnScope nPlaces ["_law_factors"] (defScope sPlaces) := ⟨rfl, rfl, rfl, by decide +kernel, rfl, by decide +kernel, by decide +kernel⟩
theorem ok_places {f : Addr} {fd : FuncData} (F : Fun K "_law_places" "_law_places" sPlaces f fd) (T : Bn mg) : FnOk P w K mg base CX0 1 f fd ["_law_factors"] spPlaces := by
  refine F.ok scPlaces (fun vs H Q E h => ?_) (fun cdv A outer s H vs Q E hr h => ?_)
  · obtain ⟨L, ws, fs, rfl, _⟩ := h
    rfl
  · obtain ⟨L, ws, fs, rfl, hL, hF, few, q⟩ := h
    refine ⟨_, pss_cons (ps_set (i := 1) scPlaces.nd rfl (Or.inl rfl) (pe_lst (pa_cons pe_int pa_nil)))
      (pss_cons (ps_for PassesOwn.never rfl (pi_list (pv 0)) (pg_tup rfl (pgs_cons (pg_name (i := 2) scPlaces.nd rfl (Or.inl rfl)) (pgs_cons (pg_name (i := 3) scPlaces.nd rfl (Or.inl rfl)) (pgs_cons (pg_name (i := 4) scPlaces.nd rfl (Or.inl rfl)) pgs_nil))))
        (pss_one (ps_if (pt_not (pt_val (pv 4))) (pss_one (ps_set (i := 1) scPlaces.nd rfl (Or.inl rfl) (pe_op op_cat (pv 1) (pe_lst (pa_cons (pe_op op_fdivW (pv 3) (pv 2)) (pa_cons (pe_op op_add (pe_op op_fdivW (pv 3) (pv 2)) pe_int) (pa_cons (pe_op op_add (pe_op op_fdivW (pv 3) (pv 2)) pe_int) pa_nil))))))) pss_nil)))
      (pss_one (ps_ret (pe_callB (cr_sortedSet rfl) (by rfl) T.sorted (by decide +kernel) (pa_cons (pe_callTy (cr_setOfL rfl) (by rfl) T.set (by decide +kernel) (pa_cons (pe_lc (own := [("_law_place", 5)]) (g := gName 5) (te := tVar 5) (by rfl) scPlaces.nd (pi_list (pv 1)) (blkOk_by (own := [("_law_place", 5)]) (N := nPlaces) (sc := defScope sPlaces) (by decide +kernel))
        (fun _ _ _ _ _ => pg_name (i := 5) scPlaces.nd rfl (Or.inl rfl)) (fun _ _ _ _ _ => pts_one (pt_cmpR op_gt (pv 5) pe_int (nomark _))) (fun _ _ _ _ _ => pv 5)) pa_nil)) pa_nil))))), ?_⟩
    refine ⟨(by show 1 ≤ sizeLine; decide), fun D0 hD0 => ?_⟩
    have s0 := sNew (o := .lst [V.int 1]) (Same.refl H) hD0
    refine ⟨_, rfl, L, rfl, ⟨_, SqL.of (s0 _ _ hL)⟩, for_it (walk_list (K := K) (a := L) (xs := ws)) (fun i σ H' => Same H H' ∧ ∃ D v2 v3 v4, σ = [some (.ref L), some (.ref D), v2, v3, v4, none] ∧ H D = none ∧ H' D = some (.lst ((cand (fs.take i)).map V.int)))
      ⟨s0, D0, none, none, none, rfl, hD0, upd_same⟩ (fun i σ H' _ h => SqL.of (h.1 _ _ hL)) ?_ ?_⟩
    · rintro i y σ _ H' hi ⟨s1, D, v2, v3, v4, rfl, nD, hD⟩ ⟨rfl, hy⟩
      obtain ⟨g, t, hg, rfl, ht, ok⟩ := hF.get hy
      obtain ⟨⟨g0, g1⟩, _⟩ := ok
      have e : cand (fs.take (i + 1)) = cand (fs.take i) ++ candOf g := by rw [take_fac hg, cand_snoc]
      have lc := len_cand (fs.take i)
      rw [List.length_take] at lc
      generalize cand (fs.take i) = cs at hD e lc
      refine ⟨t, _, rfl, .inl (.inl (s1 _ _ ht)), rfl, _, _, rfl, _, _, rfl, _, _, rfl, rfl, _, rfl, g.sq, rfl, ?_⟩
      by_cases hs : g.sq = true
      · rw [hs]
        refine iteF ⟨s1, D, some (.int g.a), some (.int g.b), some (.bl true), rfl, nD, ?_⟩
        rw [e]
        unfold candOf
        rw [if_pos hs, List.append_nil]
        exact hD
      · have hs' : g.sq = false := by simpa using hs
        rw [hs']
        have dv : CDivW g.b g.a := wide_div (b := 6) (by omega) (by omega) (by decide) (by decide)
        refine iteT ⟨_, rfl, _, rfl, _, rfl, _, _, rfl, rfl, dv, _, rfl, _, rfl, _, _, rfl, rfl, dv, _, _, rfl, rfl, _, rfl, _, rfl, _, _, rfl, rfl, dv, _, _, rfl, rfl, (by show 3 ≤ sizeLine; decide), fun l hl => ?_⟩
        have s2 := sNew (o := .lst [V.int (g.b / g.a), .int (g.b / g.a + 1), .int (g.b / g.a + 2)]) s1 hl
        refine ⟨D, l, _, _, rfl, rfl, old hD hl, upd_same, le_line (by simp only [List.length_map, List.length_cons, List.length_nil]; omega), fun D2 hD2 => ?_⟩
        refine ⟨sNew s2 hD2, D2, some (.int g.a), some (.int g.b), some (.bl false), rfl, s2.free hD2, ?_⟩
        rw [upd_same, e]
        unfold candOf
        rw [if_neg hs, List.map_append]
        rfl
    · rintro σ H' ⟨s1, D, v2, v3, v4, rfl, nD, hD⟩
      rw [hF.1, List.take_length] at hD
      have lc := len_cand fs
      generalize hcs : cand fs = cs at hD lc q
      refine ⟨_, rfl, D, rfl, ⟨_, SqL.of hD⟩, fun D5 hD5 => ?_⟩
      refine lc_it (walk_list (K := K) (a := D) (xs := cs.map V.int)) (fun i H2 => Same H' H2 ∧ H2 D5 = some (.lst (((cs.take i).filter fun k => decide (k > 0)).map V.int))) ⟨sNew (Same.refl H') hD5, upd_same⟩ (fun i H2 _ h => SqL.of (h.1 _ _ hD)) ?_ ?_
      · rintro i x H2 _ hi ⟨s2, h5⟩ ⟨rfl, hx⟩
        obtain ⟨z, hz, rfl⟩ := map_get hx
        have e : (cs.take (i + 1)).filter (fun k => decide (k > 0)) = (cs.take i).filter (fun k => decide (k > 0)) ++ if decide (z > 0) = true then [z] else [] := by
          rw [List.take_add_one, hz, Option.toList_some, List.filter_append, List.filter_cons]
          rfl
        have le : ((cs.take i).filter fun k => decide (k > 0)).length ≤ 31 := Nat.le_trans (List.length_filter_le _ _) (by rw [List.length_take]; omega)
        refine ⟨rfl, _, rfl, _, _, rfl, rfl, _, rfl, ?_⟩
        by_cases hz0 : z > 0
        · rw [decide_eq_true hz0] at e ⊢
          refine iteT ⟨_, rfl, _, h5, ?_, sPut s2 hD5, ?_⟩
          · rw [List.length_map]
            exact lt_line (by omega)
          · rw [upd_same, e, List.map_append]
            rfl
        · rw [decide_eq_false hz0] at e ⊢
          refine iteF ⟨s2, ?_⟩
          rw [e, h5]
          simp
      · rintro H2 ⟨s2, h5⟩
        rw [List.length_map, List.take_length] at h5
        have le : (cs.filter fun k => decide (k > 0)).length ≤ 31 := Nat.le_trans (List.length_filter_le _ _) (by omega)
        have mem : ∀ k, k ∈ cs.filter (fun k => decide (k > 0)) ↔ k ∈ cs ∧ 0 < k := fun k => by simp [List.mem_filter]
        generalize cs.filter (fun k => decide (k > 0)) = cp at h5 le mem
        refine ⟨D5, cp, rfl, SqL.of h5, by omega, fun a c ha hc => ?_⟩
        have s3 := sNew (o := SetO w a (fun j => decide (j ∈ cp)) c) (Same.trans s1 s2) ha
        refine ⟨a, _, c, rfl, upd_same, by omega, fun ns p w1 w2 w3 hp => ?_⟩
        refine q _ p ns (sNew s3 hp) (s3.free hp) upd_same w1 (fun k => ?_) (by omega)
        rw [w2 k, decide_eq_true_iff, mem k]
end
end S71

namespace S71
open PySem L2 SR TXM
/-- small pairs: what can be shown -/
def SmallP (L : List (Int × Int)) : Prop := L.length ≤ 64 ∧ ∀ p ∈ L, p.1.natAbs < 2 ^ 100 ∧ (p.2 = -1 ∨ p.2 = 0 ∨ p.2 = 1)
theorem ediv_small {a b : Int} (ha : 1 ≤ a) (hb : -100000000000000000410 ≤ b ∧ b ≤ 100000000000000000410) : -100000000000000000411 ≤ b / a ∧ b / a ≤ 100000000000000000411 := by
  have e1 := Int.mul_ediv_add_emod b a
  have e2 := Int.emod_nonneg b (b := a) (by omega)
  have e3 := Int.emod_lt_of_pos b (b := a) (by omega)
  generalize b / a = q at *
  generalize b % a = r at *
  constructor
  · by_cases h : -100000000000000000411 ≤ q
    · exact h
    · have k : a * q ≤ a * (-100000000000000000412) := Int.mul_le_mul_of_nonneg_left (by omega) (by omega)
      omega
  · by_cases h : q ≤ 100000000000000000411
    · exact h
    · have k : a * 100000000000000000412 ≤ a * q := Int.mul_le_mul_of_nonneg_left (by omega) (by omega)
      omega
theorem cand_small {fs : List Fac} (h : ∀ f ∈ fs, FacOk 10 f) {k : Int} (hk : k ∈ cand fs) : k.natAbs < 2 ^ 100 := by
  have z : -100000000000000000420 ≤ k ∧ k ≤ 100000000000000000420 := by
    rcases (fold_cand fs [1]).mp hk with e | ⟨f, hf, e⟩
    · have : k = 1 := by simpa using e
      omega
    · obtain ⟨⟨a0, a1⟩, ⟨b0, b1⟩, _⟩ := h f hf
      have d := ediv_small a0 (b := f.b) ⟨by omega, by omega⟩
      unfold candOf at e
      split at e
      · cases e
      · simp only [List.mem_cons, List.not_mem_nil, or_false] at e
        omega
  exact Nat.lt_of_lt_of_le (show k.natAbs < 100000000000000000421 by omega) (by decide)
theorem join_sub : ∀ (M acc : List (Int × Int)) (p : Int × Int), p ∈ M.foldl joinStep acc → p ∈ acc ∨ p ∈ M
  | [], _, _, h => .inl h
  | q :: M, acc, p, h => by
    rcases join_sub M _ p h with z | z
    · unfold joinStep at z
      split at z
      · exact .inl z
      · rcases List.mem_append.mp z with z | z
        · exact .inl z
        · exact .inr (by simp [List.mem_singleton.mp z])
    · exact .inr (by simp [z])
theorem due_small {n : Int} {fs : List Fac} {ps : List Int} (h : ∀ f ∈ fs, FacOk 10 f) (few : ps.length ≤ 64) (h2 : ∀ k, k ∈ ps ↔ k ∈ cand fs ∧ 0 < k) : SmallP (dueR n fs ps) := by
  refine ⟨?_, fun p hp => ?_⟩
  · have z := join_len [] (ps.map fun p => (p, signAt n fs p))
    rw [List.length_map, List.length_nil] at z
    show ((ps.map fun p => (p, signAt n fs p)).foldl joinStep []).length ≤ 64
    omega
  · rcases join_sub _ _ p hp with z | z
    · cases z
    · obtain ⟨k, hk, rfl⟩ := List.mem_map.mp z
      exact ⟨cand_small h ((h2 k).mp hk).1, signAt_cases n fs k⟩
section
variable {P : Program} {w : World} {K : PySem.W.Frag} {mg : Str → Option Value} {base : Heap}
/-! ### _law_due -/
def spDue : Sp := fun vs H Q _ => ∃ (n : Int) (L : Addr) (ws : List V) (fs : List Fac), vs = [.int n, .ref L] ∧ H L = some (.lst ws) ∧ Facs H ws fs ∧ fs.length ≤ 10 ∧
  ∀ (H' : Hp) (l : Addr) (M : List (Int × Int)), Same H H' → H l = none → RunsAt H' l M → IsRuns (signAt n fs) 1 M → SmallP M → Q (.ref l) H'
abbrev nDue : List Str := ["_law_number", "_law_factors", "_law_found", "_law_place", "_law_sign_here"]
theorem scDue : FnScope nDue ["_law_number", "_law_factors"] (defScope sDue) := ⟨rfl, rfl, rfl, by decide +kernel, rfl, by decide +kernel, by decide +kernel⟩
theorem ok_due {f : Addr} {fd : FuncData} (F : Fun K "_law_due" "_law_due" sDue f fd) (DP : Df P w K mg base "_law_places" ["_law_factors"] 1 spPlaces) (DS : Df P w K mg base "_law_sign_at" ["_law_number", "_law_factors", "_law_place"] 2 spLSignAt) :
    FnOk P w K mg base CX0 3 f fd ["_law_number", "_law_factors"] spDue := by
  refine F.ok scDue (fun vs H Q E h => ?_) (fun cdv A outer s H vs Q E hr h => ?_)
  · obtain ⟨n, L, ws, fs, rfl, _⟩ := h
    rfl
  · obtain ⟨n, L, ws, fs, rfl, hL, hF, few, q⟩ := h
    refine ⟨_, pss_cons (ps_set (i := 2) scDue.nd rfl (Or.inl rfl) (pe_lst pa_nil))
      (pss_cons (ps_for PassesOwn.never rfl (pi_list (pe_df DP (hr.mono (by decide)) (by rfl) (pa_cons (pv 1) pa_nil))) (pg_name (i := 3) scDue.nd rfl (Or.inl rfl))
        (pss_cons (ps_set (i := 4) scDue.nd rfl (Or.inl rfl) (pe_df DS hr (by rfl) (pa_cons (pv 0) (pa_cons (pv 1) (pa_cons (pv 3) pa_nil)))))
        (pss_one (ps_if (PW.pt (pw_or (pt_cmpR (op_eqD hr.units) (pv 2) (pe_lst pa_nil) (nomark _)) (pw_or1 (pt_cmpR op_ne (pe_ix ix_tup (pe_ix ix_list (pv 2) (pe_un un_neg pe_int) (fun _ _ => rfl)) pe_int (fun _ _ => rfl)) (pv 4) (nomark _)))))
          (pss_one (ps_expr (pe_bm PySem.F.plainAttrs_list PySem.F.slot_list_append PySem.F.type_list_append mt_append (pv 2) (pa_cons (pe_tup (pa_cons (pv 3) (pa_cons (pv 4) pa_nil))) pa_nil)))) pss_nil))))
      (pss_one (ps_ret (pv 2)))), ?_⟩
    refine ⟨Nat.zero_le _, fun D hD => ?_⟩
    have s0 := sNew (o := .lst []) (Same.refl H) hD
    refine ⟨_, rfl, L, ws, fs, rfl, s0 _ _ hL, hF.same s0, few, fun H1 P0 ns s1 nP hP w1 w2 w3 => ?_⟩
    have hD1 := s1 _ _ (upd_same (H := H) (a := D) (o := .lst []))
    have s01 := Same.trans s0 s1
    refine ⟨P0, rfl, ⟨_, SqL.of hP⟩, for_it (walk_list (K := K) (a := P0) (xs := ns.map V.int)) (fun i σ H' => (∀ b o, b ≠ D → H1 b = some o → H' b = some o) ∧ RunsAt H' D (dueR n fs (ns.take i)) ∧ ∃ u v, σ = [some (.int n), some (.ref L), some (.ref D), u, v])
      ⟨fun b o _ e => e, ⟨[], hD1, trivial⟩, none, none, rfl⟩ (fun i σ H' _ h => SqL.of (h.1 _ _ (fun z => by subst z; rw [hD1] at hP; cases ns with | nil => exact absurd ((w2 1).mpr ⟨one_cand fs, by decide⟩) (by simp) | cons a r => cases hP) hP)) ?_ ?_⟩
    · rintro i y σ _ H' hi ⟨s2, ⟨acc, a1, a2⟩, u, v, rfl⟩ ⟨rfl, hy⟩
      obtain ⟨k, hk, rfl⟩ := map_get hy
      have hil : i < ns.length := (List.getElem?_eq_some_iff.mp hk).1
      have nL : L ≠ D := fun z => by subst z; rw [hL] at hD; cases hD
      have s02 : ∀ b o, H b = some o → H' b = some o := fun b o e => s2 b o (ne_of_none e hD) (s01 b o e)
      have al : acc.length ≤ 64 := by
        have z1 := a2.len
        have z2 := join_len [] ((ns.take i).map fun p => (p, signAt n fs p))
        rw [List.length_map, List.length_take, List.length_nil] at z2
        have z3 : (dueR n fs (ns.take i)).length ≤ 0 + min i ns.length := z2
        omega
      have e : dueR n fs (ns.take (i + 1)) = joinStep (dueR n fs (ns.take i)) (k, signAt n fs k) := by
        unfold dueR joined
        rw [List.take_add_one, hk, Option.toList_some, List.map_append, List.foldl_append]
        rfl
      generalize dueR n fs (ns.take i) = A at a2 e
      refine ⟨_, rfl, _, rfl, _, rfl, n, k, L, ws, fs, rfl, s02 _ _ hL, hF.same s02, fun H2 s3 => ?_⟩
      have b1 := s3 _ _ a1
      have b2 := a2.same s3
      have s13 : ∀ b o, b ≠ D → H1 b = some o → H2 b = some o := fun b o hb e => s3 b o (s2 b o hb e)
      generalize signAt n fs k = sg at e ⊢
      refine ⟨_, rfl, Nat.zero_le _, fun l2 hl2 => ?_⟩
      refine ⟨_, _, dp_pairs ⟨acc, old b1 hl2, b2.same (sNew (Same.refl _) hl2)⟩, dp_pairs (L := []) ⟨[], upd_same, trivial⟩, sh_pairs _, sh_pairs _, _, rfl, ?_⟩
      rw [eqv_pairs_nil]
      have app : ∀ (H3 : Hp) (tp : Addr), Same H2 H3 → H3 tp = none → joinStep A (k, sg) = A ++ [(k, sg)] → (∀ b o, b ≠ D → H1 b = some o → upd (upd H3 tp (.tup [V.int k, V.int sg])) D (.lst (acc ++ [V.ref tp])) b = some o) ∧ RunsAt (upd (upd H3 tp (.tup [V.int k, V.int sg])) D (.lst (acc ++ [V.ref tp]))) D (dueR n fs (ns.take (i + 1))) := by
        intro H3 tp s4 htp ej
        have nD : tp ≠ D := fun z => by rw [z, s4 _ _ b1] at htp; cases htp
        refine ⟨fun b o hb e => by rw [upd_ne hb]; exact old (s4 _ _ (s13 b o hb e)) htp, acc ++ [V.ref tp], upd_same, ?_⟩
        rw [e, ej]
        refine Tups.append ?_ (Tups.one (by rw [upd_ne nD, upd_same]))
        exact tups_but (fun b o hb e => by rw [upd_ne hb]; exact old (s4 _ _ e) htp) b1 b2
      by_cases hA : A = []
      · rw [decide_eq_true hA]
        refine iteT ?_
        refine ⟨_, rfl, .inl ⟨rfl, _, SqL.of (old b1 hl2)⟩, _, rfl, _, rfl, (by show 2 ≤ sizeLine; decide), fun tp htp => ?_⟩
        refine ⟨D, _, _, rfl, rfl, old (old b1 hl2) htp, lt_line (by omega), ?_⟩
        obtain ⟨z1, z2⟩ := app _ tp (sNew (Same.refl H2) hl2) htp (join_app (by rw [hA]; simp))
        exact ⟨z1, z2, _, _, rfl⟩
      · rw [decide_eq_false hA]
        refine iteF ?_
        obtain ⟨B, z, rfl⟩ : ∃ B z, A = B ++ [z] := ⟨_, _, (List.dropLast_concat_getLast hA).symm⟩
        have hacc : acc ≠ [] := fun e => by
          have := b2.len
          rw [e] at this
          simp at this
        obtain ⟨ac, va, rfl⟩ : ∃ ac va, acc = ac ++ [va] := ⟨_, _, (List.dropLast_concat_getLast hacc).symm⟩
        have hle : ac.length = B.length := by
          have := b2.len
          simpa using this
        obtain ⟨p2, t2, hp2, rfl, ht2⟩ := b2.get (i := ac.length) (v := va) (by simp)
        have ez : p2 = z := by
          rw [hle] at hp2
          simp at hp2
          exact hp2.symm
        subst ez
        refine ⟨_, rfl, _, rfl, D, _, _, _, rfl, rfl, SqL.of (old b1 hl2), atI_lastV _ _, t2, _, _, _, rfl, rfl, .inl (.inl (old ht2 hl2)), at_of (j := 1) rfl rfl, _, rfl, rfl, _, rfl, ?_⟩
        by_cases hz : p2.2 = sg
        · have ed : decide (V.int p2.2 = V.int sg) = true := decide_eq_true (by rw [hz])
          show if (!decide (V.int p2.2 = V.int sg)) = true then _ else _
          rw [ed]
          refine iteF ⟨fun b o hb e => old (s13 b o hb e) hl2, ?_, _, _, rfl⟩
          rw [e, join_keep (by simp [hz])]
          exact ⟨_, old b1 hl2, b2.same (sNew (Same.refl _) hl2)⟩
        · have ed : decide (V.int p2.2 = V.int sg) = false := decide_eq_false (fun e => hz (V.int.inj e))
          show if (!decide (V.int p2.2 = V.int sg)) = true then _ else _
          rw [ed]
          refine iteT ?_
          refine ⟨_, rfl, .inl ⟨rfl, _, SqL.of (old b1 hl2)⟩, _, rfl, _, rfl, (by show 2 ≤ sizeLine; decide), fun tp htp => ?_⟩
          refine ⟨D, _, _, rfl, rfl, old (old b1 hl2) htp, lt_line (by omega), ?_⟩
          obtain ⟨z1, z2⟩ := app _ tp (sNew (Same.refl H2) hl2) htp (join_app (by simp [hz]))
          exact ⟨z1, z2, _, _, rfl⟩
    · rintro σ H' ⟨s2, hr1, u, v, rfl⟩
      rw [List.length_map, List.take_length] at hr1
      have sHH : Same H H' := fun b o e => s2 b o (ne_of_none e hD) (s01 b o e)
      refine ⟨_, rfl, q H' D _ sHH hD hr1 (due_runs (fun f hf => (hF.all f hf).1.1) w1 w2) (due_small hF.all (by omega) w2)⟩
end
end S71

namespace S71
open PySem L2 SR TXM
section
variable {P : Program} {w : World} {K : PySem.W.Frag} {mg : Str → Option Value} {base : Heap}
/-! ### Polynomial.__repr__, of Polynomial(1) -/
abbrev onePT : Str := "Polynomial(1)"
def spPR (C : Addr) : Sp := fun vs H Q _ => ∃ a : Addr, vs = [.ref a] ∧ PolyAt C H a [1] ∧ ∀ H', Same H H' → Q (.str onePT) H'
abbrev nPRepr : List Str := ["self", "inner", "one"]
theorem scPRepr : FnScope nPRepr ["self"] (defScope sPRepr) := ⟨rfl, rfl, rfl, by decide +kernel, rfl, by decide +kernel, by decide +kernel⟩
theorem one_log : (1 : Int).natAbs.log2 < 1920 := by decide
theorem one_join : Txt.join ((", " : String) : Str) [tx 1] = ("1" : Str) := by decide +kernel
theorem one_shown : Str.empty ++ ("Polynomial(" : Str) ++ ("1" : Str) ++ (")" : Str) = onePT := by decide +kernel
theorem ok_prepr {f C : Addr} {fd : FuncData} (F : Fun K "__repr__" "Polynomial.__repr__" sPRepr f fd) (T : Bn mg) (N : Pc K mg C) : FnOk P w K mg base CX0 4 f fd ["self"] (spPR C) := by
  refine F.ok scPRepr (fun vs H Q E h => ?_) (fun cdv A outer s H vs Q E hr h => ?_)
  · obtain ⟨a, rfl, _⟩ := h
    rfl
  · obtain ⟨a, rfl, ⟨dx, t, h1, h2⟩, q⟩ := h
    refine ⟨_, pss_cons (ps_set (i := 1) scPRepr.nd rfl (Or.inl rfl) (pe_join pe_str (pe_lc (own := [("one", 2)]) (g := gName 2) (tt := tYes) (by rfl) scPRepr.nd (pi_tup (pe_fld (pv 0) rfl)) (blkOk_by (own := [("one", 2)]) (N := nPRepr) (sc := defScope sPRepr) (by decide +kernel))
        (fun _ _ _ _ _ => pg_name (i := 2) scPRepr.nd rfl (Or.inl rfl)) (fun _ _ _ _ _ => pts_nil) (fun _ _ _ _ _ => pe_callTy call_str_int (by rfl) T.str (by decide +kernel) (pa_cons (pv 2) pa_nil)))))
      (pss_one (ps_ret (pe_joined (PJ.cons pe_str (PJ.cons (pe_fmt (pv 1)) (PJ.cons pe_str PJ.nil)))))), ?_⟩
    refine ⟨⟨_, rfl⟩, _, rfl, a, C, dx, _, _, rfl, h1, N.cl, N.nR, rfl, t, rfl, ⟨_, .inl (.inl h2)⟩, fun D hD => ?_⟩
    refine lc_it (walk_tup (K := K) (a := t) (xs := [V.int 1])) (fun i H' => Same H H' ∧ H' D = some (.lst (([tx 1].take i).map V.str))) ⟨sNew (Same.refl H) hD, upd_same⟩ (fun i H' _ h => .inl (.inl (h.1 _ _ h2))) ?_ ?_
    · rintro i x H' _ hi ⟨s1, g1⟩ ⟨rfl, hx⟩
      have hi0 : i = 0 := by simpa using hi
      subst hi0
      obtain rfl := Option.some.inj hx
      exact ⟨rfl, _, rfl, _, rfl, one_log, _, g1, by decide +kernel, sPut s1 hD, upd_same⟩
    · rintro H' ⟨s1, g1⟩
      refine ⟨_, D, [tx 1], rfl, rfl, .inl (SqL.of g1), by decide +kernel, ?_⟩
      rw [one_join]
      refine ⟨_, rfl, by decide +kernel, _, rfl, .inl ⟨_, rfl, by decide +kernel, _, rfl, by decide +kernel, _, rfl, by decide +kernel, ?_⟩⟩
      exact one_shown ▸ q H' s1
theorem ok_preprH {f C : Addr} {fd : FuncData} (F : Fun K "__repr__" "Polynomial.__repr__" sPRepr f fd) (T : Bn mg) (N : Pc K mg C) : L2H.FnH P w K mg base CX0 4 f fd ["self"] (spPR C) := by
  obtain ⟨oc, od, kV, doc, pm, an, cdv, ct, osl, rfl, lk, hcd⟩ := F.ex
  refine L2H.fn_ofH lk hcd scPRepr (fun vs H Q E h => ?_) fun A outer s H vs Q E p hot hr h => ?_
  · obtain ⟨a, rfl, _⟩ := h
    rfl
  · obtain ⟨a, rfl, ⟨dx, t, h1, h2⟩, q⟩ := h
    have hotC : L2H.HotC (L2H.cxH CX0 P w K mg base nPRepr "Polynomial.__repr__" (defScope sPRepr) f cdv A outer s H E p) := ⟨p, hot, List.mem_singleton.mpr rfl⟩
    refine ⟨_, pss_cons (ps_set (i := 1) scPRepr.nd rfl (Or.inl rfl) (pe_join pe_str (pe_lcX (own := [("one", 2)]) (g := gName 2) hotC scPRepr.nd (pe_fld (pv 0) rfl) (blkOk_by (own := [("one", 2)]) (N := nPRepr) (sc := defScope sPRepr) (by decide +kernel))
        (fun _ _ _ _ _ => pg_name (i := 2) scPRepr.nd rfl (Or.inl rfl)) (fun _ _ _ _ _ => pe_callTy call_str_int (by rfl) T.str (by decide +kernel) (pa_cons (pv 2) pa_nil)))))
      (pss_one (ps_ret (pe_joined (PJ.cons pe_str (PJ.cons (pe_fmt (pv 1)) (PJ.cons pe_str PJ.nil)))))), ?_⟩
    refine ⟨⟨_, rfl⟩, _, rfl, a, C, dx, _, _, rfl, h1, N.cl, N.nR, rfl, t, [V.int 1], rfl, .inl (.inl h2), fun D hD => ?_⟩
    refine ⟨fun i H' => Same H H' ∧ H' D = some (.lst (([tx 1].take i).map V.str)), ⟨sNew (Same.refl H) hD, upd_same⟩, fun i H' h => .inl (.inl (h.1 _ _ h2)), ?_, ?_⟩
    · rintro i x H' hx ⟨s1, g1⟩
      have hi0 : i = 0 := by
        have := (List.getElem?_eq_some_iff.mp hx).1
        simpa using this
      subst hi0
      obtain rfl := Option.some.inj hx
      exact ⟨rfl, _, rfl, _, rfl, one_log, _, g1, by decide +kernel, sPut s1 hD, upd_same⟩
    · rintro H' ⟨s1, g1⟩
      refine ⟨_, D, [tx 1], rfl, rfl, .inl (SqL.of g1), by decide +kernel, ?_⟩
      rw [one_join]
      refine ⟨_, rfl, by decide +kernel, _, rfl, .inl ⟨_, rfl, by decide +kernel, _, rfl, by decide +kernel, _, rfl, by decide +kernel, ?_⟩⟩
      exact one_shown ▸ q H' s1
end
end S71

namespace S71
open PySem L2 SR TXM
/-! ### values that are no polynomials, and how they are shown -/
inductive OddT (C : Addr) (H : Hp) : V → Str → Prop where
  | non : OddT C H .non "None"
  | bl (b : Bool) : OddT C H (.bl b) (if b then "True" else "False")
  | str : OddT C H (.str "d") (reprText "d")
  | int0 : OddT C H (.int 0) (tx 0)
  | nil {a : Addr} (e : H a = some (.lst [])) : OddT C H (.ref a) "[]"
  | tup2 {a : Addr} (e : H a = some (.tup [.int 1, .int 2])) : OddT C H (.ref a) (tupleText [tx 1, tx 2])
  | d0 {a : Addr} (e : H a = some (.dK [])) : OddT C H (.ref a) (dictText [])
  | onP {a p : Addr} (e : H a = some (.lst [.ref p])) (hp : PolyAt C H p [1]) : OddT C H (.ref a) (listText [onePT])
theorem OddT.kind {C : Addr} {H : Hp} {v : V} {t : Str} (h : OddT C H v t) : v = .int 0 ∨ ∃ T, OddV H v T := by
  cases h with
  | non => exact .inr ⟨_, .non⟩
  | bl b => exact .inr ⟨_, .bl b⟩
  | str => exact .inr ⟨_, .str _⟩
  | int0 => exact .inl rfl
  | nil e => exact .inr ⟨_, .lst e⟩
  | tup2 e => exact .inr ⟨_, .tup e⟩
  | d0 e => exact .inr ⟨_, .dK e⟩
  | onP e hp => exact .inr ⟨_, .lst e⟩
theorem OddT.same {C : Addr} {H H' : Hp} {v : V} {t : Str} (s : Same H H') (h : OddT C H v t) : OddT C H' v t := by
  cases h with
  | non => exact .non
  | bl b => exact .bl b
  | str => exact .str
  | int0 => exact .int0
  | nil e => exact .nil (s _ _ e)
  | tup2 e => exact .tup2 (s _ _ e)
  | d0 e => exact .d0 (s _ _ e)
  | onP e hp => exact .onP (s _ _ e) (hp.same s)
theorem OddT.len {C : Addr} {H : Hp} {v : V} {t : Str} (h : OddT C H v t) : t.length ≤ 6000 := by
  cases h with
  | non => decide
  | bl b => cases b <;> decide
  | str => decide +kernel
  | int0 => decide +kernel
  | nil e => decide +kernel
  | tup2 e => decide +kernel
  | d0 e => decide +kernel
  | onP e hp => decide +kernel
def isAt (v : V) (c : Addr) : Prop := v = .ref c
/-- Polynomial, shown -/
structure PRp (P : Program) (w : World) (K : PySem.W.Frag) (mg : Str → Option Value) (base : Heap) (C : Addr) : Prop where
  ex : ∃ g fd, PySem.W.findIn K (.ref C) "__repr__" = some (some (.ref g)) ∧ PySem.W.isFn K (.ref g) = true ∧ Binds K fd ["self"] [] ∧ FnR P w K mg base CX0 4 g (spPR C) ∧ L2H.FnH P w K mg base CX0 4 g fd ["self"] (spPR C)
theorem OddT.sx {X : Cx} {C : Addr} {H : Hp} {v : V} {t : Str} (N : PRp X.prog X.w X.K X.mg X.base C) (h : OddT C H v t) : Sx X 6 (fun G => Same H G) (isAt v) v t := by
  cases h with
  | non => exact sx_non
  | bl b => exact sx_bl
  | str => exact sx_str (by decide +kernel)
  | int0 => exact sx_int (by decide)
  | nil e => exact sx_nil (fun G j => j _ _ e)
  | @tup2 a e => exact (sx_tup (k := 5) (B := fun _ => False) (fun G j => j _ _ e) id (.cons (sx_int (by decide)) (.cons (sx_int (by decide)) .nil))).mono (Nat.le_refl _) (fun c hc => by rcases hc with rfl | z; exact rfl; exact z.elim)
  | @d0 a e => exact sx_d0 (k := 5) (fun G j => j _ _ e) rfl
  | @onP a p e hp =>
    obtain ⟨g, fd, h1, h2, h3, h4, h5⟩ := N.ex
    refine (sx_list (k := 5) (B := fun _ => False) (xs := [.ref p]) (ts := [onePT]) (fun G j => j _ _ e) (by simp) id rfl fun i v hv => ?_).mono (Nat.le_refl _) (fun c hc => by rcases hc with rfl | z; exact rfl; exact z.elim)
    match i, hv with
    | 0, hv =>
      obtain rfl : V.ref p = v := by simpa using hv
      obtain ⟨dx, u, p1, p2⟩ := id hp
      exact ⟨_, rfl, (sx_own (k := 4) (B := fun _ => False) h1 h2 ⟨h4, fd, h3, h5⟩ (fun G j => ⟨dx, _, j _ _ p1⟩) fun G j => ⟨p, rfl, hp.same j, fun G' s => ⟨rfl, Same.trans j s⟩⟩).mono (by decide) (fun _ z => z)⟩
    | n + 1, hv => simp at hv
theorem CallR.imp {X : Cx} {f : Value} {r r' : List V → Hp → VK → Prop} (h : CallR X f r) (i : ∀ xs H Q, r' xs H Q → r xs H Q) : CallR X f r' := fun pins s σ H xs us Q I rx q => h pins s σ H xs us Q I rx (i xs H Q q)
/-- repr(v) -/
def rOddR (C : Addr) : List V → Hp → VK → Prop := fun us H Q => ∃ v t, us = [v] ∧ OddT C H v t ∧ ∀ H', Same H H' → Q (.str t) H'
theorem call_oddR {X : Cx} {C : Addr} (N : PRp X.prog X.w X.K X.mg X.base C) (gd : X.A.guards = some []) (hr : RmX X.pn 7 X.A) : CallR X (.builtin "repr") (rOddR C) := by
  refine CallR.imp (call_sx (k := 6) gd hr) fun us H Q h => ?_
  obtain ⟨v, t, rfl, od, q⟩ := h
  have sl : sizeLine = 16777216 := sizeLine_eq
  have := od.len
  exact ⟨v, t, _, _, rfl, Same.refl H, od.sx N, by omega, fun H' s => q H' s⟩
abbrev veTail : List Value := [.type "ValueError", .type "Exception", .type "BaseException", .type "object"]
abbrev fV : Str := "value"
/-- a def with __class__ captured -/
abbrev fnC (name qual : Str) (params : Arguments) (body : List Stmt) (scope : Scope) (dV kV doc pm : Value) (an : Option Addr) (cdv ct : Value) (cc : Addr) : FuncData :=
  { name, qualname := qual, params, body := .stmts body, scope, globals := mainGlobals, closure := [(("__class__" : Str), cc)], defaults := dV, kwdefaults := kV, doc, pyModule := pm, annotations := an, code := cdv, closureTuple := ct, builtins := builtinsNs }
section
variable {P : Program} {w : World} {K : PySem.W.Frag} {mg : Str → Option Value} {base : Heap}
def spIN (C D : Addr) : Sp := fun vs H Q _ => ∃ (a : Addr) (v : V) (t : Str), vs = [.ref a, v] ∧ H a = some (exo a D none) ∧ OddT C H v t ∧
  ∀ H' dx, Same H H' → H' dx = none → dx ≠ a → Q .non (upd (upd H' dx (exd dx [(fV, v)])) a (exo a D (some dx)))
/-! ### InvalidPolynomial.__init__ -/
def ipArg : Arg := ((defArgs sIPInit).posonlyargs ++ (defArgs sIPInit).args).headD (Arg.mk "" none ⟨0, 0, 0, 0⟩)
theorem ip_len : (("not a polynomial: " : Str)).length = 18 := rfl
theorem e_len : Str.empty.length = 0 := rfl
theorem ok_ip {f C D cc : Addr} {cd1 : Option Addr} {sl1 : Array (Option Value)} {kV doc pm cdv ct : Value} {an : Option Addr} (hcd : PySem.W.codeIn K cdv "InvalidPolynomial.__init__" = true) (hcc : K.lookup cc = some ⟨.type "cell", cd1, .cell (some (.ref D)), sl1⟩)
    (T : SupK "ValueError" "ValueError.__new__" "ValueError.__init__" veTail P K mg D f (fnC "__init__" "InvalidPolynomial.__init__" (defArgs sIPInit) (defBody sIPInit) (defScope sIPInit) .none kV doc pm an cdv ct cc) ipArg)
    (N : PRp P w K mg base C) (O : OexC K D) (hno : PySem.W.findIn K (.ref D) "value" = some none) :
    FnG P w K mg base CX0 7 f (fnC "__init__" "InvalidPolynomial.__init__" (defArgs sIPInit) (defBody sIPInit) (defScope sIPInit) .none kV doc pm an cdv ct cc) ["self", "value"] (spIN C D) := by
  refine fn_sup (k := 6) (N := ["self", "value"]) ⟨rfl, rfl, rfl, by decide, rfl, by show ∀ x ∈ [("self" : Str), "value"], (defScope sIPInit).names.lookup x = some .local; decide +kernel, by show ∀ y ∈ (defScope sIPInit).names, y.2 ≠ .cell; decide +kernel, by show ∀ y ∈ (defScope sIPInit).names, y.2 = .free → y.1 = ("__class__" : Str); decide +kernel, rfl, rfl, rfl, rfl, rfl⟩ hcc F.excBase_ValueError PySem.W.kxs_ValueError T rfl hcd rfl (fun vs H Q E h => ?_) (fun env => rfl) (fun env => rfl) (fun L => rfl) (fun L => rfl) (fun A outer s H vs Q E gd hr h => ?_)
  · obtain ⟨a, v, t, rfl, _⟩ := h
    rfl
  · obtain ⟨a, v, t, rfl, ha, od, q⟩ := h
    refine ⟨a, _, _, rfl, ha, pa_cons (pe_joined (PJ.cons pe_str (PJ.cons (pe_fmtX (k := 6) (deeper_guards.trans gd) hr.rmX (pv 1)) PJ.nil))) pa_nil, pss_one (ps_ost (pv 0) (pv 1)), ?_⟩
    have sl : sizeLine = 16777216 := sizeLine_eq
    have hl := od.len
    refine ⟨_, rfl, ?_, _, rfl, t, fun G => Same H G, isAt v, Same.refl H, od.sx (X := cxS CX0 P w K mg base ["self", "value"] _ f A outer s H E) N, by omega, fun H' j => ?_⟩
    · rw [strLen_append, e_len, ip_len, sl]; decide
    refine ⟨_, rfl, ?_, by show 1 ≤ 1000; decide, j _ _ ha, ?_⟩
    · show (Str.empty ++ ("not a polynomial: " : Str) ++ t).length ≤ _
      rw [strLen_append, strLen_append, e_len, ip_len]; omega
    refine ⟨_, rfl, _, rfl, a, D, rfl, O, hno, .inl ⟨j _ _ ha, fun dx hd ne => q H' dx j hd ne⟩⟩
/-- InvalidPolynomial -/
structure PErr (P : Program) (w : World) (K : PySem.W.Frag) (mg : Str → Option Value) (base : Heap) (C D : Addr) : Prop where
  cl : OexC K D
  mgD : mg "InvalidPolynomial" = some (.ref D)
  ex : ∃ fI fd, PySem.W.findIn K (.ref D) "__init__" = some (some (.ref fI)) ∧ PySem.W.typeIn K (.ref fI) = some (.type "function") ∧ Binds K fd ["self", "value"] [] ∧ FnG P w K mg base CX0 7 fI fd ["self", "value"] (spIN C D)
  me : PySem.W.exmOne K (.ref D) (.ref D) = some true
  xf : XfC K D
  no : PySem.W.findIn K (.ref D) "value" = some none
end
theorem pmk_err {X : Cx} {C D : Addr} {e : Expr} {es : List Expr} {ta : TA} {p pos : Pos} (Z : PErr X.prog X.w X.K X.mg X.base C D) (gd : X.A.guards = some []) (hr : Room 8 X.A) (hg : Gl X "InvalidPolynomial") (ha : PA X (e :: es) ta)
    (he : starEach (e :: es) X.env = (false, eval e X.env) :: starEach es X.env := by rfl) (hpl : (backTo pos (starEach es X.env)).any (·.1) = false := by rfl) : L2N.PMk X (.Call (.Name "InvalidPolynomial" p) (e :: es) [] pos) (tMkO D (spIN C D) [] ta) := by
  obtain ⟨fI, fd, h1, h2, h3, h4⟩ := Z.ex
  exact pmk_oexN (CX := CX0) Z.cl h1 h2 h4 gd hr h3 .nil pass0 hg Z.mgD ha (by decide) he hpl
/-- what is let out -/
def XW (D : Addr) (v : V) (H : Hp) (E : XK) : Prop := ∀ (H' : Hp) (d : Addr), Same H H' → H d = none → H' d = some (.xd [(fV, v)]) → E (.ref D) (some d) H'
theorem XW.same {D : Addr} {v : V} {H H' : Hp} {E : XK} (s : Same H H') (h : XW D v H E) : XW D v H' E := fun H2 d s2 hn e => h H2 d (Same.trans s s2) (s.free hn) e
theorem raised {C D : Addr} {v : V} {t : Str} {H H1 : Hp} {E : XK} (s1 : Same H H1) (od : OddT C H v t) (x : XW D v H E) : [v].length ≤ 1000 ∧ ∀ a, H1 a = none → spIN C D (.ref a :: ([v] ++ [])) (upd H1 a (exo a D none))
  (fun r H2 => r = .non ∧ ∃ (d : Addr) (fs : List (Str × V)), H2 a = some (exo a D (some d)) ∧ H2 d = some (exd d fs) ∧ H1 d = none ∧ E (.ref D) (some d) (upd (del H2 a) d (.xd fs))) (fun _ _ _ => False) := by
  refine ⟨by show 1 ≤ 1000; decide, fun a ha => ⟨a, v, t, rfl, upd_same, (od.same s1).same (sNew (Same.refl H1) ha), fun G dx j hdx ne => ⟨rfl, dx, [(fV, v)], upd_same, ?_, ?_, ?_⟩⟩⟩
  · rw [upd_ne ne]; exact upd_same
  · have z := j.free hdx
    rwa [upd_ne ne] at z
  · have z := j.free hdx
    rw [upd_ne ne] at z
    refine x _ dx (fun b o hb => ?_) (s1.free z) upd_same
    have hb1 := s1 _ _ hb
    have n1 : b ≠ a := ne_of_none hb1 ha
    have n2 : b ≠ dx := ne_of_none hb1 z
    rw [upd_ne n2, del_ne n1, upd_ne n1, upd_ne n2]
    exact j _ _ (by rw [upd_ne n1]; exact hb1)
/-- odd values are no instances of Polynomial -/
structure PcO (K : PySem.W.Frag) (C : Addr) : Prop where
  ik : PySem.W.kitOne K (.type "int") (.ref C) = some false
  oc : OddC K C
section
variable {P : Program} {w : World} {K : PySem.W.Frag} {mg : Str → Option Value} {base : Heap}
/-! ### row_of, sign_runs, where they raise -/
def spRowX (C D : Addr) : Sp := fun vs H _ E => ∃ (v : V) (t : Str), vs = [v] ∧ OddT C H v t ∧ XW D v H E
theorem ok_rowX {f C D : Addr} {fd : FuncData} (F : Fun K "row_of" "row_of" sRowOf f fd) (B : Bn mg) (N : Pc K mg C) (M : PcO K C) (Z : PErr P w K mg base C D) : FnG P w K mg base (L2N.CX P w) 9 f fd ["value"] (spRowX C D) := by
  obtain ⟨oc, od, kV, doc, pm, an, cdv, ct, osl, rfl, lk, hcd⟩ := F.ex
  refine fn_ofG lk hcd scRowOf (fun vs H Q E h => ?_) fun A outer s H vs Q E gd hr h => ?_
  · obtain ⟨v, t, rfl, _⟩ := h
    rfl
  · obtain ⟨v, t, rfl, od, xw⟩ := h
    refine ⟨_, pss_cons (ps_if (pt_not (pt_val (pe_callB call_isi (by rfl) B.isi (by decide +kernel) (pa_cons (pv 0) (pa_cons (pe_glob (v := .ref C) (by rfl) N.mgC rfl) pa_nil))))) (pss_one (L2N.ps_raise (by rfl) (L2N.takes_of (E := E) rfl rfl rfl rfl) (pmk_err Z (deeper_guards.trans gd) hr (by rfl) (pa_cons (pv 0) pa_nil)))) pss_nil)
      (pss_one ps_never), ?_⟩
    rcases od.kind with rfl | ⟨T, ov⟩
    · refine ⟨_, rfl, _, _, _, _, false, rfl, .own C, .base (.int 0), M.ik, false, rfl, ?_⟩
      exact iteT ⟨_, rfl, raised (Same.refl H) od xw⟩
    · refine ⟨_, rfl, _, _, _, _, false, rfl, .own C, ov.ty, (ov.tyc M.oc).kit, false, rfl, ?_⟩
      exact iteT ⟨_, rfl, raised (Same.refl H) od xw⟩
structure DfX (P : Program) (w : World) (K : PySem.W.Frag) (mg : Str → Option Value) (base : Heap) (x : Str) (ps : List Str) (k : Nat) (sp : Sp) : Prop where
  ex : ∃ f fd, mg x = some (.ref f) ∧ PySem.W.keepIn K (.ref f) = true ∧ Binds K fd ps [] ∧ FnG P w K mg base (L2N.CX P w) k f fd ps sp
theorem ok_srX {f C D : Addr} {fd : FuncData} (F : Fun K "sign_runs" "sign_runs" sSignRuns f fd) (DO : Df P w K mg base "one_sign" ["row"] 1 (spOne K)) (DR : DfX P w K mg base "row_of" ["value"] 9 (spRowX C D)) : FnG P w K mg base (L2N.CX P w) 10 f fd ["polynomial"] (spRowX C D) := by
  obtain ⟨oc, od, kV, doc, pm, an, cdv, ct, osl, rfl, lk, hcd⟩ := F.ex
  obtain ⟨g, fg, m1, m2, m3, G⟩ := DR.ex
  refine fn_ofG lk hcd scSR (fun vs H Q E h => ?_) fun A outer s H vs Q E gd hr h => ?_
  · obtain ⟨v, t, rfl, _⟩ := h
    rfl
  · obtain ⟨v, t, rfl, od, xw⟩ := h
    refine ⟨_, pss_cons (ps_set (i := 1) scSR.nd rfl (Or.inl rfl) (pe_df DO (hr.mono (by decide)) (by rfl) (pa_cons (pe_callG G (deeper_guards.trans gd) hr (by rfl) m1 m2 m3 .nil (L2N.passes_call (L2N.takes_of (E := E) rfl rfl rfl rfl) fun _ _ _ _ z => z) (pa_cons (pv 0) pa_nil)) pa_nil))) pss_never, ?_⟩
    exact ⟨_, rfl, v, t, rfl, od, xw⟩
end
end S71

namespace S71
open PySem L2 SR TXM
open PyProof.Rows (envOfC)
section
variable {P : Program} {w : World} {K : PySem.W.Frag} {mg : Str → Option Value} {base : Heap}
/-! ### _law_refused -/
abbrev nRefused : List Str := ["_law_value", "e"]
theorem scRefused : FnScope nRefused ["_law_value"] (defScope sRefused) := ⟨rfl, rfl, rfl, by decide +kernel, rfl, by decide +kernel, by decide +kernel⟩
def spRefused (C : Addr) : Sp := fun vs H Q _ => ∃ (v : V) (t : Str), vs = [v] ∧ OddT C H v t ∧ ∀ H' : Hp, Same H H' → Q (.bl true) H'
abbrev rcx (P : Program) (w : World) (K : PySem.W.Frag) (mg : Str → Option Value) (base : Heap) (f : Addr) (cdv : Value) (A : Around) (outer : List Env) (s : Shared) (H : Hp) (E : XK) : Cx := (cxOf CX0 P w K mg base nRefused "_law_refused" (defScope sRefused) f cdv A outer s H E).nox
def tsRef (C D : Addr) : Addr → Value → Option Addr → TS := fun a cls d => tRet (tOp rEq (tCB (rOddR C) (tCons (tXf a cls d D fV (tVar 1)) tNil)) (tCB (rOddR C) (tCons (tVar 0) tNil)))
theorem ok_refused {f C D : Addr} {fd : FuncData} (F : Fun K "_law_refused" "_law_refused" sRefused f fd) (B : Bn mg) (N : PRp P w K mg base C) (Z : PErr P w K mg base C D) (DS : DfX P w K mg base "sign_runs" ["polynomial"] 10 (spRowX C D)) : FnG P w K mg base CX0 11 f fd ["_law_value"] (spRefused C) := by
  refine F.okG scRefused (fun vs H Q E h => ?_) (fun cdv A outer s H vs Q E gd hr h => ?_)
  · obtain ⟨v, t, rfl, _⟩ := h
    rfl
  · obtain ⟨v, t, rfl, od, q⟩ := h
    obtain ⟨g, fg, m1, m2, m3, G⟩ := DS.ex
    refine' ⟨_, pss_cons ?ptry (pss_one (ps_ret pe_bl)), ?_⟩
    case ptry =>
      refine' L2N.ps_try_as (X := rcx P w K mg base f cdv A outer s H E) (i := 1) (tb := fun W => tDrop (fun σ H Q => tCons (tVar 0) tNil σ H fun vs H1 => spRowX C D vs H1 Q (WE W σ))) (ts := tsRef C D) (c := .ref D) (Wout := fun _ _ _ _ => False) rfl rfl scRefused.nd rfl rfl ⟨by rfl, by decide, .inl Z.mgD⟩ (fun u s' ⟨_, _, _, _, _, _, _, _, _, _, _, _, _, _, _, _, z⟩ => z.elim) ?hb ?hsu
      case hb =>
        intro W pn xe tk po
        exact pss_one (ps_expr (pe_callW G (deeper_guards.trans gd) hr (by rfl) m1 m2 m3 (fun σ => L2N.passAt tk σ) (pa_cons (pv 0) pa_nil)))
      case hsu =>
        intro e oe cls d pn hz hf
        have rm : RmX ((e, oe) :: pn) 7 ((rcx P w K mg base f cdv A outer s H E).suite e ((e, oe) :: pn)).A := by
          obtain ⟨vs, hv⟩ := id hf
          refine RmX.mono (j := 10) ⟨hr.dp, hr.un, .inr ⟨(e, oe), List.mem_cons_self, rfl, vs, hv, hz.2.2 vs hv⟩⟩ (by decide)
        have gq : ((rcx P w K mg base f cdv A outer s H E).suite e ((e, oe) :: pn)).A.guards = some [] := (deeper_guards (A := A) (env := envOfC "_law_refused" (defScope sRefused) s.heap.objs.size f cdv)).trans gd
        exact pss_one (ps_ret (pe_cmpR op_eq (pe_callB (call_oddR N gq rm) (by rfl) B.repr (by decide +kernel) (pa_cons (pe_xf (X := rcx P w K mg base f cdv A outer s H E) Z.xf Z.no hz.zc hf (pv 1)) pa_nil)) (pe_callB (call_oddR N gq rm) (by rfl) B.repr (by decide +kernel) (pa_cons (pv 0) pa_nil)) (nomark _)))
    refine ⟨_, rfl, v, t, rfl, od, fun H2 d s2 hn hd => ?_⟩
    refine ⟨true, Z.me, fun _ a ha => ?_, fun z => by cases z⟩
    refine ⟨_, rfl, rfl, rfl, d, _, v, rfl, hd, rfl, v, t, rfl, od.same s2, fun H3 s3 => ?_⟩
    refine ⟨_, rfl, v, t, rfl, od.same (Same.trans s2 s3), fun H4 s4 => ?_⟩
    refine ⟨rfl, ?_⟩
    have z := q H4 (Same.trans s2 (Same.trans s3 s4))
    have e1 : decide (V.str t = V.str t) = true := decide_eq_true rfl
    rw [← e1] at z
    exact z
end
end S71

namespace S71
open PySem L2 SR TXM
/-! ### how runs are shown -/
def dPair (p : Int × Int) : PyData := .tuple [.int p.1, .int p.2]
def runsT (L : List (Int × Int)) : Str := (dPairs L).shown
def twoT (L M : List (Int × Int)) : Str := (PyData.list [dPairs L, dPairs M]).shown
theorem small_int {i : Int} (h : i.natAbs < 2 ^ 100) : i.natAbs.log2 < 1920 := Nat.lt_trans (log_of h (by decide)) (by decide)
theorem sign_small {i : Int} (h : i = -1 ∨ i = 0 ∨ i = 1) : i.natAbs < 2 ^ 100 := by
  rcases h with rfl | rfl | rfl <;> decide
theorem len_int {i : Int} (h : i.natAbs < 2 ^ 100) : ((toString i : String) : Str).length ≤ 2000 := by
  have := PyProof.Rows.int_text_len_1921 (i := i) (small_int h)
  simpa using Nat.le_trans this (by decide)
theorem show_pairs : ∀ {L : List (Int × Int)}, (∀ p ∈ L, p.1.natAbs < 2 ^ 100 ∧ (p.2 = -1 ∨ p.2 = 0 ∨ p.2 = 1)) → PyData.showableAll (L.map dPair) = true ∧ PyData.hasDictAll (L.map dPair) = false ∧ ((PyData.shownAll (L.map dPair)).map (·.length)).sum ≤ 4010 * L.length ∧ (PyData.shownAll (L.map dPair)).length = L.length
  | [], _ => ⟨rfl, rfl, Nat.zero_le _, rfl⟩
  | p :: L, h => by
    obtain ⟨a, b, c, d⟩ := show_pairs (L := L) fun q hq => h q (List.mem_cons_of_mem _ hq)
    obtain ⟨h1, h2⟩ := h p List.mem_cons_self
    have h3 := sign_small h2
    have s1 : PyData.showable (dPair p) = true := by
      show (decide _ && (decide _ && true)) = true
      rw [decide_eq_true (small_int h1), decide_eq_true (small_int h3)]
      rfl
    have l1 : (PyData.shown (dPair p)).length ≤ 4010 := by
      have z := tupleText_len_le [((toString p.1 : String) : Str), ((toString p.2 : String) : Str)]
      have z1 := len_int h1
      have z2 := len_int h3
      simp only [List.map_cons, List.map_nil, List.sum_cons, List.sum_nil, List.length_cons, List.length_nil] at z
      exact Nat.le_trans z (by omega)
    refine ⟨?_, ?_, ?_, ?_⟩
    · show (PyData.showable (dPair p) && PyData.showableAll (L.map dPair)) = true
      rw [s1, a]
      rfl
    · show (PyData.hasDict (dPair p) || PyData.hasDictAll (L.map dPair)) = false
      rw [b]
      rfl
    · show (PyData.shown (dPair p)).length + ((PyData.shownAll (L.map dPair)).map (·.length)).sum ≤ 4010 * (L.length + 1)
      omega
    · show (PyData.shownAll (L.map dPair)).length + 1 = L.length + 1
      rw [d]
theorem runs_len {L : List (Int × Int)} (h : SmallP L) : (runsT L).length ≤ 257000 := by
  obtain ⟨_, _, c, d⟩ := show_pairs h.2
  have few := h.1
  have z : (runsT L).length ≤ _ := listText_len_le (PyData.shownAll (L.map dPair))
  rw [d] at z
  omega
theorem two_len {L M : List (Int × Int)} (h : SmallP L) (k : SmallP M) : (twoT L M).length ≤ 520000 := by
  have z : (twoT L M).length ≤ _ := listText_len_le [runsT L, runsT M]
  have z1 := runs_len h
  have z2 := runs_len k
  simp only [List.map_cons, List.map_nil, List.sum_cons, List.sum_nil, List.length_cons, List.length_nil] at z
  omega
def rRuns : List V → Hp → VK → Prop := fun us H Q => ∃ (l : Addr) (L : List (Int × Int)), us = [.ref l] ∧ RunsAt H l L ∧ SmallP L ∧ Q (.str (runsT L)) H
def rTwoR : List V → Hp → VK → Prop := fun us H Q => ∃ (l a b : Addr) (L M : List (Int × Int)), us = [.ref l] ∧ H l = some (.lst [.ref a, .ref b]) ∧ RunsAt H a L ∧ RunsAt H b M ∧ SmallP L ∧ SmallP M ∧ Q (.str (twoT L M)) H
theorem depth_runs (L : List (Int × Int)) : (dPairs L).depth ≤ 2 := by
  have := depth_pairs L
  show PyData.depthAll (L.map fun p => PyData.tuple [.int p.1, .int p.2]) + 1 ≤ 2
  omega
theorem call_runs {X : Cx} (gd : X.A.guards = some []) (hr : Room 1 X.A) : CallR X (.builtin "repr") rRuns := by
  have hu : X.A.units + 70 < cLine := by have := hr.un; omega
  refine CallR.imp (call_reprD gd hu) fun us H Q h => ?_
  obtain ⟨l, L, rfl, hL, sm, q⟩ := h
  obtain ⟨a, b, _, _⟩ := show_pairs sm.2
  have sl : sizeLine = 16777216 := sizeLine_eq
  have z := runs_len sm
  exact ⟨l, dPairs L, rfl, dp_pairs hL, a, b, Nat.le_trans (depth_runs L) (by decide), by show (runsT L).length ≤ _; omega, q⟩
theorem call_twoR {X : Cx} (gd : X.A.guards = some []) (hr : Room 1 X.A) : CallR X (.builtin "repr") rTwoR := by
  have hu : X.A.units + 70 < cLine := by have := hr.un; omega
  refine CallR.imp (call_reprD gd hu) fun us H Q h => ?_
  obtain ⟨l, a, b, L, M, rfl, hl, hL, hM, s1, s2, q⟩ := h
  obtain ⟨a1, b1, _, _⟩ := show_pairs s1.2
  obtain ⟨a2, b2, _, _⟩ := show_pairs s2.2
  have sl : sizeLine = 16777216 := sizeLine_eq
  have z := two_len s1 s2
  refine ⟨l, .list [dPairs L, dPairs M], rfl, .lst (SqL.of hl) (.cons (dp_pairs hL) (.cons (dp_pairs hM) .nil)), ?_, ?_, ?_, by show (twoT L M).length ≤ _; omega, q⟩
  · show (PyData.showableAll (L.map dPair) && (PyData.showableAll (M.map dPair) && true)) = true
    rw [a1, a2]
    rfl
  · show (PyData.hasDictAll (L.map dPair) || (PyData.hasDictAll (M.map dPair) || false)) = false
    rw [b1, b2]
    rfl
  · have d1 := depth_runs L
    have d2 := depth_runs M
    show max (dPairs L).depth (max (dPairs M).depth 0) + 1 ≤ 64
    omega
theorem runs_one : runsT [(1, 1)] = ("[(1, 1)]" : Str) := by decide +kernel
theorem SmallP.flip {L : List (Int × Int)} (h : SmallP L) : SmallP (L.map fun p => (p.1, -p.2)) := by
  refine ⟨by rw [List.length_map]; exact h.1, fun p hp => ?_⟩
  obtain ⟨q, hq, rfl⟩ := List.mem_map.mp hp
  obtain ⟨a, b⟩ := h.2 q hq
  exact ⟨a, by rcases b with e | e | e <;> (show -q.2 = -1 ∨ -q.2 = 0 ∨ -q.2 = 1) <;> omega⟩
theorem small_one : SmallP [(1, 1)] := ⟨by decide, fun p hp => by
  rw [List.mem_singleton.mp hp]
  exact ⟨by decide, .inr (.inr rfl)⟩⟩
/-! ### rows -/
theorem fac_bd {f : Fac} (h : FacOk 10 f) : Bd 68 (facR f) := by
  obtain ⟨⟨a0, a1⟩, ⟨b0, b1⟩, _⟩ := h
  have ha : f.a.natAbs < 2 ^ 68 := Nat.lt_of_lt_of_le (show f.a.natAbs < 41 by omega) (by decide)
  have hb : f.b.natAbs < 2 ^ 68 := Nat.lt_of_lt_of_le (show f.b.natAbs < 200000000000000000000 by omega) (by decide)
  unfold facR
  intro y hy
  split at hy
  · simp only [List.mem_cons, List.not_mem_nil, or_false] at hy
    rcases hy with rfl | rfl | rfl
    · exact hb
    · decide
    · exact ha
  · simp only [List.mem_cons, List.not_mem_nil, or_false] at hy
    rcases hy with rfl | rfl
    · rw [Int.natAbs_neg]; exact hb
    · exact ha
/-- what is known of the product's row -/
structure WholeRow (n : Int) (fs : List Fac) (i : Nat) (c : List Int) : Prop where
  can : Canon c
  ev : ∀ x, SR.ev c x = prodE n (fs.take i) x
  bd : Bd (50 + 73 * i) c
  len : c.length ≤ 1 + 2 * i
theorem WholeRow.zero {n : Int} {fs : List Fac} {c : List Int} {k : Nat} (hn : n.natAbs < 2 ^ 50) (e : [n] = c ++ List.replicate k 0) (hc : Canon c) : WholeRow n fs 0 c := by
  refine ⟨hc, fun x => ?_, row_bd e fun a ha => by rw [List.mem_singleton.mp ha]; exact hn, ?_⟩
  · rw [row_ev e]
    show n + x * 0 = n
    rw [Int.mul_zero, Int.add_zero]
  · have z := congrArg List.length e
    simp only [List.length_append, List.length_replicate, List.length_cons, List.length_nil] at z
    omega
theorem WholeRow.next {n : Int} {fs : List Fac} {i : Nat} {c d : List Int} {k : Nat} {f : Fac} (h : WholeRow n fs i c) (hf : fs[i]? = some f) (ok : FacOk 10 f) (few : i ≤ 5) (e : mulR c (facR f) = d ++ List.replicate k 0) (hd : Canon d) : WholeRow n fs (i + 1) d := by
  have l3 := len_facR f
  have lc := h.len
  refine ⟨hd, fun x => ?_, ?_, ?_⟩
  · rw [row_ev e, ev_mulR, h.ev, take_fac hf, prodE_snoc]
  · have z := Bd.mul h.bd (fac_bd ok) (by omega)
    exact (row_bd e z).mono (by omega)
  · have z := mul_len hd fun x => row_ev e x
    omega
theorem WholeRow.runs {n : Int} {fs : List Fac} {c : List Int} (h : WholeRow n fs fs.length c) (ok : ∀ f ∈ fs, FacOk 10 f) {L M : List (Int × Int)} (hM : IsRuns (signAt n fs) 1 M) (hL : IsRuns (fun d => sgn (SR.ev c d)) 1 L) : L = M := by
  refine IsRuns.uniq (IsRuns.congr (fun d _ => ?_) hL) hM
  show sgn (SR.ev c d) = signAt n fs d
  rw [h.ev, List.take_length, sgn_prodE fun f hf => ⟨(ok f hf).1.1, (ok f hf).2.2⟩]
end S71

namespace S71
open PySem L2 SR TXM
/-- a list of factors in the making -/
def FacsM (m : Nat) (H : Hp) (ws : List V) (fs : List Fac) : Prop := ws.length = fs.length ∧ ∀ (i : Nat) (v : V), ws[i]? = some v → ∃ f, fs[i]? = some f ∧ FacAt H v f ∧ FacOk m f
theorem FacsM.all {m : Nat} {H : Hp} {ws : List V} {fs : List Fac} (h : FacsM m H ws fs) : AllF H m ws := fun v hv => by
  obtain ⟨i, hi⟩ := List.mem_iff_getElem?.mp hv
  obtain ⟨f, _, a, b⟩ := h.2 i v hi
  exact ⟨f, a, b⟩
theorem FacsM.facs {m : Nat} {H : Hp} {ws : List V} {fs : List Fac} (h : FacsM m H ws fs) (hm : m ≤ 10) : Facs H ws fs := ⟨h.1, fun i v e => let ⟨f, a, b, c⟩ := h.2 i v e; ⟨f, a, b, c.mono hm⟩⟩
/-- one more: the list at D is put anew -/
theorem FacsM.put {m : Nat} {H G : Hp} {D l : Addr} {ws : List V} {fs : List Fac} {v : V} {f : Fac} (h : FacsM m H ws fs) (hl : PotAt H l) (s : SameX l H G) (hD : G D = some (.lst ws)) (a : FacAt G v f) (b : FacOk (m + 1) f) :
    FacsM (m + 1) (upd G D (.lst (ws ++ [v]))) (ws ++ [v]) (fs ++ [f]) := by
  have keep : ∀ {u : V} {g : Fac}, FacAt G u g → FacAt (upd G D (.lst (ws ++ [v]))) u g := fun {u g} ⟨t, e, k⟩ => ⟨t, e, by rw [upd_ne (fun z => by rw [z, hD] at k; cases k)]; exact k⟩
  refine ⟨by simp [h.1], fun i u e => ?_⟩
  by_cases hi : i < ws.length
  · rw [List.getElem?_append_left hi] at e
    rw [List.getElem?_append_left (h.1 ▸ hi)]
    obtain ⟨g, x, y, z⟩ := h.2 i u e
    exact ⟨g, x, keep (y.sameX hl s), z.mono (by omega)⟩
  · rw [List.getElem?_append_right (by omega)] at e
    rw [List.getElem?_append_right (by rw [← h.1]; omega), ← h.1]
    cases hk : i - ws.length with
    | zero =>
      rw [hk] at e
      obtain rfl : v = u := Option.some.inj e
      exact ⟨f, rfl, keep a, b⟩
    | succ k => rw [hk] at e; simp at e
theorem PolyAt.sameX {C l p : Addr} {H H' : Hp} {r : List Int} (hl : PotAt H l) (s : SameX l H H') (h : PolyAt C H p r) : PolyAt C H' p r := by
  obtain ⟨dx, t, e1, e2⟩ := h
  exact ⟨dx, t, s _ _ (hl.apart e1 fun _ _ z => nomatch z) e1, s _ _ (hl.apart e2 fun _ _ z => nomatch z) e2⟩
theorem tups_sameX {l : Addr} {H H' : Hp} (hl : PotAt H l) (s : SameX l H H') : ∀ {vs : List V} {L : List (Int × Int)}, Tups H vs L → Tups H' vs L
  | [], [], _ => trivial
  | _ :: _, _ :: _, ⟨⟨t, e, h⟩, r⟩ => ⟨⟨t, e, s _ _ (hl.apart h fun _ _ z => nomatch z) h⟩, tups_sameX hl s r⟩
  | [], _ :: _, h => h.elim
  | _ :: _, [], h => h.elim
theorem RunsAt.sameX {l a : Addr} {H H' : Hp} {L : List (Int × Int)} (hl : PotAt H l) (s : SameX l H H') (ne : a ≠ l) (h : RunsAt H a L) : RunsAt H' a L := by
  obtain ⟨vs, e, t⟩ := h
  exact ⟨vs, s _ _ ne e, tups_sameX hl s t⟩
/-- the same runs, with the other signs -/
def flipL (L : List (Int × Int)) : List (Int × Int) := L.map fun p => (p.1, -p.2)
structure DfGs (P : Program) (w : World) (K : PySem.W.Frag) (mg : Str → Option Value) (base : Heap) (C : Addr) : Prop where
  op : POp P w K mg base C
  draw : Df P w K mg base "_law_draw" ["_law_rng_here", "_law_many"] 1 spDraw
  choice : Df P w K mg base "_law_choice" ["_law_rng_here", "_law_some"] 2 spChoice
  factor : Df P w K mg base "_law_factor" ["_law_rng_here", "_law_others", "_law_great"] 3 spFactor
  poly : Df P w K mg base "_law_polynomial" ["_law_factor_here"] 4 (spPoly C)
  due : Df P w K mg base "_law_due" ["_law_number", "_law_factors"] 3 spDue
  runs : Df P w K mg base "sign_runs" ["polynomial"] 6 (spSignRuns C)
  runsK : ∃ f fd, mg "sign_runs" = some (.ref f) ∧ PySem.W.keepIn K (.ref f) = true ∧ KBinds K fd ["polynomial"] ["polynomial"] gK1 gKV1 ∧ FnOk P w K mg base CX0 6 f fd ["polynomial"] (spSignRuns C)
section
variable {P : Program} {w : World} {K : PySem.W.Frag} {mg : Str → Option Value} {base : Heap}
/-! ### _law_product_right -/
def spProduct : Sp := fun vs H Q _ => ∃ l : Addr, vs = [.ref l] ∧ PotAt H l ∧ ∀ H', SameX l H H' → PotAt H' l → Q (.bl true) H'
abbrev nProduct : List Str := ["_law_rng_here", "_law_number", "_law_factors", "_law_many", "_law_turn", "_law_whole", "_law_due_here", "_law_factor_here", "_law_told", "_law_flipped", "_law_place", "_law_sign_here", "_law_further"]
theorem scProduct : FnScope nProduct ["_law_rng_here"] (defScope sProduct) := ⟨rfl, rfl, rfl, by decide +kernel, rfl, by decide +kernel, by decide +kernel⟩
theorem draws_mono {b c : V} {i : Nat} (σ : St) (H : Hp) (Q Q' : List V → Hp → Prop) (h : ∀ y H1, Q y H1 → Q' y H1) (q : tCons (tCall spDraw [] E0 (tCons (tVar i) (tCons (tC b) tNil))) (tCons (tC c) (tCons (tCall spDraw [] E0 (tCons (tVar i) (tCons (tC b) tNil))) tNil)) σ H Q) :
    tCons (tCall spDraw [] E0 (tCons (tVar i) (tCons (tC b) tNil))) (tCons (tC c) (tCons (tCall spDraw [] E0 (tCons (tVar i) (tCons (tC b) tNil))) tNil)) σ H Q' := by
  obtain ⟨v, e, l, m, e1, e2, e3, e4, q⟩ := q
  refine ⟨v, e, l, m, e1, e2, e3, e4, fun H' d s p d0 d1 => ?_⟩
  obtain ⟨v', e', l', m', e1', e2', e3', e4', q'⟩ := q H' d s p d0 d1
  exact ⟨v', e', l', m', e1', e2', e3', e4', fun H'' d' s' p' d0' d1' => h _ _ (q' H'' d' s' p' d0' d1')⟩
theorem ok_product {f C : Addr} {fd : FuncData} (F : Fun K "_law_product_right" "_law_product_right" sProduct f fd) (T : Bn mg) (D : DfGs P w K mg base C) : FnG P w K mg base CX0 7 f fd ["_law_rng_here"] spProduct := by
  refine F.okG scProduct (fun vs H Q E h => ?_) (fun cdv A outer s H vs Q E gd hr h => ?_)
  · obtain ⟨l, rfl, _⟩ := h
    rfl
  · obtain ⟨l, rfl, hp, q⟩ := h
    have N := D.op
    obtain ⟨gk, fk, k1, k2, k3, GK⟩ := D.runsK
    have h1 : Room 1 _ := hr.mono (by decide)
    have h2 : Room 2 _ := hr.mono (by decide)
    have h3 : Room 3 _ := hr.mono (by decide)
    have h4 : Room 4 _ := hr.mono (by decide)
    refine ⟨_, pss_cons (ps_set (i := 1) scProduct.nd rfl (Or.inl rfl) (pe_df D.choice h2 (by rfl) (pa_cons (pv 0) (pa_cons (pe_lst (pa_cons pe_int (pa_cons (pe_un un_neg pe_int) (pa_cons pe_int (pa_cons pe_int (pa_cons (pe_un un_neg pe_int) (pa_cons (pe_op op_pow pe_int pe_int)
        (pa_cons (pe_op op_sub (pe_un un_neg pe_int) (pe_df D.draw h1 (by rfl) (pa_cons (pv 0) (pa_cons (pe_op op_pow pe_int pe_int) pa_nil)))) pa_nil)))))))) pa_nil))))
      (pss_cons (ps_par (i := 2) (j := 3) (by rfl) scProduct.nd rfl rfl (by decide) rfl rfl (pa_cons (pe_lst pa_nil) (pa_cons (pe_df D.draw h1 (by rfl) (pa_cons (pv 0) (pa_cons pe_int pa_nil))) pa_nil)) (by rfl))
      (pss_cons (ps_for PassesOwn.never rfl (pi_range1 (by rfl) T.range (pa_cons (pv 3) pa_nil)) (pg_name (i := 4) scProduct.nd rfl (Or.inl rfl))
        (pss_one (ps_expr (pe_bm PySem.F.plainAttrs_list PySem.F.slot_list_append PySem.F.type_list_append mt_append (pv 2) (pa_cons (pe_df D.factor h3 (by rfl) (pa_cons (pv 0) (pa_cons (pv 2) (pa_cons (pe_ifExp (pt_cmpR op_lt (pv 3) pe_int (nomark _)) (pe_op op_pow pe_int pe_int) pe_int) pa_nil)))) pa_nil)))))
      (pss_cons (ps_par (i := 5) (j := 6) (by rfl) scProduct.nd rfl rfl (by decide) rfl rfl (pa_cons (pe_poly N.pl.pm h3 (by rfl) (pa_cons (pv 1) pa_nil) tCons1_mono) (pa_cons (pe_df D.due h3 (by rfl) (pa_cons (pv 1) (pa_cons (pv 2) pa_nil))) pa_nil)) (by rfl))
      (pss_cons (ps_for PassesOwn.never rfl (pi_list (pv 2)) (pg_name (i := 7) scProduct.nd rfl (Or.inl rfl))
        (pss_one (ps_set (i := 5) scProduct.nd rfl (Or.inl rfl) (pe_op (op_pmul N h4) (pv 5) (pe_df D.poly h4 (by rfl) (pa_cons (pv 7) pa_nil))))))
      (pss_cons (ps_set (i := 8) scProduct.nd rfl (Or.inl rfl) (pe_df D.runs hr (by rfl) (pa_cons (pv 5) pa_nil)))
      (pss_cons (ps_if (PW.pt (pw_or (pt_cmpR op_ne (pe_callB (call_runs gd h1) (by rfl) T.repr (by decide +kernel) (pa_cons (pv 8) pa_nil)) (pe_callB (call_runs gd h1) (by rfl) T.repr (by decide +kernel) (pa_cons (pv 6) pa_nil)) (nomark _))
          (pw_or1 (pt_not (pt_val (pe_callB call_isi (by rfl) T.isi (by decide +kernel) (pa_cons (pv 8) (pa_cons (pe_bltn (v := .ty "list") (by rfl) T.list (by decide +kernel) rfl) pa_nil)))))))) (pss_one ps_never) pss_nil)
      (pss_cons (ps_expr (pe_bm PySem.F.plainAttrs_list PySem.F.slot_list_append PySem.F.type_list_append mt_append (pv 8) (pa_cons (pe_tup (pa_cons pe_int (pa_cons pe_int pa_nil))) pa_nil)))
      (pss_cons (ps_setLc (i := 9) (own := [("_law_place", 10), ("_law_sign_here", 11)]) (g := gTup K 2 (gCons (gName 10) (gCons (gName 11) gNil))) (tt := tYes) (te := tTup (tCons (tVar 10) (tCons (tUn (rU fun i => .int (-i)) (tVar 11)) tNil))) rfl scProduct.nd rfl rfl (sw_true rfl rfl rfl (by decide +kernel))
        (pi_list (pv 6)) (blkOk_by (own := [("_law_place", 10), ("_law_sign_here", 11)]) (N := nProduct) (sc := defScope sProduct) (by decide +kernel))
        (fun _ _ _ _ _ => pg_tup rfl (pgs_cons (pg_name (i := 10) scProduct.nd rfl (Or.inl rfl)) (pgs_cons (pg_name (i := 11) scProduct.nd rfl (Or.inl rfl)) pgs_nil))) (fun _ _ _ _ _ => pts_nil)
        (fun _ _ _ _ _ => pe_tup (pa_cons (pv 10) (pa_cons (pe_un un_neg (pv 11)) pa_nil))))
      (pss_cons (ps_if (pt_cmpR op_ne (pe_callB (call_twoR gd h1) (by rfl) T.repr (by decide +kernel) (pa_cons (pe_lst (pa_cons (pe_callK1 (E := E0) GK hr (by rfl) k1 k2 k3 pass0 (pk_cons (pv 5) pk_nil)) (pa_cons (pe_df D.runs hr (by rfl) (pa_cons (pe_un (un_pneg N h4) (pv 5)) pa_nil)) pa_nil))) pa_nil))
          (pe_callB (call_twoR gd h1) (by rfl) T.repr (by decide +kernel) (pa_cons (pe_lst (pa_cons (pv 6) (pa_cons (pv 9) pa_nil))) pa_nil)) (nomark _)) (pss_one ps_never) pss_nil)
      (pss_cons (ps_set (i := 12) scProduct.nd rfl (Or.inl rfl) (pe_poly N.pl.pm h3 (by rfl) (pa_cons (pe_df D.draw h1 (by rfl) (pa_cons (pv 0) (pa_cons pe_int pa_nil))) (pa_cons pe_int (pa_cons (pe_df D.draw h1 (by rfl) (pa_cons (pv 0) (pa_cons pe_int pa_nil))) pa_nil))) draws_mono))
      (pss_one (ps_ret (pe_and (pe_cmpR op_eq (pe_callB (call_runs gd h1) (by rfl) T.repr (by decide +kernel) (pa_cons (pe_df D.runs hr (by rfl) (pa_cons (pe_op (op_psub N h4) (pe_op (op_padd N h4) (pv 5) (pv 12)) (pv 12)) pa_nil)) pa_nil)) (pe_callB (call_runs gd h1) (by rfl) T.repr (by decide +kernel) (pa_cons (pv 6) pa_nil)) (nomark _))
        (pe_one (pe_cmpR op_eq (pe_callB (call_runs gd h1) (by rfl) T.repr (by decide +kernel) (pa_cons (pe_df D.runs hr (by rfl) (pa_cons (pv 12) pa_nil)) pa_nil)) pe_str (nomark _)))))))))))))))), ?_⟩
    -- the number
    refine ⟨_, rfl, _, rfl, _, rfl, _, _, rfl, rfl, ⟨by decide, by decide, by decide⟩, _, rfl, _, rfl, _, _, rfl, rfl, ⟨by decide, by decide, by decide⟩, l, _, rfl, hp, by decide, by decide, fun H1 d1 sx1 hp1 d10 d11 => ?_⟩
    have z9 : (10 : Int) ^ (9 : Int).toNat = 1000000000 := by decide
    have z15 : (10 : Int) ^ (15 : Int).toNat = 1000000000000000 := by decide
    rw [z9] at d11
    refine ⟨_, _, rfl, rfl, (by show 7 ≤ sizeLine; decide), fun k1' hk1 => ?_⟩
    have s2 := sNew (o := .lst [V.int 1, .int (-1), .int 0, .int 2, .int (-3), .int ((10 : Int) ^ (15 : Int).toNat), .int (-1 - d1)]) (Same.refl H1) hk1
    refine ⟨l, k1', _, rfl, hp1.same s2, upd_same, hp1.ne hk1, (by show 1 ≤ 7; decide), (by show 7 ≤ 1000; decide), fun H3 vn sx3 hp3 hvn => ?_⟩
    obtain ⟨n, rfl, hn⟩ : ∃ n : Int, vn = .int n ∧ n.natAbs < 2 ^ 50 := by
      simp only [List.mem_cons, List.not_mem_nil, or_false] at hvn
      rcases hvn with rfl | rfl | rfl | rfl | rfl | rfl | rfl
      · exact ⟨_, rfl, by decide⟩
      · exact ⟨_, rfl, by decide⟩
      · exact ⟨_, rfl, by decide⟩
      · exact ⟨_, rfl, by decide⟩
      · exact ⟨_, rfl, by decide⟩
      · exact ⟨_, rfl, by decide⟩
      · exact ⟨_, rfl, Nat.lt_of_lt_of_le (show (-1 - d1).natAbs < 1000000002 by omega) (by decide)⟩
    have sx03 : SameX l H H3 := SameX.trans (SameX.same sx1 s2) sx3
    -- the factors
    refine ⟨Nat.zero_le _, fun Dl hDl => ?_⟩
    have s4 := sNew (o := .lst []) (Same.refl H3) hDl
    refine ⟨_, rfl, l, _, rfl, hp3.same s4, by decide, by decide, fun H5 many sx5 hp5 m0 m1 => ?_⟩
    have nD : Dl ≠ l := hp3.ne hDl
    have hD5 := sx5 _ _ nD (upd_same (H := H3) (a := Dl) (o := .lst []))
    have sx05 : SameX l H H5 := SameX.trans (SameX.same sx03 s4) sx5
    have nDH : H Dl = none := sx03.free nD hDl
    refine ⟨_, _, rfl, ?_⟩
    refine ⟨_, rfl, many, rfl, by omega, by omega, for_it (walk_range (lo := 0) (n := many.toNat)) (fun i σ H' => SameX l H H' ∧ PotAt H' l ∧ ∃ (ws : List V) (fs : List Fac) (v4 : Option V), σ = [some (.ref l), some (.int n), some (.ref Dl), some (.int many), v4, none, none, none, none, none, none, none, none] ∧
      H' Dl = some (.lst ws) ∧ FacsM i H' ws fs ∧ fs.length = i) ⟨sx05, hp5, [], [], none, rfl, hD5, ⟨rfl, fun i v e => by simp at e⟩, rfl⟩ (fun i σ H' _ h => trivial) ?_ ?_⟩
    · rintro i x σ _ H' hi ⟨sx6, hp6, ws, fs, v4, rfl, hD6, hF6, hl6⟩ ⟨rfl, rfl⟩
      have hi5 : i < 6 := by omega
      refine ⟨_, rfl, .inl ⟨rfl, _, SqL.of hD6⟩, ?_⟩
      refine ⟨_, rfl, _, rfl, _, rfl, _, _, rfl, rfl, _, rfl, ?_⟩
      have go : ∀ great : Int, 1 ≤ great → great ≤ 1000000000 → ∀ (Q' : VK), (∀ (H'' : Hp) (v : V) (f : Fac), SameX l H' H'' → PotAt H'' l → FacAt H'' v f → FacOk (i + 1) f → Q' v H'') → spFactor [.ref l, .ref Dl, .int great] H' Q' E0 := fun great g0 g1 Q' k => ⟨l, Dl, great, ws, i, rfl, hp6, hD6, nD, by rw [hF6.1]; omega, hF6.all, g0, g1, k⟩
      by_cases h3 : many < 3
      · rw [decide_eq_true h3]
        refine iteT ⟨_, _, rfl, rfl, ⟨by decide, by decide, by decide⟩, go _ (by decide) (by decide) _ fun H7 v f sx7 hp7 a b => ?_⟩
        have hD7 := sx7 _ _ nD hD6
        refine ⟨Dl, _, _, rfl, rfl, hD7, lt_line (by rw [hF6.1]; omega), ?_⟩
        refine ⟨fun c o hc e => by rw [upd_ne (ne_of_none e nDH)]; exact sx7 c o hc (sx6 c o hc e), hp7.put nD.symm, ws ++ [v], fs ++ [f], _, rfl, upd_same, hF6.put hp6 sx7 hD7 a b, by simp [hl6]⟩
      · rw [decide_eq_false h3]
        refine iteF (go _ (by decide) (by decide) _ fun H7 v f sx7 hp7 a b => ?_)
        have hD7 := sx7 _ _ nD hD6
        refine ⟨Dl, _, _, rfl, rfl, hD7, lt_line (by rw [hF6.1]; omega), ?_⟩
        refine ⟨fun c o hc e => by rw [upd_ne (ne_of_none e nDH)]; exact sx7 c o hc (sx6 c o hc e), hp7.put nD.symm, ws ++ [v], fs ++ [f], _, rfl, upd_same, hF6.put hp6 sx7 hD7 a b, by simp [hl6]⟩
    · rintro σ H6 ⟨sx6, hp6, ws, fs, v4, rfl, hD6, hF6, hl6⟩
      have few : fs.length ≤ 5 := by omega
      have hF := hF6.facs (by omega)
      have hok := hF.all
      clear hF6
      -- the product, the runs that are due
      refine ⟨_, rfl, [n], rfl, (by show 1 ≤ 1000; decide), fun H7 p7 c7 k7 s7 n7 hc7 e7 can7 => ?_⟩
      have w7 : WholeRow n fs 0 c7 := WholeRow.zero hn e7 can7
      refine ⟨_, rfl, _, rfl, n, Dl, ws, fs, rfl, s7 _ _ hD6, hF.same s7, by omega, fun H8 ld M s8 n8 hM isM smM => ?_⟩
      have s78 := Same.trans s7 s8
      have nd : ld ≠ l := (hp6.same s7).ne n8
      refine ⟨_, _, rfl, ?_⟩
      refine ⟨_, rfl, Dl, rfl, ⟨_, SqL.of (s78 _ _ hD6)⟩, for_it (walk_list (K := K) (a := Dl) (xs := ws)) (fun i σ H' => Same H8 H' ∧ ∃ (wp : Addr) (c : List Int) (v7 : Option V), σ = [some (.ref l), some (.int n), some (.ref Dl), some (.int many), v4, some (.ref wp), some (.ref ld), v7, none, none, none, none, none] ∧ PolyAt C H' wp c ∧ WholeRow n fs i c)
        ⟨Same.refl _, p7, c7, none, rfl, hc7.same s8, w7⟩ (fun i σ H' _ h => SqL.of (h.1 _ _ (s78 _ _ hD6))) ?_ ?_⟩
      · rintro i y σ _ H' hi ⟨s9, wp, c, v7, rfl, hc, wr⟩ ⟨rfl, hy⟩
        obtain ⟨g, t, hg, rfl, ht, ok⟩ := hF.get hy
        have hi5 : i < fs.length := (List.getElem?_eq_some_iff.mp hg).1
        refine ⟨_, rfl, _, rfl, t, g, rfl, s9 _ _ (s78 _ _ ht), ok.1.1, fun H9 p9 s10 n10 hp9 => ?_⟩
        have lf := len_facR g
        have lw := wr.len
        refine ⟨wp, p9, c, facR g, rfl, rfl, hc.same s10, hp9, by omega, by omega, ⟨_, 68, wr.bd, fac_bd ok, by omega, by omega⟩, fun H10 p10 c10 k10 s11 n11 hc10 e10 can10 => ?_⟩
        exact ⟨Same.trans s9 (Same.trans s10 s11), p10, c10, _, rfl, hc10, wr.next hg ok (by omega) e10 can10⟩
      · rintro σ H9 ⟨s9, wp, c, v7, rfl, hc, wr⟩
        rw [hF.1] at wr
        have lw := wr.len
        have bw : Bd 450 c := wr.bd.mono (by omega)
        -- told
        refine ⟨_, rfl, wp, c, rfl, hc, wr.can, bw, by omega, fun H10 lt Lt s10 n10 hT isT _ => ?_⟩
        obtain rfl : Lt = M := wr.runs hok isM isT
        have hd9 := hM.same s9
        have s810 := Same.trans s9 s10
        obtain ⟨vt, at1, tt⟩ := id hT
        refine ⟨_, rfl, lt, Lt, rfl, hT, smM, _, rfl, ld, Lt, rfl, hM.same s810, smM, rfl, _, rfl, ?_⟩
        have ed : decide (V.str (runsT Lt) = V.str (runsT Lt)) = true := decide_eq_true rfl
        show if (!decide (V.str (runsT Lt) = V.str (runsT Lt))) = true then _ else _
        rw [ed]
        refine iteF ⟨_, rfl, _, _, _, _, true, rfl, .ty "list", .base (.lst at1), kit_ty (by decide +kernel), true, rfl, ?_⟩
        refine iteF ?_
        -- a pair is put behind
        refine ⟨_, rfl, .inl ⟨rfl, _, SqL.of at1⟩, (by show 2 ≤ sizeLine; decide), fun tp htp => ?_⟩
        refine ⟨lt, _, _, rfl, rfl, old at1 htp, lt_line (by have := tt.len; have := smM.1; omega), ?_⟩
        have s911 : Same H9 (upd (upd H10 tp (.tup [V.int 0, V.int 0])) lt (.lst (vt ++ [V.ref tp]))) := sPut (sNew s10 htp) n10
        generalize upd (upd H10 tp (.tup [V.int 0, V.int 0])) lt (.lst (vt ++ [V.ref tp])) = H11 at s911 ⊢
        have hM11 := hd9.same s911
        obtain ⟨vm, at11, tm⟩ := id hM11
        -- flipped
        refine ⟨_, rfl, ld, rfl, ⟨_, SqL.of at11⟩, fun Df hDf => ?_⟩
        refine lc_it (walk_list (K := K) (a := ld) (xs := vm)) (fun i H' => Same H11 H' ∧ RunsAt H' Df ((flipL Lt).take i)) ⟨sNew (Same.refl H11) hDf, [], upd_same, trivial⟩ (fun i H' _ h => SqL.of (h.1 _ _ at11)) ?_ ?_
        · rintro i x H' _ hi ⟨s12, acc, a1, a2⟩ ⟨rfl, hx⟩
          obtain ⟨p, t, hpi, rfl, ht⟩ := tm.get hx
          refine ⟨t, _, rfl, .inl (.inl (s12 _ _ ht)), rfl, _, _, rfl, _, _, rfl, rfl, rfl, _, rfl, _, rfl, _, rfl, (by show 2 ≤ sizeLine; decide), fun tq htq => ?_⟩
          have al : acc.length ≤ 64 := by
            have z1 := a2.len
            rw [List.length_take] at z1
            unfold flipL at z1
            rw [List.length_map] at z1
            have := smM.1
            omega
          have nq : tq ≠ Df := fun e => by rw [e, a1] at htq; cases htq
          refine ⟨acc, old a1 htq, lt_line (by omega), sPut (sNew s12 htq) hDf, acc ++ [V.ref tq], upd_same, ?_⟩
          have e : (flipL Lt).take (i + 1) = (flipL Lt).take i ++ [(p.1, -p.2)] := by
            unfold flipL
            rw [List.take_add_one, List.getElem?_map, hpi]
            rfl
          rw [e]
          exact Tups.append (tups_but (fun b o hb e => by rw [upd_ne hb]; exact old e htq) a1 a2) (Tups.one (by rw [upd_ne nq, upd_same]))
        · rintro H12 ⟨s12, hfl⟩
          have efl : (flipL Lt).take vm.length = flipL Lt := by
            rw [tm.len]
            exact List.take_of_length_le (by unfold flipL; rw [List.length_map]; exact Nat.le_refl _)
          rw [efl] at hfl
          have s912 := Same.trans s911 s12
          -- the two
          refine ⟨_, rfl, wp, c, rfl, hc.same s912, wr.can, bw, by omega, fun H13 l8 L8 s13 n13 h13 is13 _ => ?_⟩
          obtain rfl : L8 = Lt := wr.runs hok isM is13
          have s913 := Same.trans s912 s13
          refine ⟨_, rfl, wp, c, rfl, hc.same s913, by omega, fun H14 p14 c14 k14 s14 n14 hc14 e14 can14 => ?_⟩
          have b14 : Bd 450 c14 := row_bd e14 bw.opp
          have l14 : c14.length ≤ 11 := by
            have z := congrArg List.length e14
            unfold oppR at z
            rw [List.length_map, List.length_append] at z
            omega
          refine ⟨p14, c14, rfl, hc14, can14, b14, l14, fun H15 l15 L15 s15 n15 h15 is15 _ => ?_⟩
          obtain rfl : L15 = flipL L8 := by
            have z := IsRuns.map (f := fun x => -x) (fun x y h => by omega) isM
            refine IsRuns.uniq (IsRuns.congr (fun d _ => ?_) is15) z
            show sgn (SR.ev c14 d) = -(signAt n fs d)
            rw [row_ev e14, ev_oppR, sgn_opp, wr.ev, List.take_length, sgn_prodE fun f hf => ⟨(hok f hf).1.1, (hok f hf).2.2⟩]
          have s1315 := Same.trans s14 s15
          refine ⟨(by show 2 ≤ sizeLine; decide), fun lz hlz => ?_⟩
          have sz := sNew (o := .lst [V.ref l8, .ref l15]) (Same.refl H15) hlz
          refine ⟨lz, l8, l15, L8, flipL L8, rfl, upd_same, (h13.same s1315).same sz, h15.same sz, smM, smM.flip, ?_⟩
          have s1216 := Same.trans s13 (Same.trans s1315 sz)
          refine ⟨_, rfl, _, rfl, (by show 2 ≤ sizeLine; decide), fun ly hly => ?_⟩
          have sy := sNew (o := .lst [V.ref ld, .ref Df]) s1216 hly
          refine ⟨ly, ld, Df, L8, flipL L8, rfl, upd_same, (hM11.same s12).same sy, hfl.same sy, smM, smM.flip, rfl, _, rfl, ?_⟩
          have ed2 : decide (V.str (twoT L8 (flipL L8)) = V.str (twoT L8 (flipL L8))) = true := decide_eq_true rfl
          show if (!decide (V.str (twoT L8 (flipL L8)) = V.str (twoT L8 (flipL L8)))) = true then _ else _
          rw [ed2]
          refine iteF ?_
          -- something more, and less
          have hpy : PotAt (upd (upd H15 lz (.lst [V.ref l8, .ref l15])) ly (.lst [V.ref ld, .ref Df])) l := hp6.same (Same.trans s78 (Same.trans s9 (Same.trans s912 sy)))
          have hcy := hc.same (Same.trans s912 sy)
          have hMy := (hM11.same s12).same sy
          have sx6y : SameX l H (upd (upd H15 lz (.lst [V.ref l8, .ref l15])) ly (.lst [V.ref ld, .ref Df])) := SameX.same sx6 (Same.trans s78 (Same.trans s9 (Same.trans s912 sy)))
          generalize upd (upd H15 lz (.lst [V.ref l8, .ref l15])) ly (.lst [V.ref ld, .ref Df]) = Hy at hpy hcy hMy sx6y ⊢
          refine ⟨_, rfl, l, _, rfl, hpy, by decide, by decide, fun H16 da sx16 hp16 a0 a1 => ?_⟩
          refine ⟨_, rfl, l, _, rfl, hp16, by decide, by decide, fun H17 db sx17 hp17 b0 b1 => ?_⟩
          have sxy7 := SameX.trans sx16 sx17
          refine ⟨[da, 5, db], rfl, (by show 3 ≤ 1000; decide), fun H18 p18 c18 k18 s18 n18 hc18 e18 can18 => ?_⟩
          have hc8 := (hcy.sameX hpy sxy7).same s18
          have hM8 := (hMy.sameX hpy sxy7 nd).same s18
          have bf : Bd 5 c18 := row_bd e18 fun y hy => by
            simp only [List.mem_cons, List.not_mem_nil, or_false] at hy
            rcases hy with rfl | rfl | rfl
            · exact Nat.lt_of_lt_of_le (show y.natAbs < 9 by omega) (by decide)
            · decide
            · exact Nat.lt_of_lt_of_le (show y.natAbs < 9 by omega) (by decide)
          have l18 : c18.length ≤ 3 := by
            have z := congrArg List.length e18
            rw [List.length_append] at z
            simp only [List.length_cons, List.length_nil] at z
            omega
          refine ⟨_, rfl, _, rfl, wp, p18, c, c18, rfl, rfl, hc8, hc18, by omega, by omega, trivial, fun H19 p19 c19 k19 s19 n19 hc19 e19 can19 => ?_⟩
          have l19 : c19.length ≤ 11 := by
            have z := congrArg List.length e19
            rw [len_addR, List.length_append] at z
            omega
          refine ⟨_, rfl, p19, p18, c19, c18, rfl, rfl, hc19, hc18.same s19, by omega, by omega, trivial, fun H20 p20 c20 k20 s20 n20 hc20 e20 can20 => ?_⟩
          have l20 : c20.length ≤ 11 := by
            have z := congrArg List.length e20
            unfold oppR at z
            rw [len_addR, List.length_append, List.length_map] at z
            omega
          have b19 : Bd 416 c19 := row_bd e19 (Bd.add (n := 415) (m := 5) (by decide) (by decide) (wr.bd.mono (by omega)) bf)
          have b20 : Bd 450 c20 := (row_bd e20 (Bd.add (k := 417) (n := 416) (m := 5) (by decide) (by decide) b19 bf.opp)).mono (by decide)
          have ev20 : ∀ x, SR.ev c20 x = SR.ev c x := fun x => by
            rw [row_ev e20, ev_addR, ev_oppR, row_ev e19, ev_addR]
            omega
          refine ⟨p20, c20, rfl, hc20, can20, b20, l20, fun H21 l21 L21 s21 n21 h21 is21 _ => ?_⟩
          obtain rfl : L21 = L8 := wr.runs hok isM (IsRuns.congr (fun d _ => by show sgn (SR.ev c20 d) = sgn (SR.ev c d); rw [ev20]) is21)
          have s1821 := Same.trans s19 (Same.trans s20 s21)
          refine ⟨l21, L21, rfl, h21, smM, _, rfl, ld, L21, rfl, hM8.same s1821, smM, rfl, _, rfl, ?_⟩
          have ed3 : decide (V.str (runsT L21) = V.str (runsT L21)) = true := decide_eq_true rfl
          rw [ed3]
          refine iteT ?_
          refine ⟨_, rfl, p18, c18, rfl, hc18.same s1821, can18, bf.mono (by decide), by omega, fun H22 l22 L22 s22 n22 h22 is22 _ => ?_⟩
          obtain rfl : L22 = [(1, 1)] := by
            have z : IsRuns (fun d => sgn (SR.ev [da, 5, db] d)) 1 [(1, 1)] := one_pos (fun y hy => by
              simp only [List.mem_cons, List.not_mem_nil, or_false] at hy
              rcases hy with rfl | rfl | rfl <;> omega) ⟨5, by simp, by decide⟩
            exact IsRuns.uniq (IsRuns.congr (fun d _ => by show sgn (SR.ev c18 d) = sgn (SR.ev [da, 5, db] d); rw [row_ev e18]) is22) z
          refine ⟨l22, [(1, 1)], rfl, h22, small_one, rfl, ?_⟩
          have ed4 : decide (V.str (runsT [(1, 1)]) = V.str ("[(1, 1)]" : Str)) = true := decide_eq_true (congrArg V.str runs_one)
          rw [ed4]
          exact q H22 (SameX.same (SameX.same (SameX.trans sx6y sxy7) s18) (Same.trans s1821 s22)) (hp17.same (Same.trans s18 (Same.trans s1821 s22)))
end
end S71

namespace S71
open PySem L2 SR TXM
/-- a def of the module by its name, asked where no repr is under way -/
structure DfG (P : Program) (w : World) (K : PySem.W.Frag) (mg : Str → Option Value) (base : Heap) (x : Str) (ps : List Str) (k : Nat) (sp : Sp) : Prop where
  ex : ∃ f fd, mg x = some (.ref f) ∧ PySem.W.keepIn K (.ref f) = true ∧ Binds K fd ps [] ∧ FnG P w K mg base CX0 k f fd ps sp
theorem pe_dfG {X : Cx} {x : Str} {ps : List Str} {k : Nat} {sp : Sp} {e : Expr} {es : List Expr} {t : TA} {p pos : Pos} (D : DfG X.prog X.w X.K X.mg X.base x ps k sp) (gd : X.A.guards = some []) (hr : Room k X.A) (hg : Gl X x) (ha : PA X (e :: es) t)
    (hdb : (x == ("__debug__" : Str)) = false := by decide) (hst : starEach (e :: es) X.env = (false, eval e X.env) :: starEach es X.env := by rfl) (hpl : (backTo pos (starEach es X.env)).any (·.1) = false := by rfl) :
    PE X (.Call (.Name x p) (e :: es) [] pos) (tCall sp [] E0 t) := by
  obtain ⟨f, fd, m, kp, b, F⟩ := D.ex
  exact pe_callG F gd hr hg m kp b .nil pass0 ha (hdb := hdb) (he := hst) (hpl := hpl)
theorem OddT.sameX {C : Addr} {H H' : Hp} {l : Addr} {v : V} {t : Str} (hl : PotAt H l) (s : SameX l H H') (h : OddT C H v t) : OddT C H' v t := by
  cases h with
  | non => exact .non
  | bl b => exact .bl b
  | str => exact .str
  | int0 => exact .int0
  | nil e => exact .nil (s _ _ (hl.apart e fun _ _ z => nomatch z) e)
  | tup2 e => exact .tup2 (s _ _ (hl.apart e fun _ _ z => nomatch z) e)
  | d0 e => exact .d0 (s _ _ (hl.apart e fun _ _ z => nomatch z) e)
  | onP e hp => exact .onP (s _ _ (hl.apart e fun _ _ z => nomatch z) e) (hp.sameX hl s)
theorem tConst1_mono {a : V} (σ : St) (H : Hp) (Q Q' : List V → Hp → Prop) (h : ∀ y H1, Q y H1 → Q' y H1) (q : tCons (tC a) tNil σ H Q) : tCons (tC a) tNil σ H Q' := h _ _ q
section
variable {P : Program} {w : World} {K : PySem.W.Frag} {mg : Str → Option Value} {base : Heap}
/-! ### _law_right -/
abbrev nRight : List Str := ["_law_rng_here", "_law_turn"]
theorem scRight : FnScope nRight ["_law_rng_here"] (defScope sRight) := ⟨rfl, rfl, rfl, by decide +kernel, rfl, by decide +kernel, by decide +kernel⟩
theorem ok_right {f C : Addr} {fd : FuncData} (F : Fun K "_law_right" "_law_right" sRight f fd) (T : Bn mg) (N : PMk P w K mg base C) (DC : Df P w K mg base "_law_choice" ["_law_rng_here", "_law_some"] 2 spChoice) (DP : DfG P w K mg base "_law_product_right" ["_law_rng_here"] 7 spProduct)
    (DR : DfG P w K mg base "_law_refused" ["_law_value"] 11 (spRefused C)) : FnG P w K mg base CX0 12 f fd ["_law_rng_here"] spProduct := by
  refine F.okG scRight (fun vs H Q E h => ?_) (fun cdv A outer s H vs Q E gd hr h => ?_)
  · obtain ⟨l, rfl, _⟩ := h
    rfl
  · obtain ⟨l, rfl, hp, q⟩ := h
    refine ⟨_, pss_cons (ps_for PassesOwn.never rfl (pi_range1 (by rfl) T.range (pa_cons pe_int pa_nil)) (pg_name (i := 1) scRight.nd rfl (Or.inl rfl)) (pss_one (ps_if (pt_not (pt_val (pe_dfG DP gd (hr.mono (by decide)) (by rfl) (pa_cons (pv 0) pa_nil)))) (pss_one ps_never) pss_nil)))
      (pss_one (ps_ret (pe_dfG DR gd hr (by rfl) (pa_cons (pe_df DC (hr.mono (by decide)) (by rfl) (pa_cons (pv 0) (pa_cons (pe_lst (pa_cons pe_non (pa_cons pe_int (pa_cons pe_bl (pa_cons pe_str (pa_cons (pe_lst pa_nil) (pa_cons (pe_tup (pa_cons pe_int (pa_cons pe_int pa_nil))) (pa_cons pe_dnewK
        (pa_cons (pe_lst (pa_cons (pe_poly N (hr.mono (by decide)) (by rfl) (pa_cons pe_int pa_nil) tConst1_mono) pa_nil)) pa_nil))))))))) pa_nil))) pa_nil)))), ?_⟩
    refine ⟨3, rfl, by decide, by decide, for_it (walk_range (lo := 0) (n := 3)) (fun i σ H' => SameX l H H' ∧ PotAt H' l ∧ ∃ v, σ = [some (.ref l), v]) ⟨SameX.of (Same.refl H), hp, none, rfl⟩ (fun i σ H' _ h => trivial) ?_ ?_⟩
    · rintro i x σ _ H1 hi ⟨s1, p1, v, rfl⟩ ⟨rfl, rfl⟩
      exact ⟨_, rfl, l, rfl, p1, fun H2 s2 p2 => ⟨true, rfl, iteF ⟨SameX.trans s1 s2, p2, _, rfl⟩⟩⟩
    · rintro σ H1 ⟨s1, p1, v, rfl⟩
      refine ⟨_, rfl, Nat.zero_le _, fun a1 n1 => ?_⟩
      have u1 := sNew (o := .lst []) (Same.refl H1) n1
      have e1 : upd H1 a1 (.lst []) a1 = some (.lst []) := upd_same
      generalize upd H1 a1 (.lst []) = G1 at u1 e1 ⊢
      refine ⟨(by show 2 ≤ sizeLine; decide), fun a2 n2 => ?_⟩
      have u2 := sNew (o := .tup [V.int 1, .int 2]) (Same.refl G1) n2
      have e2 : upd G1 a2 (.tup [V.int 1, .int 2]) a2 = some (.tup [V.int 1, .int 2]) := upd_same
      generalize upd G1 a2 (.tup [V.int 1, .int 2]) = G2 at u2 e2 ⊢
      refine fun a3 n3 => ?_
      have u3 := sNew (o := .dK []) (Same.refl G2) n3
      have e3 : upd G2 a3 (.dK []) a3 = some (.dK []) := upd_same
      generalize upd G2 a3 (.dK []) = G3 at u3 e3 ⊢
      refine ⟨[1], rfl, (by show 1 ≤ 1000; decide), fun G4 p c k u4 n4 hc e can => ?_⟩
      rw [canon_eq e (by simp [Canon])] at hc
      refine ⟨(by show 1 ≤ sizeLine; decide), fun a5 n5 => ?_⟩
      have u5 := sNew (o := .lst [V.ref p]) (Same.refl G4) n5
      have e5 : upd G4 a5 (.lst [V.ref p]) a5 = some (.lst [V.ref p]) := upd_same
      generalize upd G4 a5 (.lst [V.ref p]) = G5 at u5 e5 ⊢
      refine ⟨(by show 8 ≤ sizeLine; decide), fun L hL => ?_⟩
      have u6 := sNew (o := .lst [V.non, .int 0, .bl true, .str "d", .ref a1, .ref a2, .ref a3, .ref a5]) (Same.refl G5) hL
      have u46 := Same.trans u5 u6
      have u36 := Same.trans u4 u46
      have u26 := Same.trans u3 u36
      have u16 := Same.trans u2 u26
      have u06 := Same.trans u1 u16
      have p5 := p1.same (Same.trans u1 (Same.trans u2 (Same.trans u3 (Same.trans u4 u5))))
      have p6 := p1.same u06
      refine ⟨l, L, _, rfl, p6, upd_same, p5.ne hL, (by show 1 ≤ 8; decide), (by show 8 ≤ 1000; decide), fun H7 v7 sx7 p7 hv => ?_⟩
      have odd : ∃ t, OddT C (upd G5 L (.lst [V.non, .int 0, .bl true, .str "d", .ref a1, .ref a2, .ref a3, .ref a5])) v7 t := by
        simp only [List.mem_cons, List.not_mem_nil, or_false] at hv
        rcases hv with rfl | rfl | rfl | rfl | rfl | rfl | rfl | rfl
        · exact ⟨_, .non⟩
        · exact ⟨_, .int0⟩
        · exact ⟨_, .bl true⟩
        · exact ⟨_, .str⟩
        · exact ⟨_, .nil (u16 _ _ e1)⟩
        · exact ⟨_, .tup2 (u26 _ _ e2)⟩
        · exact ⟨_, .d0 (u36 _ _ e3)⟩
        · exact ⟨_, .onP (u6 _ _ e5) (hc.same u46)⟩
      obtain ⟨t, od⟩ := odd
      exact ⟨v7, t, rfl, od.sameX p6 sx7, fun H8 s8 => q H8 (SameX.same (SameX.trans (SameX.same s1 u06) sx7) s8) (p7.same s8)⟩
/-! ### law -/
def spLaw (K : PySem.W.Frag) : Sp := fun vs H Q _ => ∃ (a : Addr) (ns : List Int), vs = [.ref a] ∧ SqL K H a (ns.map V.int) ∧ ns.length ≤ 63 ∧ ∀ H', Q (.bl true) H'
abbrev nLaw : List Str := ["_law_script", "_law_k"]
theorem scLaw : FnScope nLaw ["_law_script"] (defScope sLaw) := ⟨rfl, rfl, rfl, by decide +kernel, rfl, by decide +kernel, by decide +kernel⟩
def teLaw (K : PySem.W.Frag) : TE := tCall spProduct [] E0 (tCons (tCall (spRng K) [] E0 (tCons (tVar 0) (tCons (tVar 1) tNil))) tNil)
theorem ok_law {f : Addr} {fd : FuncData} (F : Fun K "law" "law" sLaw f fd) (T : Bn mg) (DP : Df P w K mg base "_law_rng" ["_law_script", "_law_k"] 1 (spRng K)) (DR : DfG P w K mg base "_law_right" ["_law_rng_here"] 12 spProduct) : FnG P w K mg base CX0 13 f fd ["_law_script"] (spLaw K) := by
  refine F.okG scLaw (fun vs H Q E h => ?_) (fun cdv A outer s H vs Q E gd hr h => ?_)
  · obtain ⟨a, ns, rfl, _⟩ := h
    rfl
  · obtain ⟨a, ns, rfl, ha, hlen, q⟩ := h
    have h1 : Room 1 _ := hr.mono (by decide)
    refine ⟨_, pss_one (ps_ret (pe_callB (cr_all rfl) (by rfl) T.all (by decide +kernel) (pa_cons (pe_lc (own := [("_law_k", 1)]) (g := gName 1) (tt := tYes) (te := teLaw K) (by rfl) scLaw.nd
        (pi_range1 (by rfl) T.range (pa_cons (pe_callB (call_max2 rfl) (by rfl) T.max (by decide +kernel) (pa_cons pe_int (pa_cons (pe_callB (call_min2 rfl) (by rfl) T.min (by decide +kernel) (pa_cons (pe_callB call_len_seq (by rfl) T.len PySem.boot_len (pa_cons (pv 0) pa_nil)) (pa_cons pe_int pa_nil))) pa_nil))) pa_nil))
        (blkOk_by (own := [("_law_k", 1)]) (N := nLaw) (sc := defScope sLaw) (by decide +kernel))
        (fun _ _ _ _ _ => pg_name (i := 1) scLaw.nd rfl (Or.inl rfl)) (fun _ _ _ _ _ => pts_nil)
        (fun _ _ _ _ _ => pe_dfG DR gd hr (by rfl) (pa_cons (pe_df DP h1 (by rfl) (pa_cons (pv 0) (pa_cons (pv 1) pa_nil))) pa_nil))) pa_nil))), ?_⟩
    refine ⟨_, rfl, a, _, rfl, .inl ha, _, _, rfl, _, _, rfl, ?_⟩
    obtain ⟨kk, hkk⟩ : ∃ kk : Int, kk = (if (if (4 : Int) < (((ns.map V.int).length : Nat) : Int) then 4 else (((ns.map V.int).length : Nat) : Int)) > 1 then (if (4 : Int) < (((ns.map V.int).length : Nat) : Int) then 4 else (((ns.map V.int).length : Nat) : Int)) else 1) := ⟨_, rfl⟩
    have hk4 : 1 ≤ kk ∧ kk ≤ 4 := by
      rw [hkk]; split <;> split <;> omega
    refine ⟨kk, by rw [hkk], by omega, by omega, fun D hD => ?_⟩
    clear hkk
    refine lc_it (walk_range (lo := 0) (n := kk.toNat)) (fun i H' => Same H H' ∧ H' D = some (.lst ((List.replicate i true).map V.bl))) ⟨sNew (Same.refl H) hD, upd_same⟩ (fun _ _ _ _ => trivial) ?_ ?_
    · rintro i x _ H1 hi ⟨s1, hw⟩ ⟨rfl, rfl⟩
      have e0 : (0 : Int) + (i : Nat) = (i : Nat) := by omega
      refine ⟨rfl, _, rfl, _, rfl, a, ns, i, (by show [V.ref a, V.int ((0 : Int) + (i : Nat))] = [V.ref a, V.int ((i : Nat) : Int)]; rw [e0]), s1.seq ha, by omega, by omega, fun H2 l s2 nl pot => ?_⟩
      refine ⟨l, rfl, pot, fun H3 sx _ => ?_⟩
      have s13 : Same H1 H3 := fun b o e => sx b o (ne_of_none e nl) (s2 _ _ e)
      refine ⟨_, s13 _ _ hw, ?_, sPut (Same.trans s1 s13) hD, ?_⟩
      · have sl : sizeLine = 16777216 := sizeLine_eq
        rw [List.length_map, List.length_replicate]
        omega
      · rw [upd_same, List.replicate_succ', List.map_append]; rfl
    · rintro H1 ⟨s1, hw⟩
      refine ⟨D, _, rfl, SqL.of hw, ?_⟩
      have e : (List.replicate kk.toNat true).all id = true := by simp
      rw [e]
      exact q H1
end
end S71

namespace S71
open PySem L2 SR TXM
open PyProof.Rows
section
variable {P : Program} {w : World} {K : PySem.W.Frag} {mg : Str → Option Value} {base : Heap}
theorem df_of {x : Str} {ps : List Str} {k : Nat} {sp : Sp} {f : Addr} {fd : FuncData} {st : Stmt} (F : Fun K x x st f fd) (hm : mg x = some (.ref f)) (b : Binds K fd ps []) (G : FnOk P w K mg base CX0 k f fd ps sp) : Df P w K mg base x ps k sp := ⟨f, fd, hm, F.kp, b, G⟩
theorem dfG_of {x : Str} {ps : List Str} {k : Nat} {sp : Sp} {f : Addr} {fd : FuncData} {st : Stmt} (F : Fun K x x st f fd) (hm : mg x = some (.ref f)) (b : Binds K fd ps []) (G : FnG P w K mg base CX0 k f fd ps sp) : DfG P w K mg base x ps k sp := ⟨f, fd, hm, F.kp, b, G⟩
theorem raw0 {f : Addr} {fd : FuncData} {ps : List Str} {j k : Nat} {sp : Sp} (G : FnOk P w K mg base CX0 j f fd ps sp) (b : Binds K fd ps []) (h : j ≤ k) : FnR P w K mg base CX0 k f sp := FnR.mono (FnR.imp (FnOk.raw (dvs := []) G b .nil) fun vs H Q E h => by rw [List.append_nil]; exact h) h
theorem kit_rt {C : Addr} {T : String} {b : Bool} (m : PySem.W.kitMeta T = true) (h : PySem.W.subIn K (.ref C) (.type T) = some b) : PySem.W.kitOne K (.ref C) (.type T) = some b := by
  unfold PySem.W.kitOne
  rw [if_neg (by simp)]
  show (if PySem.W.kitMeta T = true then PySem.W.subIn K (.ref C) (.type T) else none) = some b
  rw [if_pos m]
  exact h
theorem kit_tr {C : Addr} {T : String} {b : Bool} (i : PySem.W.isClsIn K C = true) (t : PySem.W.typeIn K (.ref C) = some (.type "type")) (h : PySem.W.subIn K (.type T) (.ref C) = some b) : PySem.W.kitOne K (.type T) (.ref C) = some b := by
  unfold PySem.W.kitOne
  rw [if_neg (by simp)]
  show (if ((PySem.W.clsIn K C).isSome && PySem.W.typeIn K (.ref C) == some (.type "type")) = true then PySem.W.subIn K (.type T) (.ref C) else none) = some b
  rw [if_pos (by rw [t]; show ((PySem.W.clsIn K C).isSome && _) = true; unfold PySem.W.isClsIn at i; rw [i]; simp)]
  exact h
theorem exm_self {C : Addr} (e : PySem.W.subIn K (.ref C) (.type "BaseException") = some true) (i : PySem.W.isClsIn K C = true) (t : PySem.W.typeIn K (.ref C) = some (.type "type")) (h : PySem.W.subIn K (.ref C) (.ref C) = some true) : PySem.W.exmOne K (.ref C) (.ref C) = some true := by
  unfold PySem.W.exmOne
  rw [if_pos (by rw [e]; simp)]
  show (if ((PySem.W.clsIn K C).isSome && PySem.W.typeIn K (.ref C) == some (.type "type")) = true then PySem.W.subIn K (.ref C) (.ref C) else none) = some true
  rw [if_pos (by rw [t]; unfold PySem.W.isClsIn at i; rw [i]; simp)]
  exact h
theorem kit_rr {C S : Addr} (i : PySem.W.isClsIn K S = true) (t : PySem.W.typeIn K (.ref S) = some (.type "type")) (h : PySem.W.subIn K (.ref C) (.ref S) = some true) : PySem.W.kitOne K (.ref C) (.ref S) = some true := by
  by_cases e : C = S
  · rw [e]; exact kit_self
  · unfold PySem.W.kitOne
    rw [if_neg (by simpa using e)]
    show (if ((PySem.W.clsIn K S).isSome && PySem.W.typeIn K (.ref S) == some (.type "type")) = true then PySem.W.subIn K (.ref C) (.ref S) else none) = some true
    rw [if_pos (by rw [t]; show ((PySem.W.clsIn K S).isSome && _) = true; unfold PySem.W.isClsIn at i; rw [i]; simp)]
    exact h

theorem dfX_of {x : Str} {ps : List Str} {k : Nat} {sp : Sp} {f : Addr} {fd : FuncData} {st : Stmt} (F : Fun K x x st f fd) (at_ : mg x = some (.ref f)) (bn : Binds K fd ps []) (G : FnG P w K mg base (L2N.CX P w) k f fd ps sp) : DfX P w K mg base x ps k sp := ⟨f, fd, at_, F.kp, bn, G⟩
end
theorem all_mk {l : PySem.W.OpenLaw} {w : World} {K : PySem.W.Frag} {h : Heap} {mg : Str → Option Value} {fa f0 f1 f2 f3 f4 f5 f6 f7 f8 f9 f10 f11 f12 f13 f14 f15 f16 f17 f18 f19 f20 f21 f22 f23 f24 fm0 fm1 fm2 fm3 fm4 fm5 fm6 fp0 qp0 fin_ C DJ S2 feJ ceJ celJ : Addr} (X : K.In h) (G : h.Ns mainGlobals mg) (hfa : mg "law" = some (.ref fa))
    {od0 an0 : Option Addr} {sl0 : Array (Option Value)} {oc0 kV0 dc0 pm0 cd0 ct0 : Value}
    {od1 an1 : Option Addr} {sl1 : Array (Option Value)} {oc1 kV1 dc1 pm1 cd1 ct1 : Value}
    {od2 an2 : Option Addr} {sl2 : Array (Option Value)} {oc2 kV2 dc2 pm2 cd2 ct2 : Value}
    {od3 an3 : Option Addr} {sl3 : Array (Option Value)} {oc3 kV3 dc3 pm3 cd3 ct3 : Value}
    {od4 an4 : Option Addr} {sl4 : Array (Option Value)} {oc4 kV4 dc4 pm4 cd4 ct4 : Value}
    {od5 an5 : Option Addr} {sl5 : Array (Option Value)} {oc5 kV5 dc5 pm5 cd5 ct5 : Value}
    {od6 an6 : Option Addr} {sl6 : Array (Option Value)} {oc6 kV6 dc6 pm6 cd6 ct6 : Value}
    {od7 an7 : Option Addr} {sl7 : Array (Option Value)} {oc7 kV7 dc7 pm7 cd7 ct7 : Value}
    {od8 an8 : Option Addr} {sl8 : Array (Option Value)} {oc8 kV8 dc8 pm8 cd8 ct8 : Value}
    {od9 an9 : Option Addr} {sl9 : Array (Option Value)} {oc9 kV9 dc9 pm9 cd9 ct9 : Value}
    {od10 an10 : Option Addr} {sl10 : Array (Option Value)} {oc10 kV10 dc10 pm10 cd10 ct10 : Value}
    {od11 an11 : Option Addr} {sl11 : Array (Option Value)} {oc11 kV11 dc11 pm11 cd11 ct11 : Value}
    {od12 an12 : Option Addr} {sl12 : Array (Option Value)} {oc12 kV12 dc12 pm12 cd12 ct12 : Value}
    {od13 an13 : Option Addr} {sl13 : Array (Option Value)} {oc13 kV13 dc13 pm13 cd13 ct13 : Value}
    {od14 an14 : Option Addr} {sl14 : Array (Option Value)} {oc14 kV14 dc14 pm14 cd14 ct14 : Value}
    {od15 an15 : Option Addr} {sl15 : Array (Option Value)} {oc15 kV15 dc15 pm15 cd15 ct15 : Value}
    {od16 an16 : Option Addr} {sl16 : Array (Option Value)} {oc16 kV16 dc16 pm16 cd16 ct16 : Value}
    {od17 an17 : Option Addr} {sl17 : Array (Option Value)} {oc17 kV17 dc17 pm17 cd17 ct17 : Value}
    {od18 an18 : Option Addr} {sl18 : Array (Option Value)} {oc18 kV18 dc18 pm18 cd18 ct18 : Value}
    {od19 an19 : Option Addr} {sl19 : Array (Option Value)} {oc19 kV19 dc19 pm19 cd19 ct19 : Value}
    {od20 an20 : Option Addr} {sl20 : Array (Option Value)} {oc20 kV20 dc20 pm20 cd20 ct20 : Value}
    {od21 an21 : Option Addr} {sl21 : Array (Option Value)} {oc21 kV21 dc21 pm21 cd21 ct21 : Value}
    {od22 an22 : Option Addr} {sl22 : Array (Option Value)} {oc22 kV22 dc22 pm22 cd22 ct22 : Value}
    {od23 an23 : Option Addr} {sl23 : Array (Option Value)} {oc23 kV23 dc23 pm23 cd23 ct23 : Value}
    {od24 an24 : Option Addr} {sl24 : Array (Option Value)} {oc24 kV24 dc24 pm24 cd24 ct24 : Value}
    {odm0 anm0 : Option Addr} {slm0 : Array (Option Value)} {ocm0 kVm0 dcm0 pmm0 cdm0 ctm0 : Value}
    {odm1 anm1 : Option Addr} {slm1 : Array (Option Value)} {ocm1 kVm1 dcm1 pmm1 cdm1 ctm1 : Value}
    {odm2 anm2 : Option Addr} {slm2 : Array (Option Value)} {ocm2 kVm2 dcm2 pmm2 cdm2 ctm2 : Value}
    {odm3 anm3 : Option Addr} {slm3 : Array (Option Value)} {ocm3 kVm3 dcm3 pmm3 cdm3 ctm3 : Value}
    {odm4 anm4 : Option Addr} {slm4 : Array (Option Value)} {ocm4 kVm4 dcm4 pmm4 cdm4 ctm4 : Value}
    {odm5 anm5 : Option Addr} {slm5 : Array (Option Value)} {ocm5 kVm5 dcm5 pmm5 cdm5 ctm5 : Value}
    {odm6 anm6 : Option Addr} {slm6 : Array (Option Value)} {ocm6 kVm6 dcm6 pmm6 cdm6 ctm6 : Value}
    {rp0 : List Value}
    {odp0 anp0 : Option Addr} {slp0 : Array (Option Value)} {ocp0 kVp0 dcp0 pmp0 cdp0 ctp0 : Value}
    {odin_ anin_ : Option Addr} {slin_ : Array (Option Value)} {ocin_ kVin_ dcin_ pmin_ cdin_ ctin_ : Value}
    {znm zq : _} {zN : _} {zbs : _} {zsn : _} {zsub : _} {zab : _} {zcol : _} {zdd : _} {z0 z1 z2 z3 z5 : _}
    {odEJ anEJ : Option Addr} {slEJ : Array (Option Value)} {ocEJ kVEJ dcEJ pmEJ ctEJ : Value}
    {celdJ : Option Addr} {celsJ : Array (Option Value)}
    {ck1J : Value} {ck2J : Option Addr} {vsJ : Array Value} {ck3J : Array (Option Value)} {fileJ : Str} {tfJ : Tok}
    (a0 : PySem.W.nsIn K mainGlobals "is_integer" = some (some (.ref f0)))
    (l0 : K.lookup f0 = some ⟨oc0, od0, .func (PySem.W.fnOf "is_integer" "is_integer" (defArgs sIsInt) (defBody sIsInt) (defScope sIsInt) .none kV0 dc0 pm0 an0 cd0 ct0), sl0⟩)
    (c0 : PySem.W.codeIn K cd0 "is_integer" = true)
    (k0 : PySem.W.keepIn K (.ref f0) = true)
    (a1 : PySem.W.nsIn K mainGlobals "added_rows" = some (some (.ref f1)))
    (l1 : K.lookup f1 = some ⟨oc1, od1, .func (PySem.W.fnOf "added_rows" "added_rows" (defArgs sAdded) (defBody sAdded) (defScope sAdded) .none kV1 dc1 pm1 an1 cd1 ct1), sl1⟩)
    (c1 : PySem.W.codeIn K cd1 "added_rows" = true)
    (k1 : PySem.W.keepIn K (.ref f1) = true)
    (a2 : PySem.W.nsIn K mainGlobals "multiplied_rows" = some (some (.ref f2)))
    (l2 : K.lookup f2 = some ⟨oc2, od2, .func (PySem.W.fnOf "multiplied_rows" "multiplied_rows" (defArgs sMult) (defBody sMult) (defScope sMult) .none kV2 dc2 pm2 an2 cd2 ct2), sl2⟩)
    (c2 : PySem.W.codeIn K cd2 "multiplied_rows" = true)
    (k2 : PySem.W.keepIn K (.ref f2) = true)
    (a3 : PySem.W.nsIn K mainGlobals "opposite_row" = some (some (.ref f3)))
    (l3 : K.lookup f3 = some ⟨oc3, od3, .func (PySem.W.fnOf "opposite_row" "opposite_row" (defArgs sOpp) (defBody sOpp) (defScope sOpp) .none kV3 dc3 pm3 an3 cd3 ct3), sl3⟩)
    (c3 : PySem.W.codeIn K cd3 "opposite_row" = true)
    (k3 : PySem.W.keepIn K (.ref f3) = true)
    (a4 : PySem.W.nsIn K mainGlobals "row_of" = some (some (.ref f4)))
    (l4 : K.lookup f4 = some ⟨oc4, od4, .func (PySem.W.fnOf "row_of" "row_of" (defArgs sRowOf) (defBody sRowOf) (defScope sRowOf) .none kV4 dc4 pm4 an4 cd4 ct4), sl4⟩)
    (c4 : PySem.W.codeIn K cd4 "row_of" = true)
    (k4 : PySem.W.keepIn K (.ref f4) = true)
    (a5 : PySem.W.nsIn K mainGlobals "sign_at" = some (some (.ref f5)))
    (l5 : K.lookup f5 = some ⟨oc5, od5, .func (PySem.W.fnOf "sign_at" "sign_at" (defArgs sSignAt) (defBody sSignAt) (defScope sSignAt) .none kV5 dc5 pm5 an5 cd5 ct5), sl5⟩)
    (c5 : PySem.W.codeIn K cd5 "sign_at" = true)
    (k5 : PySem.W.keepIn K (.ref f5) = true)
    (a6 : PySem.W.nsIn K mainGlobals "step_of" = some (some (.ref f6)))
    (l6 : K.lookup f6 = some ⟨oc6, od6, .func (PySem.W.fnOf "step_of" "step_of" (defArgs sStepOf) (defBody sStepOf) (defScope sStepOf) .none kV6 dc6 pm6 an6 cd6 ct6), sl6⟩)
    (c6 : PySem.W.codeIn K cd6 "step_of" = true)
    (k6 : PySem.W.keepIn K (.ref f6) = true)
    (a7 : PySem.W.nsIn K mainGlobals "first_other" = some (some (.ref f7)))
    (l7 : K.lookup f7 = some ⟨oc7, od7, .func (PySem.W.fnOf "first_other" "first_other" (defArgs sFirst) (defBody sFirst) (defScope sFirst) .none kV7 dc7 pm7 an7 cd7 ct7), sl7⟩)
    (c7 : PySem.W.codeIn K cd7 "first_other" = true)
    (k7 : PySem.W.keepIn K (.ref f7) = true)
    (a8 : PySem.W.nsIn K mainGlobals "runs_in" = some (some (.ref f8)))
    (l8 : K.lookup f8 = some ⟨oc8, od8, .func (PySem.W.fnOf "runs_in" "runs_in" (defArgs sRunsIn) (defBody sRunsIn) (defScope sRunsIn) .none kV8 dc8 pm8 an8 cd8 ct8), sl8⟩)
    (c8 : PySem.W.codeIn K cd8 "runs_in" = true)
    (k8 : PySem.W.keepIn K (.ref f8) = true)
    (a9 : PySem.W.nsIn K mainGlobals "joined_runs" = some (some (.ref f9)))
    (l9 : K.lookup f9 = some ⟨oc9, od9, .func (PySem.W.fnOf "joined_runs" "joined_runs" (defArgs sJoined) (defBody sJoined) (defScope sJoined) .none kV9 dc9 pm9 an9 cd9 ct9), sl9⟩)
    (c9 : PySem.W.codeIn K cd9 "joined_runs" = true)
    (k9 : PySem.W.keepIn K (.ref f9) = true)
    (a10 : PySem.W.nsIn K mainGlobals "one_sign" = some (some (.ref f10)))
    (l10 : K.lookup f10 = some ⟨oc10, od10, .func (PySem.W.fnOf "one_sign" "one_sign" (defArgs sOneSign) (defBody sOneSign) (defScope sOneSign) .none kV10 dc10 pm10 an10 cd10 ct10), sl10⟩)
    (c10 : PySem.W.codeIn K cd10 "one_sign" = true)
    (k10 : PySem.W.keepIn K (.ref f10) = true)
    (a11 : PySem.W.nsIn K mainGlobals "sign_runs" = some (some (.ref f11)))
    (l11 : K.lookup f11 = some ⟨oc11, od11, .func (PySem.W.fnOf "sign_runs" "sign_runs" (defArgs sSignRuns) (defBody sSignRuns) (defScope sSignRuns) .none kV11 dc11 pm11 an11 cd11 ct11), sl11⟩)
    (c11 : PySem.W.codeIn K cd11 "sign_runs" = true)
    (k11 : PySem.W.keepIn K (.ref f11) = true)
    (a12 : PySem.W.nsIn K mainGlobals "_law_rng" = some (some (.ref f12)))
    (l12 : K.lookup f12 = some ⟨oc12, od12, .func (PySem.W.fnOf "_law_rng" "_law_rng" (defArgs sRng) (defBody sRng) (defScope sRng) .none kV12 dc12 pm12 an12 cd12 ct12), sl12⟩)
    (c12 : PySem.W.codeIn K cd12 "_law_rng" = true)
    (k12 : PySem.W.keepIn K (.ref f12) = true)
    (a13 : PySem.W.nsIn K mainGlobals "_law_draw" = some (some (.ref f13)))
    (l13 : K.lookup f13 = some ⟨oc13, od13, .func (PySem.W.fnOf "_law_draw" "_law_draw" (defArgs sDraw) (defBody sDraw) (defScope sDraw) .none kV13 dc13 pm13 an13 cd13 ct13), sl13⟩)
    (c13 : PySem.W.codeIn K cd13 "_law_draw" = true)
    (k13 : PySem.W.keepIn K (.ref f13) = true)
    (a14 : PySem.W.nsIn K mainGlobals "_law_choice" = some (some (.ref f14)))
    (l14 : K.lookup f14 = some ⟨oc14, od14, .func (PySem.W.fnOf "_law_choice" "_law_choice" (defArgs sChoice) (defBody sChoice) (defScope sChoice) .none kV14 dc14 pm14 an14 cd14 ct14), sl14⟩)
    (c14 : PySem.W.codeIn K cd14 "_law_choice" = true)
    (k14 : PySem.W.keepIn K (.ref f14) = true)
    (a15 : PySem.W.nsIn K mainGlobals "_law_sign" = some (some (.ref f15)))
    (l15 : K.lookup f15 = some ⟨oc15, od15, .func (PySem.W.fnOf "_law_sign" "_law_sign" (defArgs sLSign) (defBody sLSign) (defScope sLSign) .none kV15 dc15 pm15 an15 cd15 ct15), sl15⟩)
    (c15 : PySem.W.codeIn K cd15 "_law_sign" = true)
    (k15 : PySem.W.keepIn K (.ref f15) = true)
    (a16 : PySem.W.nsIn K mainGlobals "_law_factor" = some (some (.ref f16)))
    (l16 : K.lookup f16 = some ⟨oc16, od16, .func (PySem.W.fnOf "_law_factor" "_law_factor" (defArgs sFactor) (defBody sFactor) (defScope sFactor) .none kV16 dc16 pm16 an16 cd16 ct16), sl16⟩)
    (c16 : PySem.W.codeIn K cd16 "_law_factor" = true)
    (k16 : PySem.W.keepIn K (.ref f16) = true)
    (a17 : PySem.W.nsIn K mainGlobals "_law_polynomial" = some (some (.ref f17)))
    (l17 : K.lookup f17 = some ⟨oc17, od17, .func (PySem.W.fnOf "_law_polynomial" "_law_polynomial" (defArgs sPoly) (defBody sPoly) (defScope sPoly) .none kV17 dc17 pm17 an17 cd17 ct17), sl17⟩)
    (c17 : PySem.W.codeIn K cd17 "_law_polynomial" = true)
    (k17 : PySem.W.keepIn K (.ref f17) = true)
    (a18 : PySem.W.nsIn K mainGlobals "_law_sign_at" = some (some (.ref f18)))
    (l18 : K.lookup f18 = some ⟨oc18, od18, .func (PySem.W.fnOf "_law_sign_at" "_law_sign_at" (defArgs sLSignAt) (defBody sLSignAt) (defScope sLSignAt) .none kV18 dc18 pm18 an18 cd18 ct18), sl18⟩)
    (c18 : PySem.W.codeIn K cd18 "_law_sign_at" = true)
    (k18 : PySem.W.keepIn K (.ref f18) = true)
    (a19 : PySem.W.nsIn K mainGlobals "_law_places" = some (some (.ref f19)))
    (l19 : K.lookup f19 = some ⟨oc19, od19, .func (PySem.W.fnOf "_law_places" "_law_places" (defArgs sPlaces) (defBody sPlaces) (defScope sPlaces) .none kV19 dc19 pm19 an19 cd19 ct19), sl19⟩)
    (c19 : PySem.W.codeIn K cd19 "_law_places" = true)
    (k19 : PySem.W.keepIn K (.ref f19) = true)
    (a20 : PySem.W.nsIn K mainGlobals "_law_due" = some (some (.ref f20)))
    (l20 : K.lookup f20 = some ⟨oc20, od20, .func (PySem.W.fnOf "_law_due" "_law_due" (defArgs sDue) (defBody sDue) (defScope sDue) .none kV20 dc20 pm20 an20 cd20 ct20), sl20⟩)
    (c20 : PySem.W.codeIn K cd20 "_law_due" = true)
    (k20 : PySem.W.keepIn K (.ref f20) = true)
    (a21 : PySem.W.nsIn K mainGlobals "_law_refused" = some (some (.ref f21)))
    (l21 : K.lookup f21 = some ⟨oc21, od21, .func (PySem.W.fnOf "_law_refused" "_law_refused" (defArgs sRefused) (defBody sRefused) (defScope sRefused) .none kV21 dc21 pm21 an21 cd21 ct21), sl21⟩)
    (c21 : PySem.W.codeIn K cd21 "_law_refused" = true)
    (k21 : PySem.W.keepIn K (.ref f21) = true)
    (a22 : PySem.W.nsIn K mainGlobals "_law_product_right" = some (some (.ref f22)))
    (l22 : K.lookup f22 = some ⟨oc22, od22, .func (PySem.W.fnOf "_law_product_right" "_law_product_right" (defArgs sProduct) (defBody sProduct) (defScope sProduct) .none kV22 dc22 pm22 an22 cd22 ct22), sl22⟩)
    (c22 : PySem.W.codeIn K cd22 "_law_product_right" = true)
    (k22 : PySem.W.keepIn K (.ref f22) = true)
    (a23 : PySem.W.nsIn K mainGlobals "_law_right" = some (some (.ref f23)))
    (l23 : K.lookup f23 = some ⟨oc23, od23, .func (PySem.W.fnOf "_law_right" "_law_right" (defArgs sRight) (defBody sRight) (defScope sRight) .none kV23 dc23 pm23 an23 cd23 ct23), sl23⟩)
    (c23 : PySem.W.codeIn K cd23 "_law_right" = true)
    (k23 : PySem.W.keepIn K (.ref f23) = true)
    (a24 : PySem.W.nsIn K mainGlobals "law" = some (some (.ref f24)))
    (l24 : K.lookup f24 = some ⟨oc24, od24, .func (PySem.W.fnOf "law" "law" (defArgs sLaw) (defBody sLaw) (defScope sLaw) .none kV24 dc24 pm24 an24 cd24 ct24), sl24⟩)
    (c24 : PySem.W.codeIn K cd24 "law" = true)
    (k24 : PySem.W.keepIn K (.ref f24) = true)
    (aC : PySem.W.nsIn K mainGlobals "Polynomial" = some (some (.ref C)))
    (am0 : PySem.W.findIn K (.ref C) "coefficients" = some (some (.ref fm0)))
    (im0 : PySem.W.isFn K (.ref fm0) = true)
    (lm0 : K.lookup fm0 = some ⟨ocm0, odm0, .func (PySem.W.fnOf "coefficients" "Polynomial.coefficients" (defArgs sPCoef) (defBody sPCoef) (defScope sPCoef) .none kVm0 dcm0 pmm0 anm0 cdm0 ctm0), slm0⟩)
    (cm0 : PySem.W.codeIn K cdm0 "Polynomial.coefficients" = true)
    (km0 : PySem.W.keepIn K (.ref fm0) = true)
    (am1 : PySem.W.findIn K (.ref C) "at" = some (some (.ref fm1)))
    (im1 : PySem.W.isFn K (.ref fm1) = true)
    (lm1 : K.lookup fm1 = some ⟨ocm1, odm1, .func (PySem.W.fnOf "at" "Polynomial.at" (defArgs sPAt) (defBody sPAt) (defScope sPAt) .none kVm1 dcm1 pmm1 anm1 cdm1 ctm1), slm1⟩)
    (cm1 : PySem.W.codeIn K cdm1 "Polynomial.at" = true)
    (km1 : PySem.W.keepIn K (.ref fm1) = true)
    (am2 : PySem.W.findIn K (.ref C) "__add__" = some (some (.ref fm2)))
    (im2 : PySem.W.isFn K (.ref fm2) = true)
    (lm2 : K.lookup fm2 = some ⟨ocm2, odm2, .func (PySem.W.fnOf "__add__" "Polynomial.__add__" (defArgs sPAdd) (defBody sPAdd) (defScope sPAdd) .none kVm2 dcm2 pmm2 anm2 cdm2 ctm2), slm2⟩)
    (cm2 : PySem.W.codeIn K cdm2 "Polynomial.__add__" = true)
    (km2 : PySem.W.keepIn K (.ref fm2) = true)
    (am3 : PySem.W.findIn K (.ref C) "__sub__" = some (some (.ref fm3)))
    (im3 : PySem.W.isFn K (.ref fm3) = true)
    (lm3 : K.lookup fm3 = some ⟨ocm3, odm3, .func (PySem.W.fnOf "__sub__" "Polynomial.__sub__" (defArgs sPSub) (defBody sPSub) (defScope sPSub) .none kVm3 dcm3 pmm3 anm3 cdm3 ctm3), slm3⟩)
    (cm3 : PySem.W.codeIn K cdm3 "Polynomial.__sub__" = true)
    (km3 : PySem.W.keepIn K (.ref fm3) = true)
    (am4 : PySem.W.findIn K (.ref C) "__mul__" = some (some (.ref fm4)))
    (im4 : PySem.W.isFn K (.ref fm4) = true)
    (lm4 : K.lookup fm4 = some ⟨ocm4, odm4, .func (PySem.W.fnOf "__mul__" "Polynomial.__mul__" (defArgs sPMul) (defBody sPMul) (defScope sPMul) .none kVm4 dcm4 pmm4 anm4 cdm4 ctm4), slm4⟩)
    (cm4 : PySem.W.codeIn K cdm4 "Polynomial.__mul__" = true)
    (km4 : PySem.W.keepIn K (.ref fm4) = true)
    (am5 : PySem.W.findIn K (.ref C) "__neg__" = some (some (.ref fm5)))
    (im5 : PySem.W.isFn K (.ref fm5) = true)
    (lm5 : K.lookup fm5 = some ⟨ocm5, odm5, .func (PySem.W.fnOf "__neg__" "Polynomial.__neg__" (defArgs sPNeg) (defBody sPNeg) (defScope sPNeg) .none kVm5 dcm5 pmm5 anm5 cdm5 ctm5), slm5⟩)
    (cm5 : PySem.W.codeIn K cdm5 "Polynomial.__neg__" = true)
    (km5 : PySem.W.keepIn K (.ref fm5) = true)
    (am6 : PySem.W.findIn K (.ref C) "__repr__" = some (some (.ref fm6)))
    (im6 : PySem.W.isFn K (.ref fm6) = true)
    (lm6 : K.lookup fm6 = some ⟨ocm6, odm6, .func (PySem.W.fnOf "__repr__" "Polynomial.__repr__" (defArgs sPRepr) (defBody sPRepr) (defScope sPRepr) .none kVm6 dcm6 pmm6 anm6 cdm6 ctm6), slm6⟩)
    (cm6 : PySem.W.codeIn K cdm6 "Polynomial.__repr__" = true)
    (km6 : PySem.W.keepIn K (.ref fm6) = true)
    (ap0 : PySem.W.findIn K (.ref C) "degree" = some (some (.ref qp0)))
    (gp0 : PySem.W.specialIn K (.ref qp0) "__get__" = some (some (.builtin "property.__get__")))
    (tp0 : PySem.W.takesIn K (.ref qp0) = some true)
    (r_p0 : PySem.W.recIn K qp0 "property" = some (.ref fp0 :: rp0))
    (lp0 : K.lookup fp0 = some ⟨ocp0, odp0, .func (PySem.W.fnOf "degree" "Polynomial.degree" (defArgs sPDeg) (defBody sPDeg) (defScope sPDeg) .none kVp0 dcp0 pmp0 anp0 cdp0 ctp0), slp0⟩)
    (cp0 : PySem.W.codeIn K cdp0 "Polynomial.degree" = true)
    (kp0 : PySem.W.keepIn K (.ref fp0) = true)
    (ain : PySem.W.findIn K (.ref C) "__init__" = some (some (.ref fin_)))
    (iin : PySem.W.isFn K (.ref fin_) = true)
    (lin_ : K.lookup fin_ = some ⟨ocin_, odin_, .func (PySem.W.fnOf "__init__" "Polynomial.__init__" (defArgs sPInit) (defBody sPInit) (defScope sPInit) .none kVin_ dcin_ pmin_ anin_ cdin_ ctin_), slin_⟩)
    (cin_ : PySem.W.codeIn K cdin_ "Polynomial.__init__" = true)
    (kin_ : PySem.W.keepIn K (.ref fin_) = true)
    (pg : PySem.W.plainGet K C Str.empty = true)
    (hd : PySem.W.hasDictIn K C = true)
    (po : PySem.W.plainOver K C = true)
    (sa : PySem.W.findIn K (.ref C) "__setattr__" = some (some (.builtin "object.__setattr__")))
    (mk : PySem.W.makesIn K C = true)
    (kc : PySem.W.keepIn K (.ref C) = true)
    (nR : PySem.W.findIn K (.ref C) "own_row" = some none)
    (ic : PySem.W.findIn K (.ref C) "__class__" = some (some (.builtin "object.__class__")))
    (gt : PySem.W.specialIn K (.builtin "object.__class__") "__get__" = some (some (.builtin "getset_descriptor.__get__")))
    (tk : PySem.W.takesIn K (.builtin "object.__class__") = some true)
    (mo : PySem.W.mroIn K C (.type "object") = some true)
    (sf : PySem.W.selfFirst K C = true)
    (jc : PySem.W.isClsIn K C = true)
    (tc : PySem.W.typeIn K (.ref C) = some (.type "type"))
    (suint : PySem.W.subIn K (.type "int") (.ref C) = some false)
    (sustr : PySem.W.subIn K (.type "str") (.ref C) = some false)
    (suNoneType : PySem.W.subIn K (.type "NoneType") (.ref C) = some false)
    (subool : PySem.W.subIn K (.type "bool") (.ref C) = some false)
    (sulist : PySem.W.subIn K (.type "list") (.ref C) = some false)
    (sutuple : PySem.W.subIn K (.type "tuple") (.ref C) = some false)
    (sudict : PySem.W.subIn K (.type "dict") (.ref C) = some false)
    (aJ : PySem.W.nsIn K mainGlobals "InvalidPolynomial" = some (some (.ref DJ)))
    (xJ : K.lookup DJ = some (excClassObj znm zq DJ zN zbs [.ref S2, .type "ValueError", .type "Exception", .type "BaseException", .type "object"] true zsn zsub zab zcol zdd z0 z1 z2 z3 z5 "ValueError.__new__"))
    (saJ : PySem.W.findIn K (.ref DJ) "__setattr__" = some (some (.builtin "object.__setattr__")))
    (eJ : PySem.W.subIn K (.ref DJ) (.type "BaseException") = some true)
    (tJ : PySem.W.typeIn K (.ref DJ) = some (.type "type"))
    (kJ : PySem.W.keepIn K (.ref DJ) = true)
    (jJ : PySem.W.isClsIn K DJ = true)
    (ssJ : PySem.W.subIn K (.ref DJ) (.ref DJ) = some true)
    (svJ : PySem.W.subIn K (.ref DJ) (.type "ValueError") = some true)
    (adJ : PySem.W.findIn K (.ref DJ) "__init__" = some (some (.ref feJ)))
    (tdJ : PySem.W.typeIn K (.ref feJ) = some (.type "function"))
    (ldJ : K.lookup feJ = some ⟨ocEJ, odEJ, .func (fnC "__init__" "InvalidPolynomial.__init__" (defArgs sIPInit) (defBody sIPInit) (defScope sIPInit) .none kVEJ dcEJ pmEJ anEJ (.ref ceJ) ctEJ celJ), slEJ⟩)
    (cdEJ : PySem.W.codeIn K (.ref ceJ) "InvalidPolynomial.__init__" = true)
    (lcelJ : K.lookup celJ = some ⟨.type "cell", celdJ, .cell (some (.ref DJ)), celsJ⟩)
    (lceJ : K.lookup ceJ = some ⟨ck1J, ck2J, .fields vsJ, ck3J⟩)
    (hvsJ : vsJ[2]? = some (.str fileJ tfJ))
    (hfileJ : ((l.prog.main.file : Str) == fileJ) = true)
    (supJ : PySem.W.ks_superIn K DJ DJ "__init__" = some (some (.builtin "ValueError.__init__")))
    (noJ : PySem.W.findIn K (.ref DJ) "value" = some none)
    (gaJ : PySem.W.findIn K (.ref DJ) "__getattribute__" = some (some (.builtin "BaseException.__getattribute__")))
    (ggJ : PySem.W.findIn K (.ref DJ) "__getattr__" = some none)
    (hdEJ : PySem.W.hasDictIn K DJ = true)
    (htop : (l.prog.main.scope.names.lookup ("super" : Str)).isSome = false)
    (z_super : PySem.W.nsIn K mainGlobals "super" = some none)
    (opn : PySem.W.nsIn K cStatics "thirdparty.any" = some none)
    (z_isinstance : PySem.W.nsIn K mainGlobals "isinstance" = some none)
    (z_int : PySem.W.nsIn K mainGlobals "int" = some none)
    (z_bool : PySem.W.nsIn K mainGlobals "bool" = some none)
    (z_len : PySem.W.nsIn K mainGlobals "len" = some none)
    (z_list : PySem.W.nsIn K mainGlobals "list" = some none)
    (z_max : PySem.W.nsIn K mainGlobals "max" = some none)
    (z_min : PySem.W.nsIn K mainGlobals "min" = some none)
    (z_sum : PySem.W.nsIn K mainGlobals "sum" = some none)
    (z_zip : PySem.W.nsIn K mainGlobals "zip" = some none)
    (z_range : PySem.W.nsIn K mainGlobals "range" = some none)
    (z_tuple : PySem.W.nsIn K mainGlobals "tuple" = some none)
    (z_enumerate : PySem.W.nsIn K mainGlobals "enumerate" = some none)
    (z_any : PySem.W.nsIn K mainGlobals "any" = some none)
    (z_all : PySem.W.nsIn K mainGlobals "all" = some none)
    (z_abs : PySem.W.nsIn K mainGlobals "abs" = some none)
    (z_divmod : PySem.W.nsIn K mainGlobals "divmod" = some none)
    (z_str : PySem.W.nsIn K mainGlobals "str" = some none)
    (z_repr : PySem.W.nsIn K mainGlobals "repr" = some none)
    (z_set : PySem.W.nsIn K mainGlobals "set" = some none)
    (z_sorted : PySem.W.nsIn K mainGlobals "sorted" = some none)
    : ∃ fd : FuncData, (∀ (s : Shared) (v : Value), BindsTo s fd ⟨[v], []⟩ [("_law_script", v)]) ∧ ∀ base : Heap, K.In base → base.Ns mainGlobals mg → FnG l.prog w K mg base CX0 13 fa fd ["_law_script"] (spLaw K) := by
  have e := hfa.symm.trans (PySem.W.mg_of X G a24)
  cases e
  have T : Bn mg := ⟨PySem.W.mg_none_of X G z_isinstance, PySem.W.mg_none_of X G z_int, PySem.W.mg_none_of X G z_bool, PySem.W.mg_none_of X G z_len, PySem.W.mg_none_of X G z_list, PySem.W.mg_none_of X G z_max, PySem.W.mg_none_of X G z_min, PySem.W.mg_none_of X G z_sum, PySem.W.mg_none_of X G z_zip, PySem.W.mg_none_of X G z_range, PySem.W.mg_none_of X G z_tuple, PySem.W.mg_none_of X G z_enumerate, PySem.W.mg_none_of X G z_any, PySem.W.mg_none_of X G z_all, PySem.W.mg_none_of X G z_abs, PySem.W.mg_none_of X G z_divmod, PySem.W.mg_none_of X G z_str, PySem.W.mg_none_of X G z_repr, PySem.W.mg_none_of X G z_set, PySem.W.mg_none_of X G z_sorted⟩
  have F0 := fun_mk (x := "is_integer") (qual := "is_integer") (st := sIsInt) l0 c0 k0
  have b0 := F0.binds (ps := ["value"]) fun _ _ _ _ _ _ us hl => match us, hl with | [_], _ => rfl
  have g0 := PySem.W.mg_of X G a0
  have F1 := fun_mk (x := "added_rows") (qual := "added_rows") (st := sAdded) l1 c1 k1
  have b1 := F1.binds (ps := ["one", "other"]) fun _ _ _ _ _ _ us hl => match us, hl with | [_, _], _ => rfl
  have g1 := PySem.W.mg_of X G a1
  have F2 := fun_mk (x := "multiplied_rows") (qual := "multiplied_rows") (st := sMult) l2 c2 k2
  have b2 := F2.binds (ps := ["one", "other"]) fun _ _ _ _ _ _ us hl => match us, hl with | [_, _], _ => rfl
  have g2 := PySem.W.mg_of X G a2
  have F3 := fun_mk (x := "opposite_row") (qual := "opposite_row") (st := sOpp) l3 c3 k3
  have b3 := F3.binds (ps := ["row"]) fun _ _ _ _ _ _ us hl => match us, hl with | [_], _ => rfl
  have g3 := PySem.W.mg_of X G a3
  have F4 := fun_mk (x := "row_of") (qual := "row_of") (st := sRowOf) l4 c4 k4
  have b4 := F4.binds (ps := ["value"]) fun _ _ _ _ _ _ us hl => match us, hl with | [_], _ => rfl
  have g4 := PySem.W.mg_of X G a4
  have F5 := fun_mk (x := "sign_at") (qual := "sign_at") (st := sSignAt) l5 c5 k5
  have b5 := F5.binds (ps := ["polynomial", "d"]) fun _ _ _ _ _ _ us hl => match us, hl with | [_, _], _ => rfl
  have g5 := PySem.W.mg_of X G a5
  have F6 := fun_mk (x := "step_of") (qual := "step_of") (st := sStepOf) l6 c6 k6
  have b6 := F6.binds (ps := ["polynomial"]) fun _ _ _ _ _ _ us hl => match us, hl with | [_], _ => rfl
  have g6 := PySem.W.mg_of X G a6
  have F7 := fun_mk (x := "first_other") (qual := "first_other") (st := sFirst) l7 c7 k7
  have b7 := F7.binds (ps := ["polynomial", "sign", "start", "end"]) fun _ _ _ _ _ _ us hl => match us, hl with | [_, _, _, _], _ => rfl
  have g7 := PySem.W.mg_of X G a7
  have F8 := fun_mk (x := "runs_in") (qual := "runs_in") (st := sRunsIn) l8 c8 k8
  have b8 := F8.binds (ps := ["polynomial", "start", "end", "direction"]) fun _ _ _ _ _ _ us hl => match us, hl with | [_, _, _, _], _ => rfl
  have g8 := PySem.W.mg_of X G a8
  have F9 := fun_mk (x := "joined_runs") (qual := "joined_runs") (st := sJoined) l9 c9 k9
  have b9 := F9.binds (ps := ["runs"]) fun _ _ _ _ _ _ us hl => match us, hl with | [_], _ => rfl
  have g9 := PySem.W.mg_of X G a9
  have F10 := fun_mk (x := "one_sign") (qual := "one_sign") (st := sOneSign) l10 c10 k10
  have b10 := F10.binds (ps := ["row"]) fun _ _ _ _ _ _ us hl => match us, hl with | [_], _ => rfl
  have g10 := PySem.W.mg_of X G a10
  have F11 := fun_mk (x := "sign_runs") (qual := "sign_runs") (st := sSignRuns) l11 c11 k11
  have b11 := F11.binds (ps := ["polynomial"]) fun _ _ _ _ _ _ us hl => match us, hl with | [_], _ => rfl
  have g11 := PySem.W.mg_of X G a11
  have F12 := fun_mk (x := "_law_rng") (qual := "_law_rng") (st := sRng) l12 c12 k12
  have b12 := F12.binds (ps := ["_law_script", "_law_k"]) fun _ _ _ _ _ _ us hl => match us, hl with | [_, _], _ => rfl
  have g12 := PySem.W.mg_of X G a12
  have F13 := fun_mk (x := "_law_draw") (qual := "_law_draw") (st := sDraw) l13 c13 k13
  have b13 := F13.binds (ps := ["_law_rng_here", "_law_many"]) fun _ _ _ _ _ _ us hl => match us, hl with | [_, _], _ => rfl
  have g13 := PySem.W.mg_of X G a13
  have F14 := fun_mk (x := "_law_choice") (qual := "_law_choice") (st := sChoice) l14 c14 k14
  have b14 := F14.binds (ps := ["_law_rng_here", "_law_some"]) fun _ _ _ _ _ _ us hl => match us, hl with | [_, _], _ => rfl
  have g14 := PySem.W.mg_of X G a14
  have F15 := fun_mk (x := "_law_sign") (qual := "_law_sign") (st := sLSign) l15 c15 k15
  have b15 := F15.binds (ps := ["_law_number"]) fun _ _ _ _ _ _ us hl => match us, hl with | [_], _ => rfl
  have g15 := PySem.W.mg_of X G a15
  have F16 := fun_mk (x := "_law_factor") (qual := "_law_factor") (st := sFactor) l16 c16 k16
  have b16 := F16.binds (ps := ["_law_rng_here", "_law_others", "_law_great"]) fun _ _ _ _ _ _ us hl => match us, hl with | [_, _, _], _ => rfl
  have g16 := PySem.W.mg_of X G a16
  have F17 := fun_mk (x := "_law_polynomial") (qual := "_law_polynomial") (st := sPoly) l17 c17 k17
  have b17 := F17.binds (ps := ["_law_factor_here"]) fun _ _ _ _ _ _ us hl => match us, hl with | [_], _ => rfl
  have g17 := PySem.W.mg_of X G a17
  have F18 := fun_mk (x := "_law_sign_at") (qual := "_law_sign_at") (st := sLSignAt) l18 c18 k18
  have b18 := F18.binds (ps := ["_law_number", "_law_factors", "_law_place"]) fun _ _ _ _ _ _ us hl => match us, hl with | [_, _, _], _ => rfl
  have g18 := PySem.W.mg_of X G a18
  have F19 := fun_mk (x := "_law_places") (qual := "_law_places") (st := sPlaces) l19 c19 k19
  have b19 := F19.binds (ps := ["_law_factors"]) fun _ _ _ _ _ _ us hl => match us, hl with | [_], _ => rfl
  have g19 := PySem.W.mg_of X G a19
  have F20 := fun_mk (x := "_law_due") (qual := "_law_due") (st := sDue) l20 c20 k20
  have b20 := F20.binds (ps := ["_law_number", "_law_factors"]) fun _ _ _ _ _ _ us hl => match us, hl with | [_, _], _ => rfl
  have g20 := PySem.W.mg_of X G a20
  have F21 := fun_mk (x := "_law_refused") (qual := "_law_refused") (st := sRefused) l21 c21 k21
  have b21 := F21.binds (ps := ["_law_value"]) fun _ _ _ _ _ _ us hl => match us, hl with | [_], _ => rfl
  have g21 := PySem.W.mg_of X G a21
  have F22 := fun_mk (x := "_law_product_right") (qual := "_law_product_right") (st := sProduct) l22 c22 k22
  have b22 := F22.binds (ps := ["_law_rng_here"]) fun _ _ _ _ _ _ us hl => match us, hl with | [_], _ => rfl
  have g22 := PySem.W.mg_of X G a22
  have F23 := fun_mk (x := "_law_right") (qual := "_law_right") (st := sRight) l23 c23 k23
  have b23 := F23.binds (ps := ["_law_rng_here"]) fun _ _ _ _ _ _ us hl => match us, hl with | [_], _ => rfl
  have g23 := PySem.W.mg_of X G a23
  have F24 := fun_mk (x := "law") (qual := "law") (st := sLaw) l24 c24 k24
  have b24 := F24.binds (ps := ["_law_script"]) fun _ _ _ _ _ _ us hl => match us, hl with | [_], _ => rfl
  have g24 := PySem.W.mg_of X G a24
  have Fm0 := fun_mk (x := "coefficients") (qual := "Polynomial.coefficients") (st := sPCoef) lm0 cm0 km0
  have bm0 := Fm0.binds (ps := ["self"]) fun _ _ _ _ _ _ us hl => match us, hl with | [_], _ => rfl
  have Fm1 := fun_mk (x := "at") (qual := "Polynomial.at") (st := sPAt) lm1 cm1 km1
  have bm1 := Fm1.binds (ps := ["self", "d"]) fun _ _ _ _ _ _ us hl => match us, hl with | [_, _], _ => rfl
  have Fm2 := fun_mk (x := "__add__") (qual := "Polynomial.__add__") (st := sPAdd) lm2 cm2 km2
  have bm2 := Fm2.binds (ps := ["self", "other"]) fun _ _ _ _ _ _ us hl => match us, hl with | [_, _], _ => rfl
  have Fm3 := fun_mk (x := "__sub__") (qual := "Polynomial.__sub__") (st := sPSub) lm3 cm3 km3
  have bm3 := Fm3.binds (ps := ["self", "other"]) fun _ _ _ _ _ _ us hl => match us, hl with | [_, _], _ => rfl
  have Fm4 := fun_mk (x := "__mul__") (qual := "Polynomial.__mul__") (st := sPMul) lm4 cm4 km4
  have bm4 := Fm4.binds (ps := ["self", "other"]) fun _ _ _ _ _ _ us hl => match us, hl with | [_, _], _ => rfl
  have Fm5 := fun_mk (x := "__neg__") (qual := "Polynomial.__neg__") (st := sPNeg) lm5 cm5 km5
  have bm5 := Fm5.binds (ps := ["self"]) fun _ _ _ _ _ _ us hl => match us, hl with | [_], _ => rfl
  have Fm6 := fun_mk (x := "__repr__") (qual := "Polynomial.__repr__") (st := sPRepr) lm6 cm6 km6
  have bm6 := Fm6.binds (ps := ["self"]) fun _ _ _ _ _ _ us hl => match us, hl with | [_], _ => rfl
  have Fp0 := fun_mk (x := "degree") (qual := "Polynomial.degree") (st := sPDeg) lp0 cp0 kp0
  have bp0 := Fp0.binds (ps := ["self"]) fun _ _ _ _ _ _ us hl => match us, hl with | [_], _ => rfl
  have Fin_ := fun_mk (x := "__init__") (qual := "Polynomial.__init__") (st := sPInit) lin_ cin_ kin_
  refine ⟨PySem.W.fnOf "law" "law" (defArgs sLaw) (defBody sLaw) (defScope sLaw) .none kV24 dc24 pm24 an24 cd24 ct24, fun s v => .of_eq rfl, fun base _ _ => ?_⟩
  have N : Pc K mg C := ⟨⟨pg, hd, po, sa⟩, nR, PySem.W.mg_of X G aC, ic, gt, tk, mo, sf⟩
  have NO : PcO K C := ⟨kit_tr jc tc suint, ⟨⟨kit_tr jc tc suNoneType, suNoneType⟩, ⟨kit_tr jc tc subool, subool⟩, ⟨kit_tr jc tc sustr, sustr⟩, ⟨kit_tr jc tc sulist, sulist⟩, ⟨kit_tr jc tc sutuple, sutuple⟩, ⟨kit_tr jc tc sudict, sudict⟩⟩⟩
  have D0 := df_of (P := l.prog) (w := w) (base := base) F0 g0 b0 (ok_isInt F0 T)
  have D1 := df_of (P := l.prog) (w := w) (base := base) F1 g1 b1 (ok_added F1 T)
  have D2 := df_of (P := l.prog) (w := w) (base := base) F2 g2 b2 (ok_mult F2 T)
  have D3 := df_of (P := l.prog) (w := w) (base := base) F3 g3 b3 (ok_opp F3 T)
  have PM : PMk l.prog w K mg base C := ⟨N, fin_, ⟨mk, ain, iin, kc⟩, ok_pinit Fin_ T N D0⟩
  have PL : PCl l.prog w K mg base C := ⟨PM, ⟨fm0, _, ⟨am0, im0, km0⟩, bm0, ok_coef Fm0 N⟩, ⟨fm1, _, ⟨am1, im1, km1⟩, bm1, ok_at Fm1 T N D0⟩, ⟨qp0, fp0, _, ⟨ap0, gp0, tp0, ⟨_, r_p0⟩⟩, bp0, ok_deg Fp0 T N⟩⟩
  have D4 := df_of (P := l.prog) (w := w) (base := base) F4 g4 b4 (ok_rowOf F4 T PL)
  have PO : POp l.prog w K mg base C := ⟨PL, ⟨fm4, am4, im4, raw0 (ok_mul Fm4 T PM D2 D4) bm4 (by decide)⟩, ⟨fm2, am2, im2, raw0 (ok_add Fm2 T PM D1 D4) bm2 (by decide)⟩, ⟨fm3, am3, im3, raw0 (ok_sub Fm3 T PM D1 D4 D3) bm3 (by decide)⟩, ⟨fm5, am5, im5, raw0 (ok_neg Fm5 T PM D3) bm5 (by decide)⟩⟩
  have D5 := df_of (P := l.prog) (w := w) (base := base) F5 g5 b5 (ok_signAt F5 T PL)
  have D6 := df_of (P := l.prog) (w := w) (base := base) F6 g6 b6 (ok_step F6 PO)
  have D7 := df_of (P := l.prog) (w := w) (base := base) F7 g7 b7 (ok_first F7 D5)
  have D8 := df_of (P := l.prog) (w := w) (base := base) F8 g8 b8 (ok_runsIn F8 D5 D7)
  have D9 := df_of (P := l.prog) (w := w) (base := base) F9 g9 b9 (ok_joined F9)
  have D10 := df_of (P := l.prog) (w := w) (base := base) F10 g10 b10 (ok_one F10 T)
  have D11 := df_of (P := l.prog) (w := w) (base := base) F11 g11 b11 (ok_signRuns F11 T PL D10 D4 D6 D5 D8 D9)
  have RP : PRp l.prog w K mg base C := ⟨fm6, _, am6, im6, bm6, raw0 (ok_prepr Fm6 T N) bm6 (by decide), ok_preprH Fm6 T N⟩
  have OE : OexC K DJ := ⟨⟨_, _, _, _, _, _, _, _, _, _, _, _, _, _, _, xJ, by show PySem.HandSPX.refsVE veTail = true; decide +kernel⟩, saJ, eJ, tJ, kJ⟩
  have SI : SupK "ValueError" "ValueError.__new__" "ValueError.__init__" veTail l.prog K mg DJ feJ (fnC "__init__" "InvalidPolynomial.__init__" (defArgs sIPInit) (defBody sIPInit) (defScope sIPInit) .none kVEJ dcEJ pmEJ anEJ (.ref ceJ) ctEJ celJ) ipArg := ⟨⟨_, _, _, ldJ⟩, by rfl, by show (defScope sIPInit).names.lookup ipArg.arg = some NameKind.local; decide +kernel, ⟨ceJ, _, _, vsJ, _, fileJ, tfJ, rfl, lceJ, hvsJ, hfileJ⟩, htop, PySem.W.mg_none_of X G z_super, ⟨_, _, _, _, _, _, _, _, _, _, _, _, _, _, _, xJ, by show decide (veTail = veTail) = true; decide +kernel⟩, supJ, svJ, ssJ, opn⟩
  have Z : PErr l.prog w K mg base C DJ := ⟨OE, PySem.W.mg_of X G aJ, ⟨feJ, _, adJ, tdJ, .all (fun us hl => match us, hl with | [_, _], _ => rfl), ok_ip cdEJ lcelJ SI RP OE noJ⟩, exm_self eJ jJ tJ ssJ, ⟨gaJ, ggJ, eJ, hdEJ⟩, noJ⟩
  have RX := dfX_of (P := l.prog) (w := w) (base := base) F4 g4 b4 (ok_rowX F4 T N NO Z)
  have SX := dfX_of (P := l.prog) (w := w) (base := base) F11 g11 b11 (ok_srX F11 D10 RX)
  have D12 := df_of (P := l.prog) (w := w) (base := base) F12 g12 b12 (ok_rng F12 T)
  have D13 := df_of (P := l.prog) (w := w) (base := base) F13 g13 b13 (ok_draw F13 T)
  have D14 := df_of (P := l.prog) (w := w) (base := base) F14 g14 b14 (ok_choice F14 T D13)
  have D15 := df_of (P := l.prog) (w := w) (base := base) F15 g15 b15 (ok_lsign F15 T)
  have D16 := df_of (P := l.prog) (w := w) (base := base) F16 g16 b16 (ok_factor F16 T D13 D14)
  have D17 := df_of (P := l.prog) (w := w) (base := base) F17 g17 b17 (ok_poly F17 PM)
  have D18 := df_of (P := l.prog) (w := w) (base := base) F18 g18 b18 (ok_lsignAt F18 D15)
  have D19 := df_of (P := l.prog) (w := w) (base := base) F19 g19 b19 (ok_places F19 T)
  have D20 := df_of (P := l.prog) (w := w) (base := base) F20 g20 b20 (ok_due F20 D19 D18)
  have D21 := dfG_of (P := l.prog) (w := w) (base := base) F21 g21 b21 (ok_refused F21 T RP Z SX)
  have DD : DfGs l.prog w K mg base C := ⟨PO, D13, D14, D16, D17, D20, D11, ⟨f11, _, g11, F11.kp, KBinds.lone (fun _ => rfl), ok_signRuns F11 T PL D10 D4 D6 D5 D8 D9⟩⟩
  have D22 := dfG_of (P := l.prog) (w := w) (base := base) F22 g22 b22 (ok_product F22 T DD)
  have D23 := dfG_of (P := l.prog) (w := w) (base := base) F23 g23 b23 (ok_right F23 T PM D14 D22 D21)
  exact ok_law F24 T D12 D23
theorem walk {l : PySem.W.OpenLaw} {q : Program} {loose : List Str} {XP : (Str → Option Value) → Heap → Prop} {YP : World → Heap → Prop} {d : DefRec} {K : Params → PySem.W.Frag} (most : l.most = some 63) (plain : d.params.defaults = [])
    (keeps : ∀ (w : World) (h : Heap), YP w h → (K w.params).In h)
    (def_ : ∀ (w : World) (mg : Str → Option Value) (fa : Addr) (h : Heap), (K w.params).In h → h.Ns mainGlobals mg → mg d.name = some (.ref fa) →
      ∃ fd : FuncData, (∀ (s : Shared) (u : Value), BindsTo s fd ⟨[u], []⟩ [("_law_script", u)]) ∧ ∀ base : Heap, (K w.params).In base → base.Ns mainGlobals mg → FnG l.prog w (K w.params) mg base CX0 13 fa fd ["_law_script"] (spLaw (K w.params))) :
    PySem.W.WalkO q loose XP YP l.row.toRowW d [] (fun f vs => PySem.call f vs) :=
  L2.walk_quiet (n := 63) (k := 13) (x := "_law_script") (CX := fun _ => CX0) (sp := fun w => spLaw (K w.params)) most (by decide) plain ⟨rfl, by decide, by decide⟩ keeps def_ (fun _ _ a ns few list => ⟨a, ns, rfl, list, few, fun _ => rfl⟩) fun _ _ _ _ _ z => z
end S71

open PySem PySem.W PyProof.Rows in
set_option maxRecDepth 100000 in
set_option maxHeartbeats 0 in
theorem PySem.Challenge.cw_slotsums_k71_sign_runs_holds : PySem.Challenge.rw_slotsums_k71_sign_runs.Holds := by
  w_on; o_law; k_head; (case hw => w_witness2)
  k_fill
  refine S71.walk (l := PySem.Challenge.rw_slotsums_k71_sign_runs) rfl rfl (fun w h Y => PySem.W.kIn_of Y) ?F
  case F =>
    intro w mg fa h KX G hmg
    refine' S71.all_mk KX G hmg ?a0 ?l0 ?c0 ?k0 ?a1 ?l1 ?c1 ?k1 ?a2 ?l2 ?c2 ?k2 ?a3 ?l3 ?c3 ?k3 ?a4 ?l4 ?c4 ?k4 ?a5 ?l5 ?c5 ?k5 ?a6 ?l6 ?c6 ?k6 ?a7 ?l7 ?c7 ?k7 ?a8 ?l8 ?c8 ?k8 ?a9 ?l9 ?c9 ?k9 ?a10 ?l10 ?c10 ?k10 ?a11 ?l11 ?c11 ?k11 ?a12 ?l12 ?c12 ?k12 ?a13 ?l13 ?c13 ?k13 ?a14 ?l14 ?c14 ?k14 ?a15 ?l15 ?c15 ?k15 ?a16 ?l16 ?c16 ?k16 ?a17 ?l17 ?c17 ?k17 ?a18 ?l18 ?c18 ?k18 ?a19 ?l19 ?c19 ?k19 ?a20 ?l20 ?c20 ?k20 ?a21 ?l21 ?c21 ?k21 ?a22 ?l22 ?c22 ?k22 ?a23 ?l23 ?c23 ?k23 ?a24 ?l24 ?c24 ?k24 ?aC ?am0 ?im0 ?lm0 ?cm0 ?km0 ?am1 ?im1 ?lm1 ?cm1 ?km1 ?am2 ?im2 ?lm2 ?cm2 ?km2 ?am3 ?im3 ?lm3 ?cm3 ?km3 ?am4 ?im4 ?lm4 ?cm4 ?km4 ?am5 ?im5 ?lm5 ?cm5 ?km5 ?am6 ?im6 ?lm6 ?cm6 ?km6 ?ap0 ?gp0 ?tp0 ?r_p0 ?lp0 ?cp0 ?kp0 ?ain ?iin ?lin_ ?cin_ ?kin_ ?pg ?hd ?po ?sa ?mk ?kc ?nR ?ic ?gt ?tk ?mo ?sf ?jc ?tc ?suint ?sustr ?suNoneType ?subool ?sulist ?sutuple ?sudict ?aJ ?xJ ?saJ ?eJ ?tJ ?kJ ?jJ ?ssJ ?svJ ?adJ ?tdJ ?ldJ ?cdEJ ?lcelJ ?lceJ ?hvsJ ?hfileJ ?supJ ?noJ ?gaJ ?ggJ ?hdEJ ?htop ?z_super ?opn ?z_isinstance ?z_int ?z_bool ?z_len ?z_list ?z_max ?z_min ?z_sum ?z_zip ?z_range ?z_tuple ?z_enumerate ?z_any ?z_all ?z_abs ?z_divmod ?z_str ?z_repr ?z_set ?z_sorted
    (case a0 => k_is)
    (case l0 => k_is)
    (case c0 => k_is)
    (case k0 => k_is)
    (case a1 => k_is)
    (case l1 => k_is)
    (case c1 => k_is)
    (case k1 => k_is)
    (case a2 => k_is)
    (case l2 => k_is)
    (case c2 => k_is)
    (case k2 => k_is)
    (case a3 => k_is)
    (case l3 => k_is)
    (case c3 => k_is)
    (case k3 => k_is)
    (case a4 => k_is)
    (case l4 => k_is)
    (case c4 => k_is)
    (case k4 => k_is)
    (case a5 => k_is)
    (case l5 => k_is)
    (case c5 => k_is)
    (case k5 => k_is)
    (case a6 => k_is)
    (case l6 => k_is)
    (case c6 => k_is)
    (case k6 => k_is)
    (case a7 => k_is)
    (case l7 => k_is)
    (case c7 => k_is)
    (case k7 => k_is)
    (case a8 => k_is)
    (case l8 => k_is)
    (case c8 => k_is)
    (case k8 => k_is)
    (case a9 => k_is)
    (case l9 => k_is)
    (case c9 => k_is)
    (case k9 => k_is)
    (case a10 => k_is)
    (case l10 => k_is)
    (case c10 => k_is)
    (case k10 => k_is)
    (case a11 => k_is)
    (case l11 => k_is)
    (case c11 => k_is)
    (case k11 => k_is)
    (case a12 => k_is)
    (case l12 => k_is)
    (case c12 => k_is)
    (case k12 => k_is)
    (case a13 => k_is)
    (case l13 => k_is)
    (case c13 => k_is)
    (case k13 => k_is)
    (case a14 => k_is)
    (case l14 => k_is)
    (case c14 => k_is)
    (case k14 => k_is)
    (case a15 => k_is)
    (case l15 => k_is)
    (case c15 => k_is)
    (case k15 => k_is)
    (case a16 => k_is)
    (case l16 => k_is)
    (case c16 => k_is)
    (case k16 => k_is)
    (case a17 => k_is)
    (case l17 => k_is)
    (case c17 => k_is)
    (case k17 => k_is)
    (case a18 => k_is)
    (case l18 => k_is)
    (case c18 => k_is)
    (case k18 => k_is)
    (case a19 => k_is)
    (case l19 => k_is)
    (case c19 => k_is)
    (case k19 => k_is)
    (case a20 => k_is)
    (case l20 => k_is)
    (case c20 => k_is)
    (case k20 => k_is)
    (case a21 => k_is)
    (case l21 => k_is)
    (case c21 => k_is)
    (case k21 => k_is)
    (case a22 => k_is)
    (case l22 => k_is)
    (case c22 => k_is)
    (case k22 => k_is)
    (case a23 => k_is)
    (case l23 => k_is)
    (case c23 => k_is)
    (case k23 => k_is)
    (case a24 => k_is)
    (case l24 => k_is)
    (case c24 => k_is)
    (case k24 => k_is)
    (case aC => k_is)
    (case am0 => k_is)
    (case im0 => k_is)
    (case lm0 => k_is)
    (case cm0 => k_is)
    (case km0 => k_is)
    (case am1 => k_is)
    (case im1 => k_is)
    (case lm1 => k_is)
    (case cm1 => k_is)
    (case km1 => k_is)
    (case am2 => k_is)
    (case im2 => k_is)
    (case lm2 => k_is)
    (case cm2 => k_is)
    (case km2 => k_is)
    (case am3 => k_is)
    (case im3 => k_is)
    (case lm3 => k_is)
    (case cm3 => k_is)
    (case km3 => k_is)
    (case am4 => k_is)
    (case im4 => k_is)
    (case lm4 => k_is)
    (case cm4 => k_is)
    (case km4 => k_is)
    (case am5 => k_is)
    (case im5 => k_is)
    (case lm5 => k_is)
    (case cm5 => k_is)
    (case km5 => k_is)
    (case am6 => k_is)
    (case im6 => k_is)
    (case lm6 => k_is)
    (case cm6 => k_is)
    (case km6 => k_is)
    (case ap0 => k_is)
    (case gp0 => k_is)
    (case tp0 => k_is)
    (case r_p0 => k_is)
    (case lp0 => k_is)
    (case cp0 => k_is)
    (case kp0 => k_is)
    (case ain => k_is)
    (case iin => k_is)
    (case lin_ => k_is)
    (case cin_ => k_is)
    (case kin_ => k_is)
    (case pg => k_is)
    (case hd => k_is)
    (case po => k_is)
    (case sa => k_is)
    (case mk => k_is)
    (case kc => k_is)
    (case nR => k_is)
    (case ic => k_is)
    (case gt => k_is)
    (case tk => k_is)
    (case mo => k_is)
    (case sf => k_is)
    (case jc => k_is)
    (case tc => k_is)
    (case suint => k_is)
    (case sustr => k_is)
    (case suNoneType => k_is)
    (case subool => k_is)
    (case sulist => k_is)
    (case sutuple => k_is)
    (case sudict => k_is)
    (case aJ => k_is)
    (case xJ => k_is)
    (case saJ => k_is)
    (case eJ => k_is)
    (case tJ => k_is)
    (case kJ => k_is)
    (case jJ => k_is)
    (case ssJ => first | k_is | rfl)
    (case svJ => k_is)
    (case adJ => k_is)
    (case tdJ => k_is)
    (case ldJ => k_is)
    (case cdEJ => k_is)
    (case lcelJ => k_is)
    (case lceJ => k_is)
    (case hvsJ => rfl)
    (case hfileJ => first | rfl | kernel_rfl)
    (case supJ => ks_is)
    (case noJ => k_is)
    (case gaJ => k_is)
    (case ggJ => k_is)
    (case hdEJ => k_is)
    (case htop => first | rfl | kernel_rfl)
    (case z_super => k_is)
    (case opn => k_is)
    (case z_isinstance => k_is)
    (case z_int => k_is)
    (case z_bool => k_is)
    (case z_len => k_is)
    (case z_list => k_is)
    (case z_max => k_is)
    (case z_min => k_is)
    (case z_sum => k_is)
    (case z_zip => k_is)
    (case z_range => k_is)
    (case z_tuple => k_is)
    (case z_enumerate => k_is)
    (case z_any => k_is)
    (case z_all => k_is)
    (case z_abs => k_is)
    (case z_divmod => k_is)
    (case z_str => k_is)
    (case z_repr => k_is)
    (case z_set => k_is)
    (case z_sorted => k_is)
