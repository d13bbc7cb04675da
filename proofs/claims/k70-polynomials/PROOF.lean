import PyProof.Rows.All
import Wide.All
import OpenK.AllK
import Wide.FinOn
import HandS.ForMost
import HandS.More
import PyProof.ReprRoads
import KE.KExcSuper
import HandS.ExcInit
import HandS.Nested
import KE.KOpsOwn
import KE.KCallOwn
import PyProof.InstEq
import HandS.SlotsOwn
import HandS.IsInst
import PyProof.ReprDict
import HandS.FStr
import KE.KExcIs
import HandS.ExcIs
import HandS.ExcField
import HandS.Lambda
import HandS.ExcOwn
import HandS.Star
import HandS.ClsMeth
import HandS.EndTab
import KE.KNest
import HandS.Property
import HandS.Style
import HandS.Wide
import HandS.WideBits
import HandS.TupAny
import HandS.Conv
import KE.KUnpack
import KE.KRevSl
import HandS.TryMany
import PyProof.Rows.ReprOcc
import PyProof.StrLawsRepr
import KE.KxStill
import HandS.Walk
import HandS.Defaults
import HandS.TryOnly
import HandS.AnyAll
import KE.RegKSuper
import PySem.Challenge.RW_slotsums_k70_polynomials
set_option Elab.async false
set_option linter.all false
set_option maxRecDepth 100000
set_option maxHeartbeats 8000000
/-! Defs that ask what is being shown around them: FnOk where no repr is under way (guards = some []). -/
namespace L2
open PySem PySem.Spec PyProof.Rows
/-- the def keeps its promise wherever no repr is under way -/
structure FnG (P : Program) (w : World) (K : PySem.W.Frag) (mg : Str → Option Value) (base : Heap) (CX : CXT) (k : Nat) (f : Addr) (fd : FuncData) (ps : List Str) (sp : Sp) : Prop where
  len : ∀ vs H Q E, sp vs H Q E → vs.length = ps.length
  run : ∀ (A : Around) (outer : List Env) (s : Shared) (H : Hp) (args : Args) (us : List Value) (vs : List V) (Q : VK) (E : XK), A.guards = some [] → Room k A → Env0 P w K mg base A outer s H → BindsTo s fd args (ps.zip us) → Vals vs us → sp vs H Q E →
    codeAny (model P w) A (.call (.ref f) args) (CR CX outer P w H s Q E) s
section
variable {CX : CXT} {P : Program} {w : World} {K : PySem.W.Frag} {mg : Str → Option Value} {base : Heap} {k : Nat} {f : Addr} {fd : FuncData} {N ps : List Str} {sp : Sp}
theorem FnOk.gd (F : FnOk P w K mg base CX k f fd ps sp) : FnG P w K mg base CX k f fd ps sp := ⟨F.len, fun A outer s H args us vs Q E _ => F.run A outer s H args us vs Q E⟩
theorem FnG.mono {j : Nat} (F : FnG P w K mg base CX j f fd ps sp) (h : j ≤ k) : FnG P w K mg base CX k f fd ps sp := ⟨F.len, fun A outer s H args us vs Q E hg hr => F.run A outer s H args us vs Q E hg (hr.mono h)⟩
/-- a body walked where no repr is under way -/
theorem fn_ofG {name qual : Str} {params : Arguments} {body : List Stmt} {scope : Scope} {dV kV doc pm cdv ct oc : Value} {an od : Option Addr} {osl : Array (Option Value)}
    (lk : K.lookup f = some ⟨oc, od, .func (PySem.W.fnOf name qual params body scope dV kV doc pm an cdv ct), osl⟩) (hcd : PySem.W.codeIn K cdv qual = true) (S : FnScope N ps scope) (len : ∀ vs H Q E, sp vs H Q E → vs.length = ps.length)
    (hbody : ∀ (A : Around) (outer : List Env) (s : Shared) (H : Hp) (vs : List V) (Q : VK) (E : XK), A.guards = some [] → Room k (A.deeper (envOfC qual scope s.heap.objs.size f cdv)) → sp vs H Q E →
      ∃ t, PSs (cxOf CX P w K mg base N qual scope f cdv A outer s H E) body t ∧ t { nx := fun _ H' => Q .non H', rt := Q } (start N vs) H) :
    FnG P w K mg base CX (k + 1) f (PySem.W.fnOf name qual params body scope dV kV doc pm an cdv ct) ps sp := by
  refine ⟨len, fun A outer s H args us vs Q E gd hr e0 hb r hsp => ?_⟩
  have KX : K.In s.heap := e0.mod.kin.keeps fun b o e => (e0.bs b o e).1
  refine codeAny_call_function hr.depth (KX _ _ lk) rfl S.co S.gen rfl (PySem.W.codeRec_of KX hcd) (hb _ _ _ _ ?_)
  refine wpAny_newFunctionEnv_cells S.kind (fun ⟨n, v⟩ hy => (S.par n (List.of_mem_zip hy).1).imp id fun q => ⟨q, PySem.W.cellsFrom_some _ _ _ (.inl q)⟩) fun env he s1 x => ?_
  subst he
  refine ⟨(e0.mod.nolimit.keeps fun b o e => (e0.bs b o e).1).keeps x.toInCall.keep, codeAny_func ?_⟩
  obtain ⟨t, ht, hq⟩ := hbody A outer s H vs Q E gd (hr.deeper _) hsp
  refine wpAny_mono (ht.run [] s1 (start N vs) H _ (inv_start S hr.hd e0 (len _ _ _ _ hsp) r x) hq) (fun fl s' hs => ?_) fun e s' hs => hs
  cases fl with
  | ret u => obtain ⟨v, σ', H', J, rv, q⟩ := hs; exact ⟨v, H', J.os, J.bare, J.base, J.hok, rv, q⟩
  | next => obtain ⟨σ', H', J, q⟩ := hs; exact ⟨V.non, H', J.os, J.bare, J.base, J.hok, rfl, q⟩
  | brk => obtain ⟨_, _, _, q⟩ := hs; exact False.elim q
  | cont => obtain ⟨_, _, _, q⟩ := hs; exact False.elim q
theorem Fun.okG {x qual : Str} {st : Stmt} (F : Fun K x qual st f fd) (S : FnScope N ps (defScope st)) (len : ∀ vs H Q E, sp vs H Q E → vs.length = ps.length)
    (hbody : ∀ (cdv : Value) (A : Around) (outer : List Env) (s : Shared) (H : Hp) (vs : List V) (Q : VK) (E : XK), A.guards = some [] → Room k (A.deeper (envOfC qual (defScope st) s.heap.objs.size f cdv)) → sp vs H Q E →
      ∃ t, PSs (cxOf CX0 P w K mg base N qual (defScope st) f cdv A outer s H E).nox (defBody st) t ∧ t { nx := fun _ H' => Q .non H', rt := Q } (start N vs) H) : FnG P w K mg base CX0 (k + 1) f fd ps sp := by
  obtain ⟨oc, od, kV, doc, pm, an, cdv, ct, osl, rfl, lk, hcd⟩ := F.ex
  refine fn_ofG lk hcd S len fun A outer s H vs Q E gd hr hsp => ?_
  obtain ⟨t, h, q⟩ := hbody cdv A outer s H vs Q E gd hr hsp
  exact ⟨t, h.nox, q⟩
end
section
variable {X : Cx} {CX : CXT} {k : Nat} {f C : Addr} {fd : FuncData} {ps : List Str} {sp : Sp} {dvs : List V} {ds : List Value} {E : XK} {x m : Str} {p pos apos : Pos} {e o : Expr} {es : List Expr} {ta : TE} {t : TA}
theorem run_fnG {pins : List (Addr × Obj)} {σ : St} {H : Hp} {s : Shared} {Q : VK} {us : List Value} {vs : List V} (F : FnG X.prog X.w X.K X.mg X.base CX k f fd ps sp) (gd : X.A.guards = some []) (hr : Room k X.A) (hb : Binds X.K fd ps ds) (hd : Vals dvs ds) (hx : Passes CX X E)
    (I : Inv X pins σ H s) (r : Vals vs us) (h : sp (vs ++ dvs) H Q E) : wpAny (model X.prog X.w) X.A (call (.ref f) us) (EP X pins σ Q) X.xe s := by
  have r2 : Vals (vs ++ dvs) (us ++ ds) := r.append hd
  refine wpAny_call (codeAny_mono (F.run X.A X.stack s H ⟨us, []⟩ (us ++ ds) (vs ++ dvs) Q E gd hr I.env0 (hb s us I.kIn (by rw [← r2.length]; exact F.len _ _ _ _ h)) r2 h) fun r s' hq => ?_)
  cases r with
  | error e => exact hx pins σ H s e s' I hq
  | ok fl =>
    cases fl with
    | ret u => exact I.after hq
    | next => exact False.elim hq
    | brk => exact False.elim hq
    | cont => exact False.elim hq
theorem pe_callG (F : FnG X.prog X.w X.K X.mg X.base CX k f fd ps sp) (gd : X.A.guards = some []) (hr : Room k X.A) (hg : Gl X x) (hm : X.mg x = some (.ref f)) (hk : PySem.W.keepIn X.K (.ref f) = true) (hb : Binds X.K fd ps ds) (hd : Vals dvs ds) (hx : Passes CX X E)
    (ha : PA X (e :: es) t) (hdb : (x == ("__debug__" : Str)) = false := by decide) (he : starEach (e :: es) X.env = (false, eval e X.env) :: starEach es X.env := by rfl) (hpl : (backTo pos (starEach es X.env)).any (·.1) = false := by rfl) :
    PE X (.Call (.Name x p) (e :: es) [] pos) (tCall sp dvs E t) :=
  ⟨fun pins s σ H Q I h => wpAny_Call_Name_kw (ld_glob I hg hm (PySem.W.callWith_K (h₀ := X.base) I.ok.mod.kin hk (thn (ha.run pos pins s σ H _ I h) fun us s1 ⟨vs, H1, I1, r, q⟩ => ⟨I1.kIn, run_fnG F gd hr hb hd hx I1 r q⟩) he hpl) hdb)⟩
/-! ### repr of data -/
theorem call_reprD (gd : X.A.guards = some []) (hu : X.A.units + 70 < cLine) : CallR X (.builtin "repr") (fun xs H Q => ∃ a d, xs = [V.ref a] ∧ Dp X.K H (.ref a) d ∧ d.showable = true ∧ d.hasDict = false ∧ d.depth ≤ 64 ∧ d.shown.length ≤ sizeLine ∧ Q (.str d.shown) H) := by
  intro pins s σ H xs us Q I r h
  obtain ⟨a, d, rfl, hd, hs, hnd, hdp, hz, q⟩ := h
  obtain ⟨u, rfl, ru⟩ := vals1 r
  obtain rfl : u = Value.ref a := ru
  obtain ⟨as, rd⟩ := Dp.reads I d _ _ hd rfl
  refine PySem.repr_of_reads' rd hs (fun z => by rw [hnd] at z; cases z) gd (by omega) (fun _ _ e => e) (fun h' u tk kp => ?_) hz
  exact ⟨.str d.shown, H, I.kept (t' := tk) kp, ⟨_, rfl⟩, q⟩
end
end L2

/-! An own exception's __init__ that begins with super().__init__(e): the def is walked by the layer, its first statement by the library's words for super(). -/
namespace L2
theorem List.getElem?_append_or {α : Type} {l r : List α} {i : Nat} {a : α} (h : (l ++ r)[i]? = some a) : l[i]? = some a ∨ r[i - l.length]? = some a := by
  by_cases z : i < l.length
  · exact .inl (by rw [← List.getElem?_append_left z]; exact h)
  · exact .inr (by rw [← List.getElem?_append_right (Nat.le_of_not_lt z)]; exact h)
open PySem PySem.Spec PyProof.Rows
/-- the context of a def with a captured __class__ -/
def cxS (CX : CXT) (P : Program) (w : World) (K : PySem.W.Frag) (mg : Str → Option Value) (base : Heap) (N : List Str) (fd : FuncData) (f : Addr) (A : Around) (outer : List Env) (s : Shared) (H : Hp) (E : XK) : Cx where
  prog := P
  w := w
  K := K
  mg := mg
  base := base
  A := A.deeper (callEnv fd s.heap.objs.size f)
  N := N
  s_0 := s
  H_0 := H
  env := callEnv fd s.heap.objs.size f
  outer := outer
  stack := callEnv fd s.heap.objs.size f :: outer
  ex := []
  calm := true
  fn := fun _ => false
  pn := []
  xe := fun e s' => wpAny (model P w) (A.deeper (callEnv fd s.heap.objs.size f)) (leaving (callEnv fd s.heap.objs.size f) e) (fun _ s'' => CX outer H s E e s'') (fun e' s'' => CX outer H s E e' s'') s'
/-- what the text says of such a def -/
structure SupScope (N ps : List Str) (fd : FuncData) (cc : Addr) : Prop where
  kind : fd.scope.kind = .function
  co : fd.scope.isCoroutine = false
  gen : fd.scope.isGenerator = false
  nd : N.Nodup
  pre : N.take ps.length = ps
  par : ∀ x ∈ ps, fd.scope.names.lookup x = some .local
  nocell : ∀ y ∈ fd.scope.names, y.2 ≠ .cell
  free : ∀ y ∈ fd.scope.names, y.2 = .free → y.1 = ("__class__" : Str)
  sup : fd.scope.names.lookup ("super" : Str) = some .globalImplicit
  cls : fd.scope.names.lookup ("__class__" : Str) = some .free
  glob : fd.globals = mainGlobals
  blt : fd.builtins = builtinsNs
  clo : fd.closure = [(("__class__" : Str), cc)]
section
variable {CX : CXT} {P : Program} {w : World} {K : PySem.W.Frag} {mg : Str → Option Value} {base : Heap} {N ps : List Str} {fd : FuncData} {f cc C : Addr} {A : Around} {outer : List Env} {s : Shared} {H : Hp} {E : XK} {us : List Value} {vs : List V} {cd1 : Option Addr} {sl1 : Array (Option Value)}
theorem invS_start (S : SupScope N ps fd cc) (hcc : K.lookup cc = some ⟨.type "cell", cd1, .cell (some (.ref C)), sl1⟩) (hd : A.handled = none) (e0 : Env0 P w K mg base A outer s H) (hl : vs.length = ps.length) (r : Vals vs us) {h0 : Heap} {tk : Nat}
    (hns : h0.Ns s.heap.objs.size (fun x => (ps.zip us).reverse.lookup x)) (hk : ∀ b o, s.heap.get? b = some o → h0.get? b = some o) :
    Inv (cxS CX P w K mg base N fd f A outer s H E) [] (start N vs) H { s with heap := h0, toks := tk } := by
  have hpl : ps.length ≤ N.length := by have := congrArg List.length S.pre; rw [List.length_take] at this; omega
  have noA : ∀ b : Addr, b ∉ (cxS CX P w K mg base N fd f A outer s H E).ex := fun b z => by cases z
  have ecl : (cxS CX P w K mg base N fd f A outer s H E).env.cells = [(("__class__" : Str), cc)] := S.clo
  have one : ∀ {x : Str} {c : Addr}, (cxS CX P w K mg base N fd f A outer s H E).env.cells.lookup x = some c → x = ("__class__" : Str) ∧ c = cc := fun {x c} h => by
    rw [ecl, List.lookup_cons] at h
    cases hb : x == ("__class__" : Str) with
    | true => rw [hb] at h; exact ⟨beq_iff_eq.mp hb, (Option.some.inj h).symm⟩
    | false => rw [hb] at h; cases h
  have hb0 := e0.bs cc _ (e0.mod.kin _ _ hcc)
  refine ⟨⟨e0.mod, S.kind, S.glob, S.blt, Nat.le_refl _, fun y z c h1 h2 => (one h1).1.trans (one h2).1.symm, fun y hy => ?_, (fun y c z _ => by cases z), fun _ => hd, Around.frames_deeper e0.frames, .inr ⟨rfl, rfl⟩, fun b z => absurd z (noA b), e0.bs, e0.bsz, fun b _ _ => noA b, fun b z => absurd z (noA b), e0.funs, e0.frf⟩,
    rfl, e0.bare, Un.kept hk, ⟨_, hns, fun i y v h1 h2 h3 => ?_⟩, fun y c h => ?_, e0.hok.fresh (Nat.le_refl _), fun y c h => ?_, (fun p hp => by cases hp), e0.hok.kept hk, ?_⟩
  · rcases hy with hy | hy
    · exact absurd rfl (S.nocell _ (PySem.mem_of_lookup hy))
    · have e : y = ("__class__" : Str) := S.free _ (PySem.mem_of_lookup hy) rfl
      exact ⟨cc, by rw [ecl, e]; rfl⟩
  · have given : vs[i]? = some v := by
      have z : (vs.map some ++ List.replicate (N.length - vs.length) none)[i]? = some (some v) := h2
      rcases List.getElem?_append_or z with z | z
      · simpa using z
      · exact absurd (List.eq_of_mem_replicate (List.mem_of_getElem? z)) (by simp)
    have par : ps[i]? = some y := by
      have lt : i < ps.length := hl ▸ (List.getElem?_eq_some_iff.mp given).1
      have z : N[i]? = some y := h1
      rw [← List.getElem?_take_of_lt lt, S.pre] at z
      exact z
    obtain ⟨u, hu, rv⟩ := r.get given
    exact ⟨u, rv, .inl ⟨S.par y (List.mem_of_getElem? par), NdefX.zip_look (S.pre ▸ S.nd.sublist (List.take_sublist ps.length N)) par hu⟩⟩
  · obtain ⟨_, rfl⟩ := one h
    exact ⟨_, _, hk _ _ hb0.1, rfl⟩
  · obtain ⟨_, rfl⟩ := one h
    exact hb0.2
  · show (start N vs).length = N.length
    unfold start
    rw [List.length_append, List.length_map, List.length_replicate]
    omega
end
end L2

namespace L2
open PySem PySem.Spec PyProof.Rows
/-- own classes, then the tail t -/
def refsTo (t : List Value) : List Value → Bool
  | .ref _ :: r => refsTo t r
  | l => decide (l = t)
theorem refsTo_contains {t : List Value} (Y : String) : ∀ l : List Value, refsTo t l = true → l.contains (.type Y) = t.contains (.type Y)
  | [], h => by
    have e : ([] : List Value) = t := of_decide_eq_true h
    rw [← e]
  | v :: r, h => by
    cases v with
    | ref c =>
      rw [List.contains_cons, refsTo_contains Y r h]
      rfl
    | _ =>
      have e := of_decide_eq_true h
      rw [← e]
/-- what the written part says of the def's surroundings -/
structure SupK (B newId initId : String) (bmB : List Value) (P : Program) (K : PySem.W.Frag) (mg : Str → Option Value) (C f : Addr) (fd : FuncData) (ar : Arg) : Prop where
  fn : ∃ oc od osl, K.lookup f = some ⟨oc, od, .func fd, osl⟩
  hp : (fd.params.posonlyargs ++ fd.params.args).head? = some ar
  loc : fd.scope.names.lookup ar.arg = some .local
  code : ∃ cda k1 k2 vsc k3 file tf, fd.code = .ref cda ∧ K.lookup cda = some ⟨k1, k2, .fields vsc, k3⟩ ∧ vsc[2]? = some (.str file tf) ∧ ((P.main.file : Str) == file) = true
  top : (P.main.scope.names.lookup ("super" : Str)).isSome = false
  ms : mg "super" = none
  cls : ∃ nm q N bs bm sn sub ab col dd k0 k1 k2 k3 k5, K.lookup C = some (excClassObj nm q C N bs bm true sn sub ab col dd k0 k1 k2 k3 k5 newId) ∧ refsTo bmB bm = true
  sup : PySem.W.ks_superIn K C C "__init__" = some (some (.builtin initId))
  sB : PySem.W.subIn K (.ref C) (.type B) = some true
  sC : PySem.W.subIn K (.ref C) (.ref C) = some true
  op : PySem.W.nsIn K cStatics "thirdparty.any" = some none
section
variable {CX : CXT} {P : Program} {w : World} {K : PySem.W.Frag} {mg : Str → Option Value} {base : Heap} {N ps : List Str} {fd : FuncData} {f cc C a : Addr} {A : Around} {outer : List Env} {s0 s : Shared} {H0 H : Hp} {E : XK} {σ : St} {cd1 : Option Addr} {sl1 : Array (Option Value)} {ar : Arg}
  {e : Expr} {ta : TA} {p0 p1 p2 p3 p4 : Pos} {body : List Stmt} {R : Hp → Prop} {B newId initId : String} {bmB : List Value}
theorem boot_super : bootBuiltins ("super" : Str) = some (.type "super") := by decide +kernel
theorem sup_run (S : SupScope N ps fd cc) (hcc : K.lookup cc = some ⟨.type "cell", cd1, .cell (some (.ref C)), sl1⟩) (FB : ExcBaseFacts B newId initId bmB) (KF : PySem.W.KxsFacts B initId) (T : SupK B newId initId bmB P K mg C f fd ar) (h0 : N[0]? = some ar.arg)
    (I : Inv (cxS CX P w K mg base N fd f A outer s0 H0 E) [] σ H s) (hσ : σ[0]? = some (some (.ref a))) (ea : H a = some (exo a C none)) (ha : PA (cxS CX P w K mg base N fd f A outer s0 H0 E) [e] ta)
    (h : ta σ H fun vs H1 => vs.length ≤ 1000 ∧ H1 a = some (exo a C none) ∧ R H1)
    (hst : starEach [e] (callEnv fd s0.heap.objs.size f) = [(false, eval e (callEnv fd s0.heap.objs.size f))] := by rfl)
    {pl : Sem Bool}
    (hcall : eval (.Call (.Attribute (.Call (.Name "super" p0) [] [] p1) "__init__" p2) [e] [] p3) (callEnv fd s0.heap.objs.size f) = (do
      let ov ← attributeBase (.Call (.Name "super" p0) [] [] p1) "__init__" (callEnv fd s0.heap.objs.size f) (eval (.Call (.Name "super" p0) [] [] p1) (callEnv fd s0.heap.objs.size f))
      standAt p2.atName
      let (f', first) ← holding [ov] (getMethod ov "__init__" pl)
      callWith p3 f' first (backTo p3 (starEach [e] (callEnv fd s0.heap.objs.size f))) []) := by rfl) :
    PySem.wpAt (model P w) (A.deeper (callEnv fd s0.heap.objs.size f)) (.func body (callEnv fd s0.heap.objs.size f)) (eval (.Call (.Attribute (.Call (.Name "super" p0) [] [] p1) "__init__" p2) [e] [] p3) (callEnv fd s0.heap.objs.size f))
      (fun _ s' => ∃ H', Inv (cxS CX P w K mg base N fd f A outer s0 H0 E) [] σ H' s' ∧ R H') (cxS CX P w K mg base N fd f A outer s0 H0 E).xe s := by
  obtain ⟨oc, od, osl, lkf⟩ := T.fn
  obtain ⟨cda, k1, k2, vsc, k3, file, tf, hco, hcda, hvs, hfile⟩ := T.code
  have KX : K.In s.heap := I.kIn
  refine ks_wpAt_MethodCall (pl := pl) ?_ hcall
  refine ks_wpAt_super_base (f := f) (cc := cda) S.sup S.cls (by decide) rfl (KX _ _ lkf) rfl T.hp hco (KX _ _ hcda) rfl hvs hfile T.top ?_
  -- super
  obtain ⟨mb, b1, b2⟩ := I.mod.blt
  have hkind : (callEnv fd s0.heap.objs.size f).scope.kind = .function := S.kind
  have hsup : (callEnv fd s0.heap.objs.size f).kindOf "super" = some .globalImplicit := S.sup
  have ldS : ∀ Q : Value → Shared → Prop, Q (.type "super") s → wpAny (model P w) (A.deeper (callEnv fd s0.heap.objs.size f)) (loadName (callEnv fd s0.heap.objs.size f) "super") Q (cxS CX P w K mg base N fd f A outer s0 H0 E).xe s := fun Q hq => by
    unfold loadName
    simp only [Env.blockKind, hkind, hsup, ScopeKind.isAnnotationScope, Bool.false_and, Bool.false_eq_true, if_false]
    exact Calls.loadGlobal_builtin (by show s.heap.Ns fd.globals mg; rw [S.glob]; exact I.mod.glob.keeps I.bk) T.ms (by show s.heap.Ns fd.builtins mb; rw [S.blt]; exact b1.keeps I.bk) ((b2 _ (by decide)).trans boot_super) hq
  refine ldS _ ⟨rfl, ?_⟩
  -- __class__
  have hcell : s.heap.IsCell cc (some (.ref C)) := ⟨_, KX _ _ hcc, rfl⟩
  refine wpAny_loadName_free hkind S.cls (by show fd.closure.lookup _ = _; rw [S.clo]; rfl) hcell ?_
  -- self
  obtain ⟨m, hns, hl⟩ := I.loc
  obtain ⟨u, ru, hlook⟩ := hl 0 ar.arg (.ref a) h0 hσ (.inl T.loc)
  obtain rfl : u = Value.ref a := ru
  have hml : m ar.arg = some (.ref a) := by
    rcases hlook with ⟨_, z⟩ | ⟨z, _⟩
    · exact z
    · have z' : fd.scope.names.lookup ar.arg = some .cell ∨ fd.scope.names.lookup ar.arg = some .free := z
      rw [T.loc] at z'
      rcases z' with z' | z' <;> cases z'
  refine wpAny_loadName_local hkind T.loc hns hml ?_
  -- the class, the object
  obtain ⟨nm, q, NN, bs, bm, sn, sub, ab, col, dd, c0, c1, c2, c3, c5, hC, hbm⟩ := T.cls
  have hCh := KX _ _ hC
  obtain ⟨t1, hoa⟩ := exo_at I.hok ea
  obtain ⟨hp, g, d, t, os⟩ := s
  refine ks_wpAny_isType_cls hCh rfl ⟨rfl, ?_⟩
  refine ks_wpAny_call_super hCh rfl hoa rfl (fun c z => nomatch z) (PySem.W.looks_subIn KX T.sC) (fun h1 hso k1' => ?_)
  -- the bound __init__
  have KX1 : K.In h1 := KX.keeps k1'
  have hcl : PySem.W.clsIn K C = some { name := nm, bases := bs, mro := .ref C :: bm, ns := NN, qualname := q, hasDict := true, slotNames := sn, subclasses := sub, abstract := ab, collection := col, hasDel := false } := by unfold PySem.W.clsIn; rw [hC] <;> rfl
  have hal : PySem.W.alongIn K "__init__" (((Value.ref C :: bm).dropWhile (· != .ref C)).drop 1) = some (some (.builtin initId)) := by
    have z := T.sup
    unfold PySem.W.ks_superIn at z
    rw [hcl] at z
    exact z
  have hoa1 := k1' _ _ hoa
  have inst1 : PySem.W.InstAt h1 a { cls := .ref C, dict := none, data := .fields #[.ref t1, .none, .none, .none, .bool false, .none] } C none := ⟨hoa1, rfl, rfl, trivial⟩
  have hI1 : PySem.W.Looks (model P w) h1 (isInstance (.ref a) (.type B)) true := inst1.type.andThen (PySem.W.looks_subIn KX1 T.sB)
  refine PySem.W.kxs_getMethod KF hso (PySem.W.looks_opaque KX1 T.op) (l₀ := .ref C :: bm) (fun A Q E s k q => wpAny_bind ((PySem.W.looks_clsIn KX1 hcl) A _ E s k (wpAny_pure q))) rfl KX1 hal hI1 (PySem.W.ks_ne KX1 inst1 hcl) (by decide) ?_
  -- its argument
  have kk : ∀ b o, hp.get? b = some o → (h1.push (PySem.W.kxs_mw initId a)).get? b = some o := fun b o z => Heap.get?_push_of_some _ (k1' b o z)
  have I2 : Inv (cxS CX P w K mg base N fd f A outer s0 H0 E) [] σ H ⟨h1.push (PySem.W.kxs_mw initId a), g, d, t + 1, os⟩ := I.kept (t' := t + 1) kk
  have hwr : (h1.push (PySem.W.kxs_mw initId a)).get? h1.objs.size = some (PySem.W.kxs_mw initId a) := Heap.get?_push_at rfl rfl
  have I1 : Inv (cxS CX P w K mg base N fd f A outer s0 H0 E) [] σ H ⟨h1, g, d, t + 1, os⟩ := I.kept (t' := t + 1) k1'
  have I3 : Inv (cxS CX P w K mg base N fd f A outer s0 H0 E) [(h1.objs.size, PySem.W.kxs_mw initId a)] σ H ⟨h1.push (PySem.W.kxs_mw initId a), g, d, t + 1, os⟩ := I2.pins_of fun p hp' => by
    obtain rfl := List.mem_singleton.mp hp'
    exact ⟨hwr, I1.hok.fresh (Nat.le_refl _), Nat.ne_of_gt I1.lt, I1.nofs (Nat.le_refl _), fun v z => by cases z⟩
  rw [hst]
  refine PySem.W.kxs_callWith (i := initId) (x := a) rfl ?_
  refine Calls.evalArgs_plain ?_
  have hrun := ha.run p3 [(h1.objs.size, PySem.W.kxs_mw initId a)] _ σ H _ I3 h
  rw [show starEach [e] (cxS CX P w K mg base N fd f A outer s0 H0 E).env = [(false, eval e (callEnv fd s0.heap.objs.size f))] from hst] at hrun
  refine thn hrun fun us s2 ⟨vs, H1, I4, r4, hl, ea4, q4⟩ => ?_
  have hu2 : s2.heap.get? h1.objs.size = some (PySem.W.kxs_mw initId a) := (I4.pin _ (List.mem_append_right _ (List.mem_singleton.mpr rfl))).1
  refine ⟨hu2, ?_⟩
  show wpAny _ _ (call (.ref h1.objs.size) us) _ _ _
  have I5 : Inv (cxS CX P w K mg base N fd f A outer s0 H0 E) [] σ H1 s2 := I4.pins_of (fun p hp' => by cases hp')
  obtain ⟨t4, ho4⟩ := exo_at I5.hok ea4
  have hC2 := I5.kIn _ _ hC
  have hz : us.length ≤ sizeLine := by
    rw [← Paired.length r4, sizeLine_eq]
    omega
  have fin : ∀ h', (∀ b o, b ≠ a → s2.heap.get? b = some o → h'.get? b = some o) → (∃ t5 : Addr, h'.get? a = some ({ cls := .ref C, dict := none, data := .fields #[.ref t5, .none, .none, .none, .bool false, .none] } : Obj)) → ∃ H', Inv (cxS CX P w K mg base N fd f A outer s0 H0 E) [] σ H' { s2 with heap := h' } ∧ R H' := fun h' k ⟨t5, hx⟩ => by
    have J := I5.write (t' := s2.toks) (x := a) (e := a) (o := exo a C none) (by rw [ea4]; exact True.intro) (.inl rfl) k ⟨_, hx⟩ (exo_ok hx)
    have eu : upd H1 a (exo a C none) = H1 := by
      funext b
      by_cases hb : b = a
      · rw [hb, upd_same, ea4]
      · rw [upd_ne hb]
    rw [eu] at J
    exact ⟨H1, J, q4⟩
  obtain ⟨hp2, g2, d2, tk2, os2⟩ := s2
  refine wpAny_call (codeAny_of_tree ?_)
  show wpAny _ _ (callAny (.ref h1.objs.size) ⟨us, []⟩) _ _ _
  simp only [callAny]
  refine wpAny_bind (wpAny_load hu2 ?_)
  simp only [PySem.W.kxs_mw, show (Value.type "method-wrapper" == Value.type "method" || Value.type "method-wrapper" == Value.type "builtin_function_or_method" || Value.type "method-wrapper" == Value.type "method-wrapper") = true by decide, if_true]
  refine PySem.W.KFB.if_so (by decide) ?_
  refine wpAny_bind (PySem.W.check_bound_init FB.toExcCallFacts hC2 ho4 rfl ?_)
  refine wpAny_bind (wpAny_pure (wpAny_pure ?_))
  refine ⟨plainId_quiet FB.init.plain _, codeAny_builtin FB.initEntry ?_⟩
  exact PySem.W.exc_init_tree (cls := .ref C) (t0 := t4) (dv := none) (c2 := .none) (c3 := .none) (b4 := .bool false) ho4 hz fun h' k e' t' => fin h' k ⟨_, e'⟩
end
end L2

namespace L2
open PySem PySem.Spec PyProof.Rows
section
variable {CX : CXT} {P : Program} {w : World} {K : PySem.W.Frag} {mg : Str → Option Value} {base : Heap} {k : Nat} {N ps : List Str} {fd : FuncData} {f cc C : Addr} {cd1 : Option Addr} {sl1 : Array (Option Value)} {ar : Arg} {sp : Sp}
  {e : Expr} {p0 p1 p2 p3 p4 : Pos} {rest : List Stmt} {B newId initId : String} {bmB : List Value}
/-- an own exception's __init__ that begins with super().__init__(e) -/
theorem fn_sup (S : SupScope N ps fd cc) (hcc : K.lookup cc = some ⟨.type "cell", cd1, .cell (some (.ref C)), sl1⟩) (FB : ExcBaseFacts B newId initId bmB) (KF : PySem.W.KxsFacts B initId) (T : SupK B newId initId bmB P K mg C f fd ar) (h0 : N[0]? = some ar.arg) (hcd : PySem.W.codeIn K fd.code fd.qualname = true)
    (hbody : fd.body = .stmts (.Expr (.Call (.Attribute (.Call (.Name "super" p0) [] [] p1) "__init__" p2) [e] [] p3) p4 :: rest)) (len : ∀ vs H Q E, sp vs H Q E → vs.length = ps.length)
    (hst : ∀ env, starEach [e] env = [(false, eval e env)] := by intro env; rfl) {pl : Env → Sem Bool}
    (hcall : ∀ env, eval (.Call (.Attribute (.Call (.Name "super" p0) [] [] p1) "__init__" p2) [e] [] p3) env = (do
      let ov ← attributeBase (.Call (.Name "super" p0) [] [] p1) "__init__" env (eval (.Call (.Name "super" p0) [] [] p1) env)
      standAt p2.atName
      let (f', first) ← holding [ov] (getMethod ov "__init__" (pl env))
      callWith p3 f' first (backTo p3 (starEach [e] env)) []) := by intro env; rfl)
    (hin : ∀ L, interactive (callEnv fd L f) = false) (hsw : ∀ L, swapsWith (.Call (.Attribute (.Call (.Name "super" p0) [] [] p1) "__init__" p2) [e] [] p3) none p4.line (callEnv fd L f) = pure false)
    (h : ∀ (A : Around) (outer : List Env) (s : Shared) (H : Hp) (vs : List V) (Q : VK) (E : XK), A.guards = some [] → Room k (A.deeper (callEnv fd s.heap.objs.size f)) → sp vs H Q E →
      ∃ (a : Addr) (ta : TA) (tr : TS), (start N vs)[0]? = some (some (.ref a)) ∧ H a = some (exo a C none) ∧ PA (cxS CX P w K mg base N fd f A outer s H E) [e] ta ∧ PSs (cxS CX P w K mg base N fd f A outer s H E) rest tr ∧
        ta (start N vs) H (fun us H1 => us.length ≤ 1000 ∧ H1 a = some (exo a C none) ∧ tr { nx := fun _ H' => Q .non H', rt := Q } (start N vs) H1)) :
    FnG P w K mg base CX (k + 1) f fd ps sp := by
  refine ⟨len, fun A outer s H args us vs Q E gd hr e0 hb r hsp => ?_⟩
  have KX : K.In s.heap := e0.mod.kin.keeps fun b o e => (e0.bs b o e).1
  obtain ⟨oc, od, osl, lkf⟩ := T.fn
  refine ks_codeAny_call_defAt hr.depth (KX _ _ lkf) rfl (e0.mod.nolimit.keeps fun b o e => (e0.bs b o e).1) (PySem.W.codeRec_of KX hcd) hbody hb S.nocell (fun x hx => S.par x.1 (List.of_mem_zip hx).1) (fun h1 hns kk => ?_) S.co S.gen S.kind
  obtain ⟨a, ta, tr, ha0, hea, hta, htr, hq⟩ := h A outer s H vs Q E gd (hr.deeper _) hsp
  have I := invS_start (CX := CX) (E := E) (f := f) S hcc hr.hd e0 (len _ _ _ _ hsp) r (tk := s.toks + (ps.zip us).length) hns kk
  refine ks_wpAt_execs_cons (ks_wpAt_Expr_any (PySem.wpAt_mono (sup_run (pl := pl _) S hcc FB KF T h0 I ha0 hea hta hq (hst _) (hcall _)) (fun v s1 ⟨H1, I1, q1⟩ => ?_) fun e s' hs => hs) (hin _) (hsw _))
  refine PySem.wpAt_of_wpAny (wpAny_mono (htr.run [] s1 _ H1 _ I1 q1) (fun fl s' hs => ?_) fun e s' hs => hs)
  cases fl with
  | ret u => obtain ⟨v, σ', H', J, rv, q⟩ := hs; exact ⟨v, H', J.os, J.bare, J.base, J.hok, rv, q⟩
  | next => obtain ⟨σ', H', J, q⟩ := hs; exact ⟨V.non, H', J.os, J.bare, J.base, J.hok, rfl, q⟩
  | brk => obtain ⟨_, _, _, q⟩ := hs; exact False.elim q
  | cont => obtain ⟨_, _, _, q⟩ := hs; exact False.elim q
end
end L2

namespace L2
open PySem PySem.Spec PyProof.Rows
theorem make_guards {A : Around} {C : Addr} {us : List Value} {kw : List (Str × Value)} : (A.under (.builtin "type.__call__" ⟨.ref C :: us, kw⟩)).guards = A.guards := by
  first | rfl | simp [Around.under]
theorem deeper_guards {A : Around} {env : Env} : (A.deeper env).guards = A.guards := by
  first | rfl | simp [Around.deeper]
/-- an exception object of C is laid: its args, then itself -/
theorem exc_laid {X : Cx} {pins : List (Addr × Obj)} {σ : St} {G : Hp} {s0 : Shared} {args : List Value} {C : Addr} (J : Inv X pins σ G s0) :
    (∀ b o, s0.heap.get? b = some o → ((s0.heap.push (PySem.W.kdv_tup args)).push (PySem.HandSPX.excO C s0.heap.objs.size)).get? b = some o) ∧
    Inv X pins σ (upd G (s0.heap.objs.size + 1) (exo (s0.heap.objs.size + 1) C none)) { s0 with heap := (s0.heap.push (PySem.W.kdv_tup args)).push (PySem.HandSPX.excO C s0.heap.objs.size) } := by
  have stays : ∀ b o, s0.heap.get? b = some o → ((s0.heap.push (PySem.W.kdv_tup args)).push (PySem.HandSPX.excO C s0.heap.objs.size)).get? b = some o := fun b o z => Heap.get?_push_of_some _ (Heap.get?_push_of_some _ z)
  exact ⟨stays, J.laid (t' := s0.toks) (o := exo (s0.heap.objs.size + 1) C none) stays (Nat.le_succ _) (exo_ok (by heap_get))⟩
/-- C(e, ..): an own exception over ValueError, whose __init__ is told where no repr is under way -/
theorem pmk_oexG {X : Cx} {CX : CXT} {x : Str} {C g : Addr} {n : Nat} {fd : FuncData} {ps : List Str} {pr : Sp} {ds : List Value} {dvs : List V} {e : Expr} {es : List Expr} {ta : TA} {p pos : Pos} (cls : OexC X.K C) (init : PySem.W.findIn X.K (.ref C) "__init__" = some (some (.ref g))) (isfn : PySem.W.typeIn X.K (.ref g) = some (.type "function"))
    (F : FnG X.prog X.w X.K X.mg X.base CX n g fd ps pr) (quiet : X.A.guards = some []) (room : Room (n + 1) X.A) (bn : Binds X.K fd ps ds) (dv : Vals dvs ds) (pass : Passes CX X (fun _ _ _ => False)) (gl : Gl X x) (at_ : X.mg x = some (.ref C)) (args : PA X (e :: es) ta)
    (nd : (x == ("__debug__" : Str)) = false := by decide) (st : starEach (e :: es) X.env = (false, eval e X.env) :: starEach es X.env := by rfl) (pl : (backTo pos (starEach es X.env)).any (·.1) = false := by rfl) :
    PMk X (.Call (.Name x p) (e :: es) [] pos) (tMkO C pr dvs ta) := by
  intro pins s0 σ G W J w
  have vals := args.run pos pins s0 σ G _ J w
  refine wpAny_Call_Name_kw (ld_glob J gl at_ (PySem.W.callWith_K (h₀ := X.base) J.ok.mod.kin cls.kC (thn vals ?_) st pl) nd)
  rintro us ⟨hp, gens, dr, tk, os⟩ ⟨as, G1, J1, rel, few, wish⟩
  refine ⟨J1.kIn, ?_⟩
  show wpAny _ _ (PySem.call (.ref C) us) _ _ _
  obtain ⟨_, _, _, _, bm, _, _, _, _, _, _, _, _, _, _, look, tail⟩ := cls.cls
  obtain ⟨stays, J2⟩ := exc_laid (args := us) (C := C) J1
  have w1 := wish (hp.objs.size + 1) (J1.hok.fresh (Nat.le_succ hp.objs.size))
  have rel2 : Vals (V.ref (hp.objs.size + 1) :: (as ++ dvs)) (Value.ref (hp.objs.size + 1) :: (us ++ ds)) := .cons rfl (rel.append dv)
  have many : (Value.ref (hp.objs.size + 1) :: us ++ ds).length = ps.length := rel2.length.symm.trans (F.len _ _ _ _ w1)
  have run := F.run _ X.stack _ _ ⟨Value.ref (hp.objs.size + 1) :: us, []⟩ _ _ _ (fun _ _ _ => False) (make_guards.trans quiet) (room.make C us []) (J2.env0.make C us []) (bn _ (Value.ref (hp.objs.size + 1) :: us) J2.kIn many) rel2 w1
  have line : us.length ≤ sizeLine := Nat.le_trans (Nat.le_of_eq (Paired.length rel).symm) (Nat.le_trans few (by rw [sizeLine_eq]; decide))
  refine wpAny_call (PySem.HandSPX.call_own PySem.F.excBase_ValueError (fun Y => PySem.HandSPX.refsVE_contains Y bm tail) (J1.kIn _ _ look) (PySem.W.looks_findIn J1.kIn init) (fun self => PySem.W.bind_fn J1.kIn self isfn) line (codeAny_mono run ?_))
  rintro (er | fl) s3 z
  · exact pass pins σ _ _ er s3 J2 z
  · cases fl with
    | ret u =>
      obtain ⟨_, G3, same, bare, un, ok, none_, rfl, d, fs, at3, own, new, w3⟩ := z
      exact ⟨none_, mk_end (raises_own cls.exC cls.tyC) J1 (Nat.le_succ _) stays un ok same bare at3 own new w3⟩
    | _ => exact z.elim
end L2

/-! repr of lists whose elements have a __repr__ of their own. -/
namespace L2
open PySem PySem.Spec PyProof.Rows
theorem rl_depth {A : Around} {args : Args} : (A.under (.builtin "list.__repr__.loop" args)).depth ≤ A.depth + 1 := by
  first | exact Nat.le_of_eq rfl | simp [Around.under, Code.weight, Code.isCreation, Code.isGuard, Code.isCaller, Code.frames, Code.isFrame, guardIds]
theorem rl_units {A : Around} {args : Args} : (A.under (.builtin "list.__repr__.loop" args)).units ≤ A.units + 1 := by
  first | exact Nat.le_of_eq rfl | simp [Around.under, Code.cUnits, Code.frames, Code.isFrame]
theorem rl_frames {A : Around} {args : Args} : (A.under (.builtin "list.__repr__.loop" args)).frames = A.frames := by
  first | rfl | simp [Around.under, Code.envs, Code.isFrame, pushEnvs]
theorem rl_handled {A : Around} {args : Args} : (A.under (.builtin "list.__repr__.loop" args)).handled = A.handled := by
  first | rfl | simp [Around.under]
theorem Room.rl {k : Nat} {A : Around} (r : Room (k + 1) A) (args : Args) : Room k (A.under (.builtin "list.__repr__.loop" args)) :=
  ⟨by rw [rl_handled]; exact r.hd, by have := r.dp; have := @rl_depth A args; omega, by have := r.un; have := @rl_units A args; omega⟩
/-- v is shown as t, wherever there is room; J holds of the heap before and behind -/
def Sh (X : Cx) (k : Nat) (J : Hp → Prop) (v : V) (t : Str) : Prop :=
  ∀ (A' : Around) (pins : List (Addr × Obj)) (s : Shared) (σ : St) (H : Hp) (u : Value) (b : Nat) (E : Value → Shared → Prop) (Q : Str → Shared → Prop), A'.frames = some X.stack → Room k A' → Inv X pins σ H s → J H → RelV v u → b + t.length ≤ sizeLine →
    (∀ s' H', Inv X pins σ H' s' → J H' → Q t s') → wpAny (model X.prog X.w) A' (pyReprUnder b u) Q E s
theorem Sh.mono {X : Cx} {j k : Nat} {J : Hp → Prop} {v : V} {t : Str} (S : Sh X j J v t) (h : j ≤ k) : Sh X k J v t := fun A' pins s σ H u b E Q hf hr => S A' pins s σ H u b E Q hf (hr.mono h)
section
variable {X : Cx} {k : Nat} {J : Hp → Prop}
theorem sh_int {i : Int} (hi : i.natAbs.log2 < 1920) : Sh X k J (.int i) (toString i) := by
  intro A' pins s σ H u b E Q hf hr I j r hb q
  obtain ⟨t, rfl⟩ := r
  exact ReprIs.int t hi b hb A' E s Q fun tk => q _ H (I.tok tk) j
/-- an instance that has its own __repr__ -/
theorem sh_own {C g a : Addr} {sp : Sp} {t : Str} (hs : PySem.W.findIn X.K (.ref C) "__repr__" = some (some (.ref g))) (hf : PySem.W.isFn X.K (.ref g) = true) (F : FnR X.prog X.w X.K X.mg X.base CX0 k g sp)
    (hi : ∀ H, J H → ∃ dx fs, H a = some (.ins C dx fs)) (hsp : ∀ H, J H → sp [.ref a] H (fun r H' => r = .str t ∧ J H') E0) : Sh X k J (.ref a) t := by
  intro A' pins s σ H u b E Q hfr hr I j r hb q
  obtain rfl : u = Value.ref a := r
  obtain ⟨dx, fs, ha⟩ := hi H j
  obtain ⟨mA, M, _⟩ := ins_get I.hok ha
  obtain ⟨od, It, _⟩ := M.look
  refine wpAny_pyReprUnder_ref (by omega) ?_
  unfold pyReprObjUnder pyReprObjBy
  refine wpAny_bind (wpAny_cRoomFor hr.units0 ?_)
  refine wpAny_bind (wpAny_bind (It.type.here ((PySem.W.looks_findIn I.kIn hs).here ?_)))
  show wpAny _ _ (if (some (Value.ref g)).isNone = true then _ else _) _ _ _
  rw [if_neg (by simp)]
  have hcall : wpAny (model X.prog X.w) A' (call (.ref g) [.ref a]) (fun v s' => ∃ y tk, v = .str y tk ∧ Q y s') E s := by
    refine wpAny_call (codeAny_mono (F A' X.stack s H [.ref a] [.ref a] _ E0 hr ⟨hfr, I.env0.mod, I.env0.bs, I.env0.bsz, I.env0.funs, I.env0.frf, I.env0.hok, I.env0.bare⟩ (.cons rfl .nil) (hsp H j)) fun r s' hq => ?_)
    cases r with
    | error e => exact False.elim hq
    | ok fl =>
      cases fl with
      | ret u =>
        obtain ⟨v, H', I', rv, ev, j'⟩ := I.after hq
        subst ev
        obtain ⟨tk, rfl⟩ := rv
        exact ⟨t, tk, rfl, q _ _ I' j'⟩
      | next => exact False.elim hq
      | brk => exact False.elim hq
      | cont => exact False.elim hq
  refine wpAny_bind (m := callSpecialIfBoundBy? _ (.ref a) (Str.ofString "__repr__")) ?_
  simp only [callSpecialIfBoundBy?, bindSpecialIfBound?]
  refine wpAny_holding (wpAny_bind (wpAny_bind (wpAny_bind (It.type.here ((PySem.W.looks_findIn I.kIn hs).here ?_)))))
  refine wpAny_bind (wpAny_askSetting (wpAny_ite ?_))
  have fin : ∀ {Q' : Option Value → Shared → Prop}, (∀ y tk s', Q y s' → Q' (some (.str y tk)) s') → wpAny (model X.prog X.w) A' (call (.ref g) ([.ref a] ++ []) >>= fun v => pure (some v)) Q' E s := fun {Q'} hq => wpAny_bind (wpAny_mono hcall (fun v s' ⟨y, tk, e, h'⟩ => by subst e; exact wpAny_pure (hq y tk s' h')) fun _ _ h' => h')
  have fin2 : ∀ y tk s', Q y s' → wpAny (model X.prog X.w) A' (do if ← isInstance (.str y tk) (.type "str") then pure (Value.str y tk) else raiseError "TypeError" s!"__repr__ returned non-string (type {← typeNameOf (.str y tk)})") (fun v s' => ∃ x u, v = .str x u ∧ Q x s') E s' := fun y tk s' h => by
    refine wpAny_bind (wpAny_isInstance (T := "str") (b := true) rfl isSubtype_str_str ?_)
    exact wpAny_pure ⟨y, tk, rfl, h⟩
  split
  · exact wpAny_bind ((PySem.W.bind_fn I.kIn _ (beq_iff_eq.mp hf)).here (wpAny_pure (fin fin2)))
  · exact wpAny_tryCatch (wpAny_bind ((PySem.W.bind_fn I.kIn _ (beq_iff_eq.mp hf)).here (wpAny_pure (fin fin2))))
end
end L2

namespace L2
open PySem PySem.Spec PyProof.Rows
theorem in1_depth {A : Around} : A.in1.depth ≤ A.depth + 1 := by
  first | exact Nat.le_of_eq rfl | exact Nat.le_succ _ | simp [Around.in1]
theorem Room.in1' {k : Nat} {A : Around} (r : Room (k + 1) A) : Room k A.in1 :=
  ⟨r.hd, by have := r.dp; have := @in1_depth A; omega, by have := r.un; have e : A.in1.units = A.units + 1 := rfl; omega⟩
section
variable {X : Cx} {k : Nat} {J : Hp → Prop}
/-- repr(x), x an instance with its own __repr__ -/
theorem call_reprO {C g : Addr} {sp : Sp} {E : XK} (hs : PySem.W.findIn X.K (.ref C) "__repr__" = some (some (.ref g))) (hf : PySem.W.isFn X.K (.ref g) = true) (F : FnR X.prog X.w X.K X.mg X.base CX0 k g sp) (hr : Room (k + 1) X.A) :
    CallR X (.builtin "repr") (fun us H Q => ∃ a dx fs, us = [.ref a] ∧ H a = some (.ins C dx fs) ∧ sp [.ref a] H (fun v H' => ∃ t, v = .str t ∧ Q (.str t) H') E0) := by
  rintro pins s σ H _ us Q I r ⟨a, dx, fs, rfl, ha, q⟩
  rcases vals1 r with ⟨_, rfl, rfl⟩
  have M := (ins_get I.hok ha).choose_spec.1
  obtain ⟨od, It, _⟩ := M.look
  obtain ⟨m, hF⟩ := I.fr
  refine PySem.W.repr_K (by have := hr.un; show X.A.units + 1 < cLine; omega) hF I.ok.mod.kin It hs hf ?_
  have run := F X.A.in1 X.stack s H [.ref a] [.ref a] _ E0 hr.in1' I.env0.in1 (show Vals [V.ref a] [Value.ref a] from .cons rfl .nil) q
  refine wpAny_call (codeAny_mono run ?_)
  rintro (er | fl) s1 z
  · exact False.elim z
  · cases fl with
    | ret u =>
      obtain ⟨_, H1, J1, rv, t, rfl, w⟩ := I.after z
      obtain ⟨tk, rfl⟩ := rv
      exact ⟨.str t, H1, J1, ⟨tk, rfl⟩, w⟩
    | _ => exact False.elim z
end
end L2

/-! x op y, x == y, x != y, str(x): x an instance with own methods, y an instance, an int or a text. -/
namespace L2
open PySem PySem.Spec PyProof.Rows
section
variable {X : Cx} {k : Nat} {pins : List (Addr × Obj)} {σ : St} {H : Hp} {s : Shared}
theorem run_fnA {A' : Around} {f : Addr} {sp : Sp} {Q : VK} {us : List Value} {vs : List V} {E : Value → Shared → Prop} (F : FnR X.prog X.w X.K X.mg X.base CX0 k f sp) (hf : A'.frames = some X.stack) (hr : Room k A') (I : Inv X pins σ H s) (r : Vals vs us) (h : sp vs H Q E0) :
    wpAny (model X.prog X.w) A' (call (.ref f) us) (EP X pins σ Q) E s := by
  refine wpAny_call (codeAny_mono (F A' X.stack s H us vs Q E0 hr ⟨hf, I.env0.mod, I.env0.bs, I.env0.bsz, I.env0.funs, I.env0.frf, I.env0.hok, I.env0.bare⟩ r h) fun r s' hq => ?_)
  cases r with
  | error e => exact False.elim hq
  | ok fl =>
    cases fl with
    | ret u => exact I.after hq
    | next => exact False.elim hq
    | brk => exact False.elim hq
    | cont => exact False.elim hq
/-- the right side: an instance of C, an int, a text -/
inductive Side (C : Addr) (H : Hp) : V → Value → Prop where
  | ins {b dy : Addr} {gs : List (Str × V)} (h : H b = some (.ins C dy gs)) : Side C H (.ref b) (.ref C)
  | int (i : Int) : Side C H (.int i) (.type "int")
  | str (t : Str) : Side C H (.str t) (.type "str")
theorem Side.look {C : Addr} {y : V} {u tb : Value} (d : Side C H y tb) (I : Inv X pins σ H s) (r : RelV y u) : PySem.W.Looks (model X.prog X.w) s.heap (typeOf u) tb := by
  cases d with
  | ins h =>
    obtain rfl : u = Value.ref _ := r
    obtain ⟨mA, M, _⟩ := ins_get I.hok h
    obtain ⟨od, J, _⟩ := M.look
    exact J.type
  | int i =>
    obtain ⟨t, rfl⟩ := r
    exact PySem.W.Looks.of_pure rfl
  | str x =>
    obtain ⟨t, rfl⟩ := r
    exact PySem.W.Looks.of_pure rfl
/-- x op y, y an instance or an int -/
def rOwnM (C : Addr) (sp : Sp) : R2 := fun x y H Q => ∃ a dx fs, x = .ref a ∧ H a = some (.ins C dx fs) ∧ ((∃ b dy gs, y = .ref b ∧ H b = some (.ins C dy gs)) ∨ ∃ i, y = .int i) ∧ sp [x, y] H Q E0
theorem op_ownM {C g : Addr} {op : Operator} {sp : Sp} {fo ro : Option Value} (hc : PySem.W.selfFirst X.K C = true) (hs : PySem.W.findIn X.K (.ref C) (PySem.dunder op.info.2) = some (some (.ref g))) (hf : PySem.W.isFn X.K (.ref g) = true)
    (hr2 : PySem.W.findIn X.K (.ref C) (dunderR op.info.2) = some none) (h1 : PySem.W.findIn X.K (.type "int") (PySem.dunder op.info.2) = some fo) (h2 : PySem.W.findIn X.K (.type "int") (dunderR op.info.2) = some ro) (hsub : PySem.W.subIn X.K (.type "int") (.ref C) = some false)
    (F : FnR X.prog X.w X.K X.mg X.base CX0 k g sp) (hr : Room k X.A) : OpR X (binaryOp op) (rOwnM C sp) := by
  intro pins s σ H x y v u Q I rx ry h
  obtain ⟨a, dx, fs, rfl, ha, hy, q⟩ := h
  cases (show v = Value.ref a from rx)
  obtain ⟨mA, M, _⟩ := ins_get I.hok ha
  obtain ⟨od, J, _⟩ := M.look
  obtain ⟨m, hF⟩ := I.fr
  have run : wpAny (model X.prog X.w) X.A (call (.ref g) [.ref a, u]) (PySem.W.CmpBack (EP X pins σ Q)) X.xe s := by
    refine wpAny_mono (run_fnA (vs := [.ref a, y]) F I.ok.frames hr I (.cons rfl (.cons ry .nil)) q) (fun w s' z => ?_) fun _ _ x => x
    obtain ⟨z', H', I', rz, qz⟩ := z
    exact SlX.cmpback rz ⟨z', H', I', rz, qz⟩
  rcases hy with ⟨b, dy, gs, rfl, hb⟩ | ⟨i, rfl⟩
  · cases (show u = Value.ref b from ry)
    obtain ⟨mB, M', _⟩ := ins_get I.hok hb
    obtain ⟨od', J', _⟩ := M'.look
    exact PySem.W.binop_K hF I.ok.mod.kin J J'.type hc hs hf run
  · obtain ⟨t, rfl⟩ := ry
    exact PySem.W.ksp_binT (T := "int") hF I.ok.mod.kin J rfl hc hs hf hr2 (.inl rfl) h1 h2 hsub run
/-- what the own __eq__ is asked -/
def rOwnEq (C : Addr) (sp : Sp) (neg : Bool) : R2 := fun x y H Q => ∃ a dx fs tb, x = .ref a ∧ H a = some (.ins C dx fs) ∧ Side C H y tb ∧ sp [x, y] H (fun v H' => ∃ b, v = .bl b ∧ Q (.bl (xor neg b)) H') E0
theorem op_ownEq {C g : Addr} {sp : Sp} (hs : PySem.W.findIn X.K (.ref C) "__eq__" = some (some (.ref g))) (hf : PySem.W.isFn X.K (.ref g) = true) (hi : PySem.W.notFirst X.K C (.type "int") = true) (hst : PySem.W.notFirst X.K C (.type "str") = true)
    (F : FnR X.prog X.w X.K X.mg X.base CX0 k g sp) (hr : Room k X.A) : OpR X (compareOp .Eq) (rOwnEq C sp false) := by
  intro pins s σ H x y v u Q I rx ry h
  obtain ⟨a, dx, fs, tb, rfl, ha, hy, q⟩ := h
  cases (show v = Value.ref a from rx)
  obtain ⟨mA, M, _⟩ := ins_get I.hok ha
  obtain ⟨od, J, _⟩ := M.look
  obtain ⟨m, hF⟩ := I.fr
  have hn : PySem.W.notFirst X.K C tb = true := by
    cases hy with
    | ins _ => unfold PySem.W.notFirst; simp
    | int _ => exact hi
    | str _ => exact hst
  show wpAny _ _ (richCompare .Eq (.ref a) u) _ _ _
  refine PySem.W.cmp_K hr.units0 hF I.ok.mod.kin J (hy.look I ry) hn hs hf ?_
  refine wpAny_mono (run_fnA (vs := [.ref a, y]) F I.ok.frames hr I (.cons rfl (.cons ry .nil)) q) (fun w s' z => ?_) fun _ _ x => x
  obtain ⟨z', H', I', rz, b, rfl, qz⟩ := z
  obtain rfl : w = Value.bool b := rz
  exact ⟨.bl b, H', I', rfl, by rw [Bool.false_xor] at qz; exact qz⟩
theorem op_ownNe {C g : Addr} {sp : Sp} (hs : PySem.W.findIn X.K (.ref C) "__eq__" = some (some (.ref g))) (hf : PySem.W.isFn X.K (.ref g) = true) (hne : PySem.W.findIn X.K (.ref C) "__ne__" = some (some (.builtin "object.__ne__"))) (hm : PySem.W.mroIn X.K C (.type "object") = some true)
    (hi : PySem.W.notFirst X.K C (.type "int") = true) (hst : PySem.W.notFirst X.K C (.type "str") = true)
    (F : FnR X.prog X.w X.K X.mg X.base CX0 k g sp) (hr : Room (k + 1) X.A) : OpR X (compareOp .NotEq) (rOwnEq C sp true) := by
  intro pins s σ H x y v u Q I rx ry h
  obtain ⟨a, dx, fs, tb, rfl, ha, hy, q⟩ := h
  cases (show v = Value.ref a from rx)
  obtain ⟨mA, M, _⟩ := ins_get I.hok ha
  obtain ⟨od, J, _⟩ := M.look
  have hn : PySem.W.notFirst X.K C tb = true := by
    cases hy with
    | ins _ => unfold PySem.W.notFirst; simp
    | int _ => exact hi
    | str _ => exact hst
  have one : wpAny (model X.prog X.w) X.A (tryCompare (.ref a) "__ne__" u) (fun r s' => ∃ v, r = some v ∧ EP X pins σ Q v s') X.xe s := by
    unfold tryCompare
    have hc : wpAny (model X.prog X.w) X.A (call (.builtin "object.__ne__") [.ref a, u]) (fun v s' => ∃ b, v = .bool b ∧ EP X pins σ Q (.bool b) s') X.xe s := by
      refine wpAny_call (codeAny_call_builtin PySem.F.cmp_object.ne.plain PySem.F.cmpEntry_ne (PySem.W.check_slot PySem.F.cmpKind_ne PySem.F.cmpSplit_ne (J.type.andThen (PySem.W.looks_mroIn I.kIn hm)) (PySem.F.cmpArgs_ne _ _) ?_))
      unfold Builtin.«object.__ne__»
      refine wpAny_bind (m := slotArgs "__ne__" 1 _) (wpAny_pure ?_)
      refine wpAny_bind (m := cRoomFor _ _) (wpAny_cRoomFor (by have := hr.un; show X.A.units + 1 < cLine; omega) ?_)
      refine wpAny_bind (m := callSpecialIfBound? (.ref a) (Str.ofString "__eq__") [u]) (PySem.W.ifBound_K I.kIn J hs hf (wpAny_mono (run_fnA (A' := X.A.in1) (vs := [.ref a, y]) F I.ok.frames hr.in1 I (.cons rfl (.cons ry .nil)) q) (fun w s' z => ?_) fun _ _ x => x))
      obtain ⟨z', H', I', rz, b, rfl, qz⟩ := z
      obtain rfl : w = Value.bool b := rz
      refine wpAny_bind (m := truthy (.bool b)) (wpAny_truthy_bool (wpAny_pure ⟨_, rfl, .bl (!b), H', I', rfl, by rw [Bool.true_xor] at qz; exact qz⟩))
    refine wpAny_bind (m := callSpecialIfBound? (.ref a) (Str.ofString "__ne__") [u]) ?_
    simp only [callSpecialIfBound?, bindSpecialIfBound?]
    refine wpAny_holding (wpAny_bind (wpAny_bind (wpAny_bind (J.type.here ((PySem.W.looks_findIn I.kIn hne).here ?_)))))
    simp only [PySem.F.cmp_object.ne.bind]
    refine wpAny_bind (wpAny_askSetting (wpAny_ite ?_))
    have fin : ∀ {Q' : Option Value → Shared → Prop}, (∀ b s', EP X pins σ Q (.bool b) s' → Q' (some (.bool b)) s') → wpAny (model X.prog X.w) X.A (call (.builtin "object.__ne__") ([.ref a] ++ [u]) >>= fun v => pure (some v)) Q' X.xe s := fun {Q'} hq => wpAny_bind (wpAny_mono hc (fun v s' ⟨b, e, h'⟩ => by subst e; exact wpAny_pure (hq b s' h')) fun _ _ h' => h')
    split
    · exact wpAny_bind (wpAny_pure (wpAny_pure (fin fun b s' h' => wpAny_pure ⟨_, rfl, h'⟩)))
    · exact wpAny_tryCatch (wpAny_bind (wpAny_pure (wpAny_pure (fin fun b s' h' => wpAny_pure ⟨_, rfl, h'⟩))))
  have apart : (Value.ref C != tb) = true → PySem.W.subIn X.K tb (.ref C) = some false := fun z => by
    rcases Bool.or_eq_true_iff.mp hn with y | y
    · exact absurd (beq_iff_eq.mp y) (by intro e; rw [e] at z; simp at z)
    · exact beq_iff_eq.mp y
  show wpAny _ _ (richCompare .NotEq (.ref a) u) _ _ _
  simp only [richCompare, oneThing_ref, cmpInfo_NotEq]
  refine wpAny_holding (wpAny_bind (wpAny_cRoomFor hr.units0 (wpAny_bind (J.type.here (wpAny_bind ((hy.look I ry).here ?_))))))
  by_cases z : (Value.ref C != tb) = true
  · rw [if_pos z]
    exact wpAny_bind ((PySem.W.looks_subIn I.kIn (apart z)).here (wpAny_bind (wpAny_mono one (fun _ _ ⟨_, e, y⟩ => by subst e; exact wpAny_pure y) fun _ _ y => y)))
  · rw [if_neg z]
    first
      | exact wpAny_bind (wpAny_pure (wpAny_bind (wpAny_mono one (fun _ _ ⟨_, e, y⟩ => by subst e; exact wpAny_pure y) fun _ _ y => y)))
      | exact wpAny_bind (wpAny_mono one (fun _ _ ⟨_, e, y⟩ => by subst e; exact wpAny_pure y) fun _ _ y => y)
/-- str(x) by the own __str__ -/
theorem call_strO {C g : Addr} {sp : Sp} (hs : PySem.W.findIn X.K (.ref C) "__str__" = some (some (.ref g))) (hf : PySem.W.isFn X.K (.ref g) = true) (F : FnR X.prog X.w X.K X.mg X.base CX0 k g sp) (hr : Room (k + 2) X.A) :
    CallR X (.type "str") (fun us H Q => ∃ a dx fs, us = [.ref a] ∧ H a = some (.ins C dx fs) ∧ sp [.ref a] H (fun v H' => ∃ t, v = .str t ∧ Q (.str t) H') E0) := by
  rintro pins s σ H _ us Q I r ⟨a, dx, fs, rfl, ha, q⟩
  rcases vals1 r with ⟨_, rfl, rfl⟩
  have M := (ins_get I.hok ha).choose_spec.1
  obtain ⟨od, It, _⟩ := M.look
  refine PySem.W.kso_call (by have := hr.un; show X.A.units + 1 + 1 < cLine; omega) I.kIn It hs hf ?_
  refine wpAny_mono (run_fnA (A' := X.A.in1.in1) (vs := [.ref a]) F I.ok.frames hr.in1.in1 I (.cons rfl .nil) q) (fun w s' z => ?_) fun _ _ x => x
  obtain ⟨z', H', I', rz, t, rfl, qz⟩ := z
  obtain ⟨tk, rfl⟩ := rz
  exact ⟨.str t, H', I', ⟨tk, rfl⟩, qz⟩
end
end L2

/-! How values are shown, wherever a repr may be under way: B, the containers that must not be under way. -/
namespace L2
open PySem PySem.Spec PyProof.Rows
def Clr (g : List Code) (B : Addr → Prop) : Prop := ∀ c, B c → Clear g c
theorem Clr.nil (B : Addr → Prop) : Clr [] B := fun c _ => Clear.nil c
/-- v is shown as t: within a container, by !r, by repr(..); J holds of the heap before and behind -/
structure Sg (X : Cx) (k : Nat) (J : Hp → Prop) (B : Addr → Prop) (v : V) (t : Str) : Prop where
  under : ∀ (A' : Around) (g : List Code) (pins : List (Addr × Obj)) (s : Shared) (σ : St) (H : Hp) (u : Value) (b : Nat) (E : Value → Shared → Prop) (Q : Str → Shared → Prop), A'.frames = some X.stack → A'.guards = some g → Clr g B → Room k A' → Inv X pins σ H s → J H → RelV v u → b + t.length ≤ sizeLine →
    (∀ s' H', Inv X pins σ H' s' → J H' → Q t s') → wpAny (model X.prog X.w) A' (pyReprUnder b u) Q E s
  obj : ∀ (A' : Around) (g : List Code) (pins : List (Addr × Obj)) (s : Shared) (σ : St) (H : Hp) (u : Value) (E : Value → Shared → Prop) (Q : Value → Shared → Prop), A'.frames = some X.stack → A'.guards = some g → Clr g B → Room k A' → Inv X pins σ H s → J H → RelV v u → t.length ≤ sizeLine →
    (∀ s' H' tk, Inv X pins σ H' s' → J H' → Q (.str t tk) s') → wpAny (model X.prog X.w) A' (pyReprObj u) Q E s
  call : ∀ (A' : Around) (g : List Code) (pins : List (Addr × Obj)) (s : Shared) (σ : St) (H : Hp) (u : Value) (E : Value → Shared → Prop) (Q : Value → Shared → Prop), A'.frames = some X.stack → A'.guards = some g → Clr g B → Room (k + 1) A' → Inv X pins σ H s → J H → RelV v u → t.length ≤ sizeLine →
    (∀ s' H' tk, Inv X pins σ H' s' → J H' → Q (.str t tk) s') → wpAny (model X.prog X.w) A' (PySem.call (.builtin "repr") [u]) Q E s
theorem Sg.mono {X : Cx} {j k : Nat} {J : Hp → Prop} {B B' : Addr → Prop} {v : V} {t : Str} (S : Sg X j J B v t) (h : j ≤ k) (hB : ∀ b, B b → B' b) : Sg X k J B' v t :=
  ⟨fun A' g pins s σ H u b E Q hf hg hc hr => S.under A' g pins s σ H u b E Q hf hg (fun c hc' => hc c (hB c hc')) (hr.mono h), fun A' g pins s σ H u E Q hf hg hc hr => S.obj A' g pins s σ H u E Q hf hg (fun c hc' => hc c (hB c hc')) (hr.mono h),
   fun A' g pins s σ H u E Q hf hg hc hr => S.call A' g pins s σ H u E Q hf hg (fun c hc' => hc c (hB c hc')) (hr.mono (Nat.succ_le_succ h))⟩
section
variable {X : Cx} {k : Nat} {J : Hp → Prop} {B : Addr → Prop}
theorem sg_int {i : Int} (hi : i.natAbs.log2 < 1920) : Sg X k J B (.int i) (toString i) :=
  ⟨fun A' g pins s σ H u b E Q hf hg hc hr I j r hb q => by
    obtain ⟨t, rfl⟩ := r
    exact ReprIs.int t hi b hb A' E s Q fun tk => q _ H (I.tok tk) j,
  fun A' g pins s σ H u E Q hf hg hc hr I j r hb q => by
    obtain ⟨t, rfl⟩ := r
    exact pyReprObj_int hi (q _ H _ (I.tok _) j),
  fun A' g pins s σ H u E Q hf hg hc hr I j r hb q => by
    obtain ⟨t, rfl⟩ := r
    exact PySem.P.repr_of_int hi (q _ H _ (I.tok _) j)⟩
theorem sg_str {x : Str} (hx : (reprText x).length ≤ sizeLine) : Sg X k J B (.str x) (reprText x) :=
  ⟨fun A' g pins s σ H u b E Q hf hg hc hr I j r hb q => by
    obtain ⟨t, rfl⟩ := r
    exact ReprIs.str x t hx b hb A' E s Q fun tk => q _ H (I.tok tk) j,
  fun A' g pins s σ H u E Q hf hg hc hr I j r hb q => by
    obtain ⟨t, rfl⟩ := r
    exact pyReprObj_str (q _ H _ (I.tok _) j) hx,
  fun A' g pins s σ H u E Q hf hg hc hr I j r hb q => by
    obtain ⟨t, rfl⟩ := r
    exact PySem.P.repr_of_str (q _ H _ (I.tok _) j) hx⟩
theorem sg_bl {x : Bool} : Sg X k J B (.bl x) (if x then "True" else "False") :=
  ⟨fun A' g pins s σ H u b E Q hf hg hc hr I j r hb q => by
    obtain rfl : u = Value.bool x := r
    exact ReprIs.bool x b hb A' E s Q fun tk => q _ H (I.tok tk) j,
  fun A' g pins s σ H u E Q hf hg hc hr I j r hb q => by
    obtain rfl : u = Value.bool x := r
    exact pyReprObj_bool (q _ H _ (I.tok _) j),
  fun A' g pins s σ H u E Q hf hg hc hr I j r hb q => by
    obtain rfl : u = Value.bool x := r
    exact PySem.P.repr_of_bool (q _ H _ (I.tok _) j)⟩
theorem sg_non : Sg X k J B .non "None" :=
  ⟨fun A' g pins s σ H u b E Q hf hg hc hr I j r hb q => by
    obtain rfl : u = Value.none := r
    exact ReprIs.none b hb A' E s Q fun tk => q _ H (I.tok tk) j,
  fun A' g pins s σ H u E Q hf hg hc hr I j r hb q => by
    obtain rfl : u = Value.none := r
    exact pyReprObj_none (q _ H _ (I.tok _) j),
  fun A' g pins s σ H u E Q hf hg hc hr I j r hb q => by
    obtain rfl : u = Value.none := r
    exact PySem.P.repr_of_none (q _ H _ (I.tok _) j)⟩
/-- the empty list -/
theorem sg_nil {a : Addr} (hJ : ∀ H, J H → H a = some (.lst [])) : Sg X k J B (.ref a) "[]" :=
  ⟨fun A' g pins s σ H u b E Q hf hg hc hr I j r hb q => by
    obtain rfl : u = Value.ref a := r
    obtain ⟨_, its, nn, rv, ha⟩ := (show ObjOk X.prog X.w H s.heap a (.lst []) from I.hok a _ (hJ H j))
    cases rv
    exact wpAny_pyReprUnder_ref (by omega) (wpAny_pyReprObjUnder_list_empty ⟨_, ha, rfl⟩ hr.units0 ha rfl ⟨_, _, rfl, q _ H (I.tok _) j⟩),
  fun A' g pins s σ H u E Q hf hg hc hr I j r hb q => by
    obtain rfl : u = Value.ref a := r
    obtain ⟨_, its, nn, rv, ha⟩ := (show ObjOk X.prog X.w H s.heap a (.lst []) from I.hok a _ (hJ H j))
    cases rv
    exact wpAny_pyReprObj_list_empty ⟨_, ha, rfl⟩ hr.units0 ha rfl (q _ H _ (I.tok _) j),
  fun A' g pins s σ H u E Q hf hg hc hr I j r hb q => by
    obtain rfl : u = Value.ref a := r
    obtain ⟨_, its, nn, rv, ha⟩ := (show ObjOk X.prog X.w H s.heap a (.lst []) from I.hok a _ (hJ H j))
    cases rv
    exact call_repr_slot (by have := hr.un; omega) ⟨_, ha, rfl⟩ F.slot_list_repr.toG (call_list_repr_empty ⟨_, ha, rfl⟩ ha rfl ⟨_, _, rfl, q _ H _ (I.tok _) j⟩)⟩
end
end L2

namespace L2
open PySem PySem.Spec PyProof.Rows
abbrev lobj (acc : Array Value) (c : Nat) : Obj := { cls := .type "list", dict := none, data := .seq acc c, slots := #[] }
/-- a shown list bounds its length and its items' texts -/
theorem shown_in_line {xs : List V} {ts : List Str} (same : ts.length = xs.length) (fits : (listText ts).length ≤ sizeLine) : xs.length ≤ sizeLine ∧ ∀ t ∈ ts, t.length ≤ sizeLine := by
  obtain ⟨all, each, _⟩ := textFrom_len ts 0 "["
  have whole : (listText ts).length = (textFrom 0 "[" ts).length + 1 := strLen_append _ _
  have none_ : ¬ (0 : Nat) > 0 := by decide
  simp only [none_, if_false] at all
  exact ⟨by omega, fun t ht => Nat.le_trans (each t ht) (by omega)⟩
section
variable {X : Cx} {k : Nat} {J : Hp → Prop} {B : Addr → Prop}
theorem rg_run {A : Around} {g : List Code} {R : Result → Shared → Prop} {a P : Addr} {xs : List V} {ts : List Str} {b : Nat} {pins : List (Addr × Obj)} {σ : St} (hfr : A.frames = some X.stack) (hg : A.guards = some g) (hcl : Clr g B) (hna : ¬ B a) (hr : Room (k + 1) A) (hJ : ∀ H, J H → H a = some (.lst xs))
    (hlen : ts.length = xs.length) (hT : ∀ (i : Nat) (v : V), xs[i]? = some v → ∃ t, ts[i]? = some t ∧ Sg X k J B v t) (hsz : b + (listText ts).length ≤ sizeLine)
    (hP1 : X.s_0.heap.objs.size ≤ P) (hP2 : ∀ p ∈ X.pn ++ pins, p.1 ≠ P)
    (hR : ∀ s' H' u, Inv X pins σ H' s' → J H' → R (.ok (.ret (.str (listText ts) u))) s') :
    ∀ (n i : Nat) (s : Shared) (H : Hp) (acc : Array Value) (c : Nat) (done : List (Str × Tok)), xs.length - i = n → i ≤ xs.length → Inv X ((P, lobj acc c) :: pins) σ H s → J H → acc.toList = strValues done → done.map (·.1) = ts.take i →
    codeAny (model X.prog X.w) A (.builtin "list.__repr__.loop" ⟨[.ref a, rawInt i, .ref P, rawInt ((b + piled (ts.take i) : Nat) : Int)], []⟩) R s := by
  obtain ⟨hsz1, hsz2⟩ := shown_in_line hlen (Nat.le_trans (Nat.le_add_left _ _) hsz)
  have hsz3 : (listText ts).length ≤ sizeLine := by omega
  have hp3 := piled_le_listText ts
  have drop : ∀ {acc : Array Value} {c : Nat} {H : Hp} {s : Shared}, Inv X ((P, lobj acc c) :: pins) σ H s → Inv X pins σ H s := fun I => I.pins_of fun p hp => I.pin p (List.mem_append_right _ (List.mem_cons_of_mem _ hp))
  intro n
  induction n with
  | zero =>
    intro i s H acc c done hk hi I j hacc hdone
    have hin : i = xs.length := by omega
    obtain ⟨_, its, nn, rv, ha⟩ := (show ObjOk X.prog X.w H s.heap a (.lst xs) from I.hok a _ (hJ H j))
    have hlv := rv.length
    obtain ⟨hPo, hPn, hPl, hPf, _⟩ := I.pin (P, lobj acc c) (List.mem_append_right _ List.mem_cons_self)
    refine codeAny_builtin F.entry_list_repr_loop ?_
    show wpAny _ _ (Builtin.«list.__repr__.loop» ⟨[.ref a, .int i 0, .ref P, .int ((b + piled (ts.take i) : Nat) : Int) 0], []⟩) _ _ s
    rw [repr_loop_tree]
    refine wpAny_bind (wpAny_listItems ha rfl ?_)
    have over : its.toArray[(i : Int).toNat]? = none := by simp [hin, hlv]
    have whole : done.map (·.1) = ts := by simpa [hin, ← hlen] using hdone
    rw [over]
    dsimp only
    unfold reprEnd
    exact wpAny_bind (wpAny_listItems hPo rfl (by rw [hacc, repr_fold, whole]; exact wpAny_bind (wpAny_pure (wpAny_bind (wpAny_mkStr (wpAny_pure (hR _ H _ ((drop I).tok _) j)) hsz3)))))
  | succ n ih =>
    intro i s H acc c done hk hi I j hacc hdone
    have hlt : i < xs.length := by omega
    obtain ⟨_, its, nn, rv, ha⟩ := (show ObjOk X.prog X.w H s.heap a (.lst xs) from I.hok a _ (hJ H j))
    have hlv := rv.length
    obtain ⟨t, ht, hrep⟩ := hT i xs[i] (by simp [hlt])
    obtain ⟨u, hu, ru⟩ := rv.get (show xs[i]? = some xs[i] by simp [hlt])
    have grown := And.intro (piled_take_succ ht) (piled_take_le ts (i + 1))
    obtain ⟨hp1, hp2⟩ := grown
    have here : its.toArray[(i : Int).toNat]? = some u := by simpa using hu
    refine codeAny_builtin F.entry_list_repr_loop ?_
    change wpAny _ _ (Builtin.«list.__repr__.loop» ⟨[.ref a, .int i 0, .ref P, .int ((b + piled (ts.take i) : Nat) : Int) 0], []⟩) _ _ s
    rw [repr_loop_tree]
    refine wpAny_bind (wpAny_listItems ha rfl ?_)
    rw [here, Int.toNat_natCast]
    dsimp only
    refine wpAny_bind (wpAny_holding (hrep.under _ _ ((P, lobj acc c) :: pins) s σ H u (b + piled (ts.take i) + 1) _ _ (by rw [rl_frames]; exact hfr) (guards_under_guard (isGuard_list_loop _) hg) (fun c hc => (hcl c hc).cons (a := a) fun e => hna (e ▸ hc)) (hr.rl _) I j ru (by omega) fun s1 H1 I1 j1 => ?_))
    have short := hsz2 t (List.mem_of_getElem? ht)
    refine wpAny_bind (wpAny_mkStr (wpAny_bind ?_) short)
    change wpAny _ _ (updateSeq P _) _ _ _
    have hasz : acc.size ≤ sizeLine := by
      have gathered := congrArg List.length hacc
      have told := congrArg List.length hdone
      simp only [strValues, List.length_map, List.length_take, Array.length_toList] at gathered told
      omega
    obtain ⟨hPo, hPn, hPl, hPf, _⟩ := I1.pin (P, lobj acc c) (List.mem_append_right _ List.mem_cons_self)
    refine wpAny_updateSeq hPo rfl (wpAny_pure ⟨F.quiet_list_repr_loop _, ?_⟩) hasz
    rw [show ((i : Int) + 1) = ((i + 1 : Nat) : Int) by omega, show b + piled (ts.take i) + (t.length + 2) = b + piled (ts.take (i + 1)) by omega]
    obtain ⟨c', hself⟩ : ∃ c', (s1.heap.update P (Obj.mapSeq (·.push (.str t s1.toks)))).get? P = some (lobj (acc.push (.str t s1.toks)) c') := ⟨_, Heap.get?_update_self _ hPo rfl⟩
    refine ih (i + 1) _ H1 (acc.push (.str t s1.toks)) c' (done ++ [(t, s1.toks)]) (by omega) hlt ?_ j1 (by simp [hacc, strValues]) (by simp [List.take_add_one, ht, hdone])
    refine Inv.pins_of (pins := pins) ?_ fun p hp => ?_
    · refine ((drop I1).tok (s1.toks + 1)).turned (it := P) (t' := s1.toks + 1) (fun b o hb e => (Heap.get?_update_other _ _ (fun h : P = b => hb h.symm)).trans e) hPn hPl (.inr hP1) (fun x c' hc z => ?_) hP2
      obtain ⟨v, o, ho, hd⟩ := I1.cell x c' hc
      rw [z, hPo] at ho
      cases ho
      cases hd
    · rcases List.mem_cons.mp hp with rfl | hp
      · exact ⟨hself, hPn, hPl, hPf, fun v z => by cases z⟩
      · obtain ⟨q1, q2, q3, q4, q5⟩ := I1.pin p (List.mem_append_right _ (List.mem_cons_of_mem _ hp))
        exact ⟨(Heap.get?_update_other _ _ (fun h : P = p.1 => hP2 p (List.mem_append_right _ hp) h.symm)).trans q1, q2, q3, q4, q5⟩
/-- what listReprAt does -/
theorem rg_at {A : Around} {g : List Code} {R : Result → Shared → Prop} {a : Addr} {xs : List V} {ts : List Str} {b : Nat} {pins : List (Addr × Obj)} {σ : St} {s : Shared} {H : Hp} (hfr : A.frames = some X.stack) (hg : A.guards = some g) (hcl : Clr g fun c => c = a ∨ B c) (hna : ¬ B a) (hr : Room (k + 1) A) (I : Inv X pins σ H s) (j : J H) (hJ : ∀ H, J H → H a = some (.lst xs)) (hne : xs ≠ [])
    (hlen : ts.length = xs.length) (hT : ∀ (i : Nat) (v : V), xs[i]? = some v → ∃ t, ts[i]? = some t ∧ Sg X k J B v t) (hsz : b + (listText ts).length ≤ sizeLine)
    (hR : ∀ s' H' u, Inv X pins σ H' s' → J H' → R (.ok (.ret (.str (listText ts) u))) s') :
    wpAny (model X.prog X.w) A.in1 (Builtin.listReprAt b ⟨[.ref a], []⟩) (fun fin s' => match fin with | .done f => R (.ok f) s' | .again c' => c'.quiet = true ∧ codeAny (model X.prog X.w) A c' R s') (fun e s' => R (.error e) s') s := by
  obtain ⟨_, its, nn, rv, ha⟩ := (show ObjOk X.prog X.w H s.heap a (.lst xs) from I.hok a _ (hJ H j))
  cases its with
  | nil =>
    cases rv
    exact absurd rfl hne
  | cons x l =>
    have hca : Clear g a := hcl a (.inl rfl)
    refine wpAny_list_repr_head (A := A.in1) (g := g) hg (fun v rest kw hm => listSameRef_of_ne (hca _ _ _ _ hm)) ha rfl ?_
    refine wpAny_bind (m := newList []) (wpAny_newObj_type ?_)
    refine wpAny_pure ⟨F.quiet_list_repr_loop _, ?_⟩
    have kk : ∀ b o, s.heap.get? b = some o → (s.heap.push (lobj #[] 0)).get? b = some o := fun b o e => Heap.get?_push_of_some _ e
    have I1 : Inv X pins σ H { s with heap := s.heap.push (lobj #[] 0), toks := s.toks } := I.kept (t' := s.toks) kk
    have hget : (s.heap.push (lobj #[] 0)).get? s.heap.objs.size = some (lobj #[] 0) := Heap.get?_push_size _ rfl
    have nP : ∀ p ∈ X.pn ++ pins, p.1 ≠ s.heap.objs.size := fun p hp => Nat.ne_of_lt (Heap.lt_size (I.pin p hp).1)
    have I2 : Inv X ((s.heap.objs.size, lobj #[] 0) :: pins) σ H { s with heap := s.heap.push (lobj #[] 0), toks := s.toks } := I1.pins_of fun p hp => by
      rcases List.mem_cons.mp hp with rfl | hp
      · exact ⟨hget, I.hok.fresh (Nat.le_refl _), Nat.ne_of_gt I.lt, I.nofs (Nat.le_refl _), fun v z => by cases z⟩
      · exact I1.pin p (List.mem_append_right _ hp)
    exact rg_run (A := A) (R := R) (b := b) (σ := σ) (pins := pins) hfr hg (fun c hc => hcl c (.inr hc)) hna hr hJ hlen hT hsz I.sz nP hR xs.length 0 _ H #[] 0 [] (by omega) (Nat.zero_le _) I2 j rfl rfl
theorem rg_call {A : Around} {g : List Code} {E : Value → Shared → Prop} {Q : Value → Shared → Prop} {a : Addr} {xs : List V} {ts : List Str} {pins : List (Addr × Obj)} {σ : St} {s : Shared} {H : Hp} (hfr : A.frames = some X.stack) (hg : A.guards = some g) (hcl : Clr g fun c => c = a ∨ B c) (hna : ¬ B a) (hr : Room (k + 1) A) (I : Inv X pins σ H s) (j : J H) (hJ : ∀ H, J H → H a = some (.lst xs)) (hne : xs ≠ [])
    (hlen : ts.length = xs.length) (hT : ∀ (i : Nat) (v : V), xs[i]? = some v → ∃ t, ts[i]? = some t ∧ Sg X k J B v t) (hsz : (listText ts).length ≤ sizeLine)
    (hR : ∀ s' H' u, Inv X pins σ H' s' → J H' → Q (.str (listText ts) u) s') : wpAny (model X.prog X.w) A (call (.builtin "list.__repr__") [.ref a]) Q E s := by
  obtain ⟨_, its, nn, rv, ha⟩ := (show ObjOk X.prog X.w H s.heap a (.lst xs) from I.hok a _ (hJ H j))
  exact wpAny_call (codeAny_call_builtin F.slot_list_repr.plain F.entry_list_repr (F.slot_list_repr.check _ _ _ _ _ _ _ _ ⟨_, ha, rfl⟩ (F.args_list_repr_1 _)
    (rg_at (R := callEnd Q E) (b := 0) hfr hg hcl hna hr I j hJ hne hlen hT (by omega) hR)))
/-- a list -/
theorem sg_list {a : Addr} {xs : List V} {ts : List Str} (hJ : ∀ H, J H → H a = some (.lst xs)) (hne : xs ≠ []) (hna : ¬ B a) (hlen : ts.length = xs.length) (hT : ∀ (i : Nat) (v : V), xs[i]? = some v → ∃ t, ts[i]? = some t ∧ Sg X k J B v t) :
    Sg X (k + 1) J (fun c => c = a ∨ B c) (.ref a) (listText ts) :=
  ⟨fun A' g pins s σ H u b E Q hf hg hc hr I j r hb q => by
    obtain rfl : u = Value.ref a := r
    obtain ⟨_, its, nn, rv, ha⟩ := (show ObjOk X.prog X.w H s.heap a (.lst xs) from I.hok a _ (hJ H j))
    refine wpAny_pyReprUnder_ref (by omega) (wpAny_pyReprObjUnder_twin (twin := "list.__repr__.under") ⟨_, ha, rfl⟩ F.slot_list_repr.toG rfl hr.units0 ?_)
    exact call_twin_plain F.plain_list_repr_under F.entry_list_repr_under F.check_list_repr_under ⟨_, ha, rfl⟩ F.slot_list_repr.toG (F.args_list_repr_1 _)
      (rg_at (R := callEnd _ E) (b := b) hf hg hc hna hr I j hJ hne hlen hT hb fun s' H' u I' j' => ⟨⟨_, _, rfl⟩, _, _, rfl, q s' H' I' j'⟩),
  fun A' g pins s σ H u E Q hf hg hc hr I j r hb q => by
    obtain rfl : u = Value.ref a := r
    obtain ⟨_, its, nn, rv, ha⟩ := (show ObjOk X.prog X.w H s.heap a (.lst xs) from I.hok a _ (hJ H j))
    have hTy : s.TypeIs (.ref a) "list" := ⟨_, ha, rfl⟩
    unfold pyReprObj
    refine wpAny_bind (wpAny_cRoomFor hr.units0 ?_)
    refine wpAny_bind (wpAny_specialOf (name := Str.ofString "__repr__") hTy F.slot_list_repr.lookup ?_)
    refine wpAny_bind (m := callSpecialIfBound? (.ref a) (Str.ofString "__repr__")) (wpAny_callSpecialIfBound?_slot (name := Str.ofString "__repr__") hTy F.slot_list_repr ?_)
    refine rg_call hf hg hc hna hr I j hJ hne hlen hT hb fun s' H' u I' j' => ?_
    exact wpAny_bind (wpAny_isInstance (T := "str") (b := true) rfl isSubtype_str_str (wpAny_pure (q s' H' u I' j'))),
  fun A' g pins s σ H u E Q hf hg hc hr I j r hb q => by
    obtain rfl : u = Value.ref a := r
    obtain ⟨_, its, nn, rv, ha⟩ := (show ObjOk X.prog X.w H s.heap a (.lst xs) from I.hok a _ (hJ H j))
    refine call_repr_slot (by have := hr.un; omega) ⟨_, ha, rfl⟩ F.slot_list_repr.toG ?_
    exact rg_call (A := A'.in1) hf hg hc hna hr.in1' I j hJ hne hlen hT hb fun s' H' u I' j' => ⟨_, _, rfl, q s' H' u I' j'⟩⟩
end
end L2

namespace L2
open PySem PySem.Spec PyProof.Rows PySem.Builtin
inductive SgAll (X : Cx) (k : Nat) (J : Hp → Prop) (B : Addr → Prop) : List V → List Str → Prop
  | nil : SgAll X k J B [] []
  | cons {v : V} {t : Str} {vs : List V} {ts : List Str} : Sg X k J B v t → SgAll X k J B vs ts → SgAll X k J B (v :: vs) (t :: ts)
theorem SgAll.length {X : Cx} {k : Nat} {J : Hp → Prop} {B : Addr → Prop} : ∀ {vs : List V} {ts : List Str}, SgAll X k J B vs ts → ts.length = vs.length
  | _, _, .nil => rfl
  | _, _, .cons _ h => by simp [h.length]
theorem SgAll.at_ {X : Cx} {k : Nat} {J : Hp → Prop} {B : Addr → Prop} : ∀ {vs : List V} {ts : List Str}, SgAll X k J B vs ts → ∀ (i : Nat) (v : V), vs[i]? = some v → ∃ t, ts[i]? = some t ∧ Sg X k J B v t
  | _, _, .nil, i, v, h => by simp at h
  | _, _, .cons h r, 0, v, e => by
    obtain rfl := Option.some.inj e
    exact ⟨_, rfl, h⟩
  | _, _, .cons h r, i + 1, v, e => r.at_ i v (by simpa using e)
theorem SgAll.mono {X : Cx} {j k : Nat} {J : Hp → Prop} {B B' : Addr → Prop} (h : j ≤ k) (hB : ∀ b, B b → B' b) : ∀ {vs : List V} {ts : List Str}, SgAll X j J B vs ts → SgAll X k J B' vs ts
  | _, _, .nil => .nil
  | _, _, .cons a r => .cons (a.mono h hB) (r.mono h hB)
theorem tr_depth {A : Around} {args : Args} : (A.under (.builtin "tuple.__repr__" args)).depth ≤ A.depth + 1 := by
  first | exact Nat.le_of_eq rfl | simp [Around.under, Code.weight, Code.isCreation, Code.isGuard, Code.isCaller, Code.frames, Code.isFrame, guardIds]
theorem tr_frames {A : Around} {args : Args} : (A.under (.builtin "tuple.__repr__" args)).frames = A.frames := by
  first | rfl | simp [Around.under, Code.envs, Code.isFrame, pushEnvs]
theorem tr_handled {A : Around} {args : Args} : (A.under (.builtin "tuple.__repr__" args)).handled = A.handled := by
  first | rfl | simp [Around.under]
theorem tu_depth {A : Around} {args : Args} : (A.under (.builtin "tuple.__repr__.under" args)).depth ≤ A.depth + 1 := by
  first | exact Nat.le_of_eq rfl | simp [Around.under, Code.weight, Code.isCreation, Code.isGuard, Code.isCaller, Code.frames, Code.isFrame, guardIds]
theorem tu_frames {A : Around} {args : Args} : (A.under (.builtin "tuple.__repr__.under" args)).frames = A.frames := by
  first | rfl | simp [Around.under, Code.envs, Code.isFrame, pushEnvs]
theorem tu_handled {A : Around} {args : Args} : (A.under (.builtin "tuple.__repr__.under" args)).handled = A.handled := by
  first | rfl | simp [Around.under]
theorem Room.tr {k : Nat} {A : Around} (r : Room (k + 1) A) (args : Args) : Room k (A.under (.builtin "tuple.__repr__" args)) :=
  ⟨by rw [tr_handled]; exact r.hd, by have := r.dp; have := @tr_depth A args; omega, by have := r.un; have := units_under_tuple_repr A args; omega⟩
theorem Room.tu {k : Nat} {A : Around} (r : Room (k + 1) A) (args : Args) : Room k (A.under (.builtin "tuple.__repr__.under" args)) :=
  ⟨by rw [tu_handled]; exact r.hd, by have := r.dp; have := @tu_depth A args; omega, by have := r.un; have := units_under_tuple_repr_under A args; omega⟩
section
variable {X : Cx} {k : Nat} {J : Hp → Prop} {B : Addr → Prop}
theorem tg_fold {A : Around} {g : List Code} {E : Value → Shared → Prop} {pins : List (Addr × Obj)} {σ : St} (hfr : A.frames = some X.stack) (hg : A.guards = some g) (hcl : Clr g B) (hr : Room k A) :
    ∀ (vs : List V) (us : List Value) (ts : List Str) (acc : Array Str) (n : Nat) (s : Shared) (H : Hp) (Q : (Array Str × Nat) → Shared → Prop), Vals vs us → SgAll X k J B vs ts → n + piled ts ≤ sizeLine → Inv X pins σ H s → J H →
    (∀ s' H', Inv X pins σ H' s' → J H' → Q ⟨acc ++ ts.toArray, n + piled ts⟩ s') → wpAny (model X.prog X.w) A (forIn us (⟨acc, n⟩ : (Array Str × Nat)) tupBody) Q E s := by
  intro vs
  induction vs with
  | nil =>
    intro us ts acc n s H Q rv hT _ I j h
    cases rv
    cases hT
    have h0 := h s H I j
    simp only [List.forIn_nil]
    exact wpAny_pure (by simpa [piled] using h0)
  | cons x l ih =>
    intro us ts acc n s H Q rv hT hn I j h
    cases rv with
    | cons r rr =>
      cases hT with
      | cons hx hl =>
        rename_i t ts'
        rw [piled_cons] at hn
        rw [List.forIn_cons]
        refine wpAny_bind (wpAny_bind (hx.under _ _ pins s σ H _ (n + 1) _ _ hfr hg hcl hr I j r (by omega) fun s1 H1 I1 j1 => wpAny_pure ?_))
        refine ih _ ts' (acc.push t) (n + (t.length + 2)) _ H1 Q rr hl (by omega) I1 j1 fun s2 H2 I2 j2 => ?_
        have h1 := h s2 H2 I2 j2
        have e : n + piled (t :: ts') = n + (t.length + 2) + piled ts' := by rw [piled_cons]; omega
        rw [e] at h1
        simpa using h1
theorem tg_at {A : Around} {g : List Code} {R : Result → Shared → Prop} {a : Addr} {xs : List V} {ts : List Str} {b : Nat} {pins : List (Addr × Obj)} {σ : St} {s : Shared} {H : Hp} {id : String} {rest : List Value}
    (hcg : (Code.builtin id ⟨.ref a :: rest, []⟩).isGuard = true) (hru : Room k (A.under (.builtin id ⟨.ref a :: rest, []⟩))) (hfu : (A.under (.builtin id ⟨.ref a :: rest, []⟩)).frames = some X.stack) (hg : A.guards = some g) (hcl : Clr g fun c => c = a ∨ B c) (hna : ¬ B a) (I : Inv X pins σ H s) (j : J H) (hJ : ∀ H, J H → H a = some (.tup xs))
    (hT : SgAll X k J B xs ts) (hsz : b + (tupleText ts).length ≤ sizeLine) (hR : ∀ s' H' u, Inv X pins σ H' s' → J H' → R (.ok (.ret (.str (tupleText ts) u))) s') :
    wpOwn (model X.prog X.w) A (.builtin id ⟨.ref a :: rest, []⟩) (Builtin.tupleReprAt b ⟨[.ref a], []⟩) (fun fin s' => match fin with | .done f => R (.ok f) s' | .again c' => c'.quiet = true ∧ codeAny (model X.prog X.w) A c' R s') (fun e s' => R (.error e) s') s := by
  obtain ⟨_, its, rv, ob, ha, hc, hd⟩ := (show ObjOk X.prog X.w H s.heap a (.tup xs) from I.hok a _ (hJ H j))
  obtain ⟨n, hd⟩ := hd
  have hca : Clear g a := hcl a (.inl rfl)
  have hlen : ts.length = its.toArray.size := by rw [hT.length, rv.length]; simp
  have hp := piled_le_tupleText ts
  have hsz0 := Nat.le_trans (Nat.le_add_left (tupleText ts).length b) hsz
  rw [tuple_repr_tree, tupleReprUnderWay_eq]
  refine wpOwn_bind (wpOwn_stackTailAny hg (tupGuardF_off _) (tupGuardF_pos _) ?_)
  have away : (g.any fun c => tupGuardF (.ref a) (c, default)) = false := List.any_eq_false.mpr fun c hcm => by simp [tupGuardF_of_clear hca c hcm]
  rw [away]
  refine wpOwn_of_wpAny ?_
  show wpAny _ _ (tupleReprRest b (.ref a)) _ _ s
  unfold tupleReprRest Builtin.Tuple.tupleItemsOf
  refine wpAny_bind (wpAny_bind (wpAny_seqItems ha hd (wpAny_pure ?_)))
  rw [← Array.forIn_toList]
  refine wpAny_bind (tg_fold (pins := pins) (σ := σ) hfu (guards_under_guard hcg hg) (fun c hc => (hcl c (.inr hc)).cons (a := a) fun e => hna (e ▸ hc)) hru xs _ ts _ _ _ H _ rv hT (by omega) I j fun s1 H1 I1 j1 => ?_)
  refine wpAny_bind (wpAny_mkStr (wpAny_pure ?_) (by simpa [tupleText, hlen] using hsz0))
  have h1 := hR { s1 with toks := s1.toks + 1 } H1 s1.toks (I1.tok _) j1
  simpa [tupleText, hlen] using h1
end
end L2

namespace L2
open PySem PySem.Spec PyProof.Rows PySem.Builtin
section
variable {X : Cx} {k : Nat} {J : Hp → Prop} {B : Addr → Prop}
/-- a tuple -/
theorem sg_tup {a : Addr} {xs : List V} {ts : List Str} (hJ : ∀ H, J H → H a = some (.tup xs)) (hna : ¬ B a) (hT : SgAll X k J B xs ts) : Sg X (k + 1) J (fun c => c = a ∨ B c) (.ref a) (tupleText ts) :=
  ⟨fun A' g pins s σ H u b E Q hf hg hc hr I j r hb q => by
    obtain rfl : u = Value.ref a := r
    obtain ⟨_, its, rv, ob, ha, hcl, hd⟩ := (show ObjOk X.prog X.w H s.heap a (.tup xs) from I.hok a _ (hJ H j))
    refine wpAny_pyReprUnder_ref (by omega) (wpAny_pyReprObjUnder_twin (twin := "tuple.__repr__.under") ⟨_, ha, hcl⟩ F.slot_tuple_repr rfl hr.units0 ?_)
    exact call_twin_own (F.quiet_tuple_repr_under _) F.entry_tuple_repr_under F.check_tuple_repr_under ⟨_, ha, hcl⟩ F.slot_tuple_repr (F.args_tuple_repr_1 _)
      (tg_at (R := callEnd _ E) (b := b) (isGuard_tuple_repr_under _) (hr.tu _) (by rw [tu_frames]; exact hf) hg hc hna I j hJ hT hb fun s' H' u I' j' => ⟨⟨_, _, rfl⟩, _, _, rfl, q s' H' I' j'⟩),
  fun A' g pins s σ H u E Q hf hg hc hr I j r hb q => by
    obtain rfl : u = Value.ref a := r
    obtain ⟨_, its, rv, ob, ha, hcl, hd⟩ := (show ObjOk X.prog X.w H s.heap a (.tup xs) from I.hok a _ (hJ H j))
    have hTy : s.TypeIs (.ref a) "tuple" := ⟨_, ha, hcl⟩
    unfold pyReprObj
    refine wpAny_bind (wpAny_cRoomFor hr.units0 ?_)
    refine wpAny_bind (wpAny_specialOf (name := Str.ofString "__repr__") hTy F.slot_tuple_repr.lookup ?_)
    refine wpAny_bind (m := callSpecialIfBound? (.ref a) (Str.ofString "__repr__")) (wpAny_callSpecialIfBound?_slotG (name := Str.ofString "__repr__") hTy F.slot_tuple_repr ?_)
    refine wpAny_call (codeAny_call_builtin_own (Code.quiet_builtin _ (by decide +kernel)) F.entry_tuple_repr (F.slot_tuple_repr.check _ _ _ _ _ _ _ _ hTy (F.args_tuple_repr_1 _)
      (tg_at (R := callEnd _ E) (b := 0) (isGuard_tuple_repr _) (hr.tr _) (by rw [tr_frames]; exact hf) hg hc hna I j hJ hT (by omega) fun s' H' u I' j' => ?_)))
    exact wpAny_bind (wpAny_isInstance (T := "str") (b := true) rfl isSubtype_str_str (wpAny_pure (q s' H' u I' j'))),
  fun A' g pins s σ H u E Q hf hg hc hr I j r hb q => by
    obtain rfl : u = Value.ref a := r
    obtain ⟨_, its, rv, ob, ha, hcl, hd⟩ := (show ObjOk X.prog X.w H s.heap a (.tup xs) from I.hok a _ (hJ H j))
    have hTy : s.TypeIs (.ref a) "tuple" := ⟨_, ha, hcl⟩
    refine call_repr_slot (by have := hr.un; omega) hTy F.slot_tuple_repr ?_
    exact wpAny_call (codeAny_call_builtin_own (Code.quiet_builtin _ (by decide +kernel)) F.entry_tuple_repr (F.slot_tuple_repr.check _ _ _ _ _ _ _ _ hTy (F.args_tuple_repr_1 _)
      (tg_at (A := A'.in1) (R := callEnd _ E) (b := 0) (isGuard_tuple_repr _) (hr.in1'.tr _) (by rw [tr_frames]; exact hf) hg hc hna I j hJ hT (by omega) fun s' H' u I' j' => ⟨_, _, rfl, q s' H' u I' j'⟩)))⟩
/-- the empty dict -/
theorem sg_d0 {a : Addr} (hJ : ∀ H, J H → H a = some (.dK [])) (hB : B a) : Sg X (k + 1) J B (.ref a) (dictText []) :=
  ⟨fun A' g pins s σ H u b E Q hf hg hc hr I j r hb q => by
    obtain rfl : u = Value.ref a := r
    obtain ⟨_, hS, vs, rv, ob, es, ep, ha, hx, hd, hk, hp, hnd⟩ := (show ObjOk X.prog X.w H s.heap a (.dK []) from I.hok a _ (hJ H j))
    cases rv
    have he : es.toList = [] := by cases hes : es.toList with | nil => rfl | cons a b => rw [hes] at hp; cases hp
    refine (ReprK.dict (as := []) (h₀ := s.heap) (d := 0) ha hx.1 hd hS (by simp) (by rw [he]; exact .nil)) b hb A' g E s Q hg (fun c hc' => hc c (by rw [List.mem_singleton.mp hc']; exact hB)) (by have := hr.un; omega) (fun _ _ e => e) fun h' tk hkp => ?_
    exact q _ H (I.kept hkp) j,
  fun A' g pins s σ H u E Q hf hg hc hr I j r hb q => by
    obtain rfl : u = Value.ref a := r
    obtain ⟨_, hS, vs, rv, ob, es, ep, ha, hx, hd, hk, hp, hnd⟩ := (show ObjOk X.prog X.w H s.heap a (.dK []) from I.hok a _ (hJ H j))
    cases rv
    have he : es.toList = [] := by cases hes : es.toList with | nil => rfl | cons a b => rw [hes] at hp; cases hp
    refine wpAny_pyReprObj_dictK (as := []) (h₀ := s.heap) (d := 0) ha hx.1 hd hS (by simp) (by rw [he]; exact .nil) hg (fun c hc' => hc c (by rw [List.mem_singleton.mp hc']; exact hB)) (by have := hr.un; omega) (fun _ _ e => e) (fun h' u tk hkp => ?_) hb
    exact q _ H _ (I.kept hkp) j,
  fun A' g pins s σ H u E Q hf hg hc hr I j r hb q => by
    obtain rfl : u = Value.ref a := r
    obtain ⟨_, hS, vs, rv, ob, es, ep, ha, hx, hd, hk, hp, hnd⟩ := (show ObjOk X.prog X.w H s.heap a (.dK []) from I.hok a _ (hJ H j))
    cases rv
    have he : es.toList = [] := by cases hes : es.toList with | nil => rfl | cons a b => rw [hes] at hp; cases hp
    refine call_repr_slot (by have := hr.un; omega) ⟨_, ha, hx.1⟩ F.slot_dict_repr ?_
    refine call_dict_reprK (A := A'.in1) (as := []) (h₀ := s.heap) (d := 0) ha hx.1 hd hS (by simp) (by rw [he]; exact .nil) hg (fun c hc' => hc c (by rw [List.mem_singleton.mp hc']; exact hB)) (by have := hr.un; show A'.units + 1 + 1 < cLine; omega) (fun _ _ e => e) (fun h' u tk hkp => ?_) hb
    exact ⟨_, _, rfl, q _ H _ (I.kept hkp) j⟩⟩
/-- repr(v) -/
theorem call_sg (gd : X.A.guards = some []) (hr : Room (k + 1) X.A) : CallR X (.builtin "repr") (fun us H Q => ∃ (v : V) (t : Str) (J : Hp → Prop) (B : Addr → Prop), us = [v] ∧ J H ∧ Sg X k J B v t ∧ t.length ≤ sizeLine ∧ ∀ H', J H' → Q (.str t) H') := by
  intro pins s σ H xs us Q I r h
  obtain ⟨v, t, J, B, rfl, j, S, hz, q⟩ := h
  obtain ⟨u, rfl, ru⟩ := vals1 r
  exact S.call X.A [] pins s σ H u _ _ I.ok.frames gd (Clr.nil _) hr I j ru hz fun s' H' tk I' j' => ⟨.str t, H', I', ⟨tk, rfl⟩, q H' j'⟩
/-- {e!r} -/
def tFmtG (X : Cx) (k : Nat) (te : TE) : TE := fun σ H Q => te σ H fun v H1 => ∃ (t : Str) (J : Hp → Prop) (B : Addr → Prop), J H1 ∧ Sg X k J B v t ∧ t.length ≤ sizeLine ∧ ∀ H', J H' → Q (.str t) H'
theorem pe_fmtG {e : Expr} {te : TE} {pos : Pos} (gd : X.A.guards = some []) (hr : Room k X.A) (he : PE X e te) : PE X (.FormattedValue e 114 none pos) (tFmtG X k te) := by
  refine ⟨fun pins s σ H Q I h => ?_⟩
  refine wpAny_FormattedValue_repr (thn (he.run pins s σ H _ I h) fun u s1 ⟨v, H1, I1, rv, t, J, B, j, S, hz, q⟩ => ?_)
  refine S.obj X.A [] pins s1 σ H1 u _ _ I.ok.frames gd (Clr.nil _) hr I1 j rv hz fun s' H' tk I' j' => ?_
  exact wpAny_formatField_str ⟨.str t, H', I'.tok _, ⟨_, rfl⟩, q H' j'⟩ ⟨.str t, H', I'.tok _, ⟨_, rfl⟩, q H' j'⟩ hz
end
end L2

namespace L2
open PySem PySem.Spec PyProof.Rows
section
variable {X : Cx} {k : Nat} {J : Hp → Prop} {B : Addr → Prop}
theorem obj_own {C g a : Addr} {sp : Sp} {t : Str} (hs : PySem.W.findIn X.K (.ref C) "__repr__" = some (some (.ref g))) (hf : PySem.W.isFn X.K (.ref g) = true) (F : FnR X.prog X.w X.K X.mg X.base CX0 k g sp)
    (hi : ∀ H, J H → ∃ dx fs, H a = some (.ins C dx fs)) (hsp : ∀ H, J H → sp [.ref a] H (fun r H' => r = .str t ∧ J H') E0) :
    ∀ (A' : Around) (g : List Code) (pins : List (Addr × Obj)) (s : Shared) (σ : St) (H : Hp) (u : Value) (E : Value → Shared → Prop) (Q : Value → Shared → Prop), A'.frames = some X.stack → A'.guards = some g → Clr g B → Room k A' → Inv X pins σ H s → J H → RelV (.ref a) u → t.length ≤ sizeLine →
    (∀ s' H' tk, Inv X pins σ H' s' → J H' → Q (.str t tk) s') → wpAny (model X.prog X.w) A' (pyReprObj u) Q E s := by
  intro A' g' pins s σ H u E Q hfr _ _ hr I j r hb q
  obtain rfl : u = Value.ref a := r
  obtain ⟨dx, fs, ha⟩ := hi H j
  obtain ⟨mA, M, _⟩ := ins_get I.hok ha
  obtain ⟨od, It, _⟩ := M.look
  rw [pyReprObj_eq_pyReprObjBy]
  unfold pyReprObjBy
  refine wpAny_bind (wpAny_cRoomFor hr.units0 ?_)
  refine wpAny_bind (wpAny_bind (It.type.here ((PySem.W.looks_findIn I.kIn hs).here ?_)))
  show wpAny _ _ (if (some (Value.ref g)).isNone = true then _ else _) _ _ _
  rw [if_neg (by simp)]
  have hcall : wpAny (model X.prog X.w) A' (call (.ref g) [.ref a]) (fun v s' => ∃ y tk, v = .str y tk ∧ Q (.str y tk) s') E s := by
    refine wpAny_call (codeAny_mono (F A' X.stack s H [.ref a] [.ref a] _ E0 hr ⟨hfr, I.env0.mod, I.env0.bs, I.env0.bsz, I.env0.funs, I.env0.frf, I.env0.hok, I.env0.bare⟩ (.cons rfl .nil) (hsp H j)) fun r s' hq => ?_)
    cases r with
    | error e => exact False.elim hq
    | ok fl =>
      cases fl with
      | ret u =>
        obtain ⟨v, H', I', rv, ev, j'⟩ := I.after hq
        subst ev
        obtain ⟨tk, rfl⟩ := rv
        exact ⟨t, tk, rfl, q _ _ tk I' j'⟩
      | next => exact False.elim hq
      | brk => exact False.elim hq
      | cont => exact False.elim hq
  refine wpAny_bind (m := callSpecialIfBoundBy? _ (.ref a) (Str.ofString "__repr__")) ?_
  simp only [callSpecialIfBoundBy?, bindSpecialIfBound?]
  refine wpAny_holding (wpAny_bind (wpAny_bind (wpAny_bind (It.type.here ((PySem.W.looks_findIn I.kIn hs).here ?_)))))
  refine wpAny_bind (wpAny_askSetting (wpAny_ite ?_))
  have fin : ∀ {Q' : Option Value → Shared → Prop}, (∀ y tk s', Q (.str y tk) s' → Q' (some (.str y tk)) s') → wpAny (model X.prog X.w) A' (call (.ref g) ([.ref a] ++ []) >>= fun v => pure (some v)) Q' E s := fun {Q'} hq => wpAny_bind (wpAny_mono hcall (fun v s' ⟨y, tk, e, h'⟩ => by subst e; exact wpAny_pure (hq y tk s' h')) fun _ _ h' => h')
  have fin2 : ∀ y tk s', Q (.str y tk) s' → wpAny (model X.prog X.w) A' (do if ← isInstance (.str y tk) (.type "str") then pure (Value.str y tk) else raiseError "TypeError" s!"__repr__ returned non-string (type {← typeNameOf (.str y tk)})") Q E s' := fun y tk s' h => by
    refine wpAny_bind (wpAny_isInstance (T := "str") (b := true) rfl isSubtype_str_str ?_)
    exact wpAny_pure h
  split
  · exact wpAny_bind ((PySem.W.bind_fn I.kIn _ (beq_iff_eq.mp hf)).here (wpAny_pure (fin fin2)))
  · exact wpAny_tryCatch (wpAny_bind ((PySem.W.bind_fn I.kIn _ (beq_iff_eq.mp hf)).here (wpAny_pure (fin fin2))))
/-- an instance that has its own __repr__ -/
theorem sg_own {C g a : Addr} {sp : Sp} {t : Str} (hs : PySem.W.findIn X.K (.ref C) "__repr__" = some (some (.ref g))) (hf : PySem.W.isFn X.K (.ref g) = true) (F : FnR X.prog X.w X.K X.mg X.base CX0 k g sp)
    (hi : ∀ H, J H → ∃ dx fs, H a = some (.ins C dx fs)) (hsp : ∀ H, J H → sp [.ref a] H (fun r H' => r = .str t ∧ J H') E0) : Sg X k J B (.ref a) t :=
  ⟨fun A' g' pins s σ H u b E Q hfr _ _ hr I j r hb q => sh_own hs hf F hi hsp A' pins s σ H u b E Q hfr hr I j r hb q, obj_own hs hf F hi hsp,
  fun A' g' pins s σ H u E Q hfr _ _ hr I j r hb q => by
    obtain rfl : u = Value.ref a := r
    obtain ⟨dx, fs, ha⟩ := hi H j
    obtain ⟨mA, M, _⟩ := ins_get I.hok ha
    obtain ⟨od, It, _⟩ := M.look
    obtain ⟨m, hF⟩ := I.fr
    refine PySem.W.repr_K (by have := hr.un; show A'.units + 1 < cLine; omega) hF I.ok.mod.kin It hs hf ?_
    refine wpAny_call (codeAny_mono (F A'.in1 X.stack s H [.ref a] [.ref a] _ E0 hr.in1' ⟨hfr, I.env0.mod, I.env0.bs, I.env0.bsz, I.env0.funs, I.env0.frf, I.env0.hok, I.env0.bare⟩ (.cons rfl .nil) (hsp H j)) fun r s' hq => ?_)
    cases r with
    | error e => exact False.elim hq
    | ok fl =>
      cases fl with
      | ret u =>
        obtain ⟨v, H', I', rv, ev, j'⟩ := I.after hq
        subst ev
        obtain ⟨tk, rfl⟩ := rv
        exact q _ _ tk I' j'
      | next => exact False.elim hq
      | brk => exact False.elim hq
      | cont => exact False.elim hq⟩
end
end L2

namespace L2
open PySem PySem.Spec PyProof.Rows
/-- isinstance(e, c), e the exception that the suite holds, with attributes or without -/
theorem call_isEF {X : Cx} {a D : Addr} {oe : Obj} {d : Option Addr} {pn : List (Addr × Obj)} (C : ExcC X.K D) (hz : Zc (.ref D) d oe) (hf : ∃ vs, oe.data = .fields vs) :
    CallR (X.suite a ((a, oe) :: pn)) (.builtin "isinstance") (fun xs H Q => (d = none ∨ ∃ dd fs, d = some dd ∧ H dd = some (.xd fs)) ∧ rIsE X.K D a xs H Q) := by
  intro pins s σ H xs us Q I r h
  obtain ⟨hdd, c, cv, b, rfl, hcv, e, q⟩ := h
  cases r with
  | cons rx rr =>
    cases rr with
    | cons rt rr =>
      cases rr
      cases rx
      have ec := hcv _ rt
      subst ec
      obtain ⟨hget, _⟩ := I.pin (a, oe) (List.mem_append.mpr (.inl List.mem_cons_self))
      obtain ⟨vs, hv⟩ := hf
      have J : ∃ od, PySem.W.InstAt s.heap a oe D od := by
        obtain ⟨oc, od, oda, osl⟩ := oe
        obtain ⟨h1, h2⟩ := hz
        dsimp only at h1 h2 hv
        subst h1 h2 hv
        rcases hdd with rfl | ⟨dd, fs, rfl, ho⟩
        · exact ⟨none, hget, rfl, rfl, trivial⟩
        · obtain ⟨mA, hns, hr⟩ := (show ObjOk X.prog X.w H s.heap dd (.xd fs) from I.hok dd _ ho)
          obtain ⟨od, ho, hl⟩ := lookIn_ns hns
          exact ⟨some od, hget, rfl, rfl, ho⟩
      obtain ⟨od, J⟩ := J
      exact PySem.W.kia_one (PySem.W.kitx_exc (by obtain ⟨cd, hc, _⟩ := PySem.W.any_some C.hd; rw [hc]; rfl) C.hg C.hk C.hs C.ha C.hn C.ht C.hm) I.kIn J e (fun z => nomatch z) fun tk => ⟨.bl b, H, I.kept (t' := tk) fun _ _ z => z, rfl, q⟩
end L2

/-! x(lambda: body, e): the lambda is called by a def with two parameters; no repr is under way. -/
namespace L2
open PySem PySem.Spec PyProof.Rows LamX
section
variable {X : Cx} {pins : List (Addr × Obj)} {σ : L2.St} {H : Hp} {s : Shared}
theorem pe_actG {CXg : CXT} {Eg : XK} {Ng : List Str} {qg : Str} {sg : Scope} {g f c' : Addr} {cdg pm ctv : Value} {params : Arguments} {body : Expr} {scope : Scope} {k i : Nat} {a : Str} {pn : List (Addr × Obj)} {xe : Value → Shared → Prop} {W : WX} {t : XK → TE} {p1 p2 : Pos}
    (gd : X.A.guards = some []) (I : Inv X pins σ H s) (L : LamS X.env.scope scope) (hf : s.heap.get? f = some (PySem.W.kla_obj "<lambda>" (X.env.qual ++ "<lambda>") params body scope (cloFrom X.env.cells scope.names []) pm c' ctv)) (hfn : H f = none) (hfr : f ∉ frs X.stack)
    (hbind : bindArgs (PySem.W.kla_fn "<lambda>" (X.env.qual ++ "<lambda>") params body scope (cloFrom X.env.cells scope.names []) pm (.ref c') ctv) ⟨[], []⟩ = pure [])
    (tk : Takes ((cxOf CXg X.prog X.w X.K X.mg X.base Ng qg sg g cdg X.A X.stack s H Eg).tr pn xe) W) (hr : Room (k + 1) (X.A.deeper (envOfC qg sg s.heap.objs.size g cdg)))
    (hbody : ∀ (A : Around) (outer : List Env) (s : Shared) (H : Hp) (E : XK), A.guards = some [] → Room k (A.deeper (lamEnv X scope s.heap.objs.size f c')) → PE (lamCx X A outer s H E scope f c') body (t E))
    (hN : Ng[i]? = some a) (hv : Vis sg a) (hd : (a == ("__debug__" : Str)) = false := by decide) (hcd : (a == ("__classdict__" : Str)) = false := by decide) :
    PE ((cxOf CXg X.prog X.w X.K X.mg X.base Ng qg sg g cdg X.A X.stack s H Eg).tr pn xe) (.Call (.Name a p1) [] [] p2)
      (fun σZ HZ Q => σZ[i]? = some (some (.ref f)) ∧ HZ c' = some (CodeO c' (X.env.qual ++ "<lambda>")) ∧ t (WE W σZ) σ HZ Q) := by
  refine ⟨fun pZ sZ σZ HZ Q JZ h => ?_⟩
  obtain ⟨hs, hc, ht⟩ := h
  refine wpAny_Call_Name_kw (thn ((pe_var (pos := p1) (i := i) hN hv hd hcd).run pZ sZ σZ HZ (fun v H1 => v = .ref f ∧ H1 = HZ) JZ ⟨.ref f, hs, rfl, rfl⟩) fun u s1 ⟨v, H1, J1, r1, e1, e2⟩ => ?_)
  subst e1
  rw [e2] at J1
  obtain rfl : u = Value.ref f := r1
  have hfun := J1.base.keep f _ hf hfn hfr (fun z => nomatch (show f ∈ ([] : List Addr) from z))
  refine PySem.W.callWith_F0 ⟨_, _, _, _, hfun⟩ ?_
  have un : Un (frs X.stack) [] H HZ s.heap s1.heap := J1.base
  obtain ⟨⟨oc, vs, t, hoc, hdc, hvc⟩, _, _⟩ := J1.hok c' _ hc
  have gd2 : (X.A.deeper (envOfC qg sg s.heap.objs.size g cdg)).guards = some [] := deeper_guards.trans gd
  have rc : codeAny (model X.prog X.w) (X.A.deeper (envOfC qg sg s.heap.objs.size g cdg)) (.call (.ref f) ⟨[], []⟩) (CR (L2.CX X.prog X.w) (envOfC qg sg s.heap.objs.size g cdg :: X.stack) X.prog X.w HZ s1 Q (WE W σZ)) s1 := by
    refine PySem.W.kla_callFunE hr.depth hfun rfl L.co L.gen rfl ⟨c', oc, vs, t, rfl, hoc, hdc, hvc⟩ ?_
    rw [hbind]
    refine wpAny_pure (wpAny_newFunctionEnv (fun y hy => (L.own y hy).2) (fun y hy => absurd hy (by simp)) (fun h₁ hns hsb => ⟨J1.nolimit.fresh _ hsb, ?_⟩) L.kind)
    show codeAny _ _ (.expr body (lamEnv X scope s1.heap.objs.size f c')) _ _
    have kp : ∀ b o, s1.heap.get? b = some o → h₁.get? b = some o := fun b o e => hsb.extBut b o (Nat.ne_of_lt (Heap.lt_size e)) (Heap.get?_push_of_some _ e)
    have J := lam_start2 (E := WE W σZ) (f := f) (c' := c') (tk := s1.toks + ([] : List (Str × Value)).length) I L J1.env0 hr.hd un hns kp
    refine PySem.W.kla_codeExpr (wpAny_mono ((hbody _ _ s1 HZ _ gd2 (hr.deeper _)).run [] _ _ HZ Q J ht) (fun v s' hq => ?_) fun e s' hq => hq)
    obtain ⟨w', G, JG, rv, q⟩ := hq
    exact ⟨w', G, JG.os, JG.bare, JG.base, JG.hok, rv, q⟩
  have out := passAt tk σZ
  refine wpAny_call (codeAny_mono rc ?_)
  rintro (er | fl) s2 z
  · exact out pZ HZ s1 er s2 J1 z
  · cases fl with
    | ret u => exact J1.after z
    | _ => exact z.elim
end
end L2

/-! x op y, x == y, o.m(y): y a value of a built-in type; the own method may raise. -/
namespace PySem.W
open Lean Elab Tactic Meta PySem PySem.Calls PyProof.Rows
section
variable {prog : Program} {w : World} {A : Around} {E : Value → Shared → Prop} {s : Shared} {K : Frag} {x C L f : Addr} {h₀ : Heap} {m : Str → Option Value} {ox : Obj} {od : Option Obj} {T : String}
theorem bin_oth {op : Operator} {b : Value} {fo ro : Option Value} {Q : Value → Shared → Prop} (R : Fr h₀ L s.heap m) (KI : K.In h₀) (I : InstAt s.heap x ox C od) (hb : Looks (model prog w) s.heap (typeOf b) (.type T)) (first : selfFirst K C = true)
    (meth : findIn K (.ref C) (PySem.dunder op.info.2) = some (some (.ref f))) (fn : isFn K (.ref f) = true) (refl : findIn K (.ref C) (dunderR op.info.2) = some none)
    (to : findIn K (.type T) (PySem.dunder op.info.2) = some fo) (tr : findIn K (.type T) (dunderR op.info.2) = some ro) (sub : subIn K (.type T) (.ref C) = some false)
    (go : wpAny (model prog w) A (call (.ref f) [.ref x, b]) (CmpBack Q) E s) : wpAny (model prog w) A (binaryOp op (.ref x) b) Q E s := by
  have KX := KI.keeps R.keep
  obtain ⟨cd, rest, c1, c2⟩ := ksp_first first
  rcases hop : op.info with ⟨sy, n⟩
  rw [hop] at meth refl to tr
  have tried := ksp_try KX I meth fn go
  obtain ⟨hp, gs, dr, tk, os⟩ := s
  have T1 : Looks (model prog w) hp (typeOf (.ref x)) (.ref C) := I.type
  have T2 : Looks (model prog w) hp (typeOf b) (.type T) := hb
  have F1 : Looks (model prog w) hp (fillsNumberSlot (.ref C) n) true := fills_K KX c1 c2 meth
  obtain ⟨rt, F2⟩ : ∃ rt, Looks (model prog w) hp (fillsNumberSlot (.type T) n) rt := ⟨_, ksp_fillsT KX to tr⟩
  have S1 : Looks (model prog w) hp (isSubtype (.type T) (.ref C)) false := looks_subIn KX sub
  have P1 : Looks (model prog w) hp (numberSlotInPython (.ref C) n) true := ksp_inPy KX meth refl (.inl rfl)
  have P2 : Looks (model prog w) hp (numberSlotInPython (.type T) n) false := Looks.of_pure rfl
  have R1 : Looks (model prog w) hp (typeLookup (.type T) (dunderR n)) ro := looks_findIn KX tr
  have other : (Value.ref C == Value.type T) = false := by
    refine Bool.eq_false_iff.mpr fun z => ?_
    cases beq_iff_eq.mp z
  simp only [binaryOp, hop]
  refine wpAny_holding ?_
  refine wpAny_bind ?_
  unfold binaryOp1
  refine wpAny_bind (T1.at ?_)
  refine wpAny_bind (T2.at ?_)
  refine wpAny_bind (F1.at ?_)
  simp only [other, Bool.false_eq_true, if_false]
  cases rt
  all_goals
    ksp_lk
    refine wpAny_mono tried ?_ (fun _ _ z => z)
    rintro r s' ⟨v, rfl, q⟩
    ksp_lk
    exact q
end
end PySem.W
namespace L2
open PySem PySem.Spec PyProof.Rows
/-- a value of a built-in type other than int, and the type's name -/
inductive OddV (H : Hp) : V → String → Prop where
  | non : OddV H .non "NoneType"
  | bl (b : Bool) : OddV H (.bl b) "bool"
  | str (x : Str) : OddV H (.str x) "str"
  | lst {a : Addr} {xs : List V} (e : H a = some (.lst xs)) : OddV H (.ref a) "list"
  | tup {a : Addr} {xs : List V} (e : H a = some (.tup xs)) : OddV H (.ref a) "tuple"
  | dK {a : Addr} {kvs : List (Key × V)} (e : H a = some (.dK kvs)) : OddV H (.ref a) "dict"
theorem OddV.same {H H' : Hp} {v : V} {T : String} (s : ∀ b o, H b = some o → H' b = some o) (h : OddV H v T) : OddV H' v T := by
  cases h with
  | non => exact .non
  | bl b => exact .bl b
  | str x => exact .str x
  | lst e => exact .lst (s _ _ e)
  | tup e => exact .tup (s _ _ e)
  | dK e => exact .dK (s _ _ e)
theorem OddV.ty {K : PySem.W.Frag} {H : Hp} {v : V} {T : String} (h : OddV H v T) : TyX K H v (.type T) := by
  cases h with
  | non => exact .base .non
  | bl b => exact .base (.bl b)
  | str x => exact .base (.str x)
  | lst e => exact .base (.lst e)
  | tup e => exact .base (.tup e)
  | dK e => exact .base (.dK e)
/-- of a class of the text: no built-in type is below it -/
structure TyC (K : PySem.W.Frag) (C : Addr) (T : String) : Prop where
  kit : PySem.W.kitOne K (.type T) (.ref C) = some false
  sub : PySem.W.subIn K (.type T) (.ref C) = some false
structure OddC (K : PySem.W.Frag) (C : Addr) : Prop where
  non : TyC K C "NoneType"
  bl : TyC K C "bool"
  str : TyC K C "str"
  lst : TyC K C "list"
  tup : TyC K C "tuple"
  dK : TyC K C "dict"
theorem OddV.tyc {K : PySem.W.Frag} {C : Addr} {H : Hp} {v : V} {T : String} (h : OddV H v T) (c : OddC K C) : TyC K C T := by
  cases h with
  | non => exact c.non
  | bl b => exact c.bl
  | str x => exact c.str
  | lst e => exact c.lst
  | tup e => exact c.tup
  | dK e => exact c.dK
theorem OddV.notFirst {K : PySem.W.Frag} {C : Addr} {H : Hp} {v : V} {T : String} (h : OddV H v T) (c : OddC K C) : PySem.W.notFirst K C (.type T) = true := by
  unfold PySem.W.notFirst
  rw [(h.tyc c).sub]
  simp
/-- what a type says of an operator's names -/
def TyOp (K : PySem.W.Frag) (op : Operator) (T : String) : Prop := ∃ fo ro, PySem.W.findIn K (.type T) (PySem.dunder op.info.2) = some fo ∧ PySem.W.findIn K (.type T) (dunderR op.info.2) = some ro
theorem tyop {K : PySem.W.Frag} {op : Operator} (ho : op = .Add ∨ op = .Sub ∨ op = .Mult) {H : Hp} {v : V} {T : String} (h : OddV H v T) : TyOp K op T := by
  rcases ho with rfl | rfl | rfl <;> cases h <;> exact ⟨_, _, rfl, rfl⟩
section
variable {X : Cx} {CX : CXT} {k : Nat} {C g : Addr} {sp : Sp} {fd : FuncData} {ps : List Str} {E : XK} {a b : Expr} {ta tb : TE} {pos : Pos}
def tBinX (C : Addr) (sp : Sp) (E : XK) (ta tb : TE) : TE := fun σ H Q => ta σ H fun x H1 => tb σ H1 fun y H2 => ∃ a dx fs T, x = .ref a ∧ H2 a = some (.ins C dx fs) ∧ OddV H2 y T ∧ sp [x, y] H2 Q E
/-- a op b by the own method, which may raise -/
theorem pe_binX {op : Operator} (ho : op = .Add ∨ op = .Sub ∨ op = .Mult) (oc : OddC X.K C) (hc : PySem.W.selfFirst X.K C = true) (hs : PySem.W.findIn X.K (.ref C) (PySem.dunder op.info.2) = some (some (.ref g))) (hf : PySem.W.isFn X.K (.ref g) = true)
    (hr2 : PySem.W.findIn X.K (.ref C) (dunderR op.info.2) = some none) (F : FnG X.prog X.w X.K X.mg X.base CX k g fd ps sp) (gd : X.A.guards = some []) (hr : Room k X.A) (hb : Binds X.K fd ps []) (hx : Passes CX X E) (ha : PE X a ta) (hbb : PE X b tb) :
    PE X (.BinOp a op b pos) (tBinX C sp E ta tb) := by
  refine ⟨fun pins s σ H Q I h => ?_⟩
  refine wpAny_BinOp (binT ha hbb I (R := fun x y H2 => ∃ a dx fs T, x = .ref a ∧ H2 a = some (.ins C dx fs) ∧ OddV H2 y T ∧ sp [x, y] H2 Q E) h fun v u s2 x y H2 I2 rx ry q => ?_)
  obtain ⟨a0, dx, fs, T, rfl, h0, od, q⟩ := q
  cases (show v = Value.ref a0 from rx)
  obtain ⟨mA, M, _⟩ := ins_get I2.hok h0
  obtain ⟨oD, J, _⟩ := M.look
  obtain ⟨m, hF⟩ := I2.fr
  obtain ⟨PP, KX, pp, _⟩ := kit_of I2 ry (od.ty (K := X.K))
  obtain ⟨fo, ro, t1, t2⟩ := tyop (K := X.K) ho od
  refine PySem.W.bin_oth hF I2.ok.mod.kin J (KX.ty _ _ I2.kIn pp) hc hs hf hr2 t1 t2 (od.tyc oc).sub ?_
  have q' : sp ([.ref a0, y] ++ []) H2 Q E := by rw [List.append_nil]; exact q
  refine wpAny_mono (run_fnG (vs := [.ref a0, y]) (us := [.ref a0, u]) F gd hr hb .nil hx I2 (.cons rfl (.cons ry .nil)) q') (fun w s' z => ?_) fun _ _ x => x
  obtain ⟨z', H', I', rz, qz⟩ := z
  exact SlX.cmpback rz ⟨z', H', I', rz, qz⟩
/-- x == y, y of a built-in type -/
theorem op_eqOdd (oc : OddC X.K C) (hs : PySem.W.findIn X.K (.ref C) "__eq__" = some (some (.ref g))) (hf : PySem.W.isFn X.K (.ref g) = true) (F : FnR X.prog X.w X.K X.mg X.base CX0 k g sp) (hr : Room k X.A) :
    OpR X (compareOp .Eq) (fun x y H Q => ∃ a dx fs T, x = .ref a ∧ H a = some (.ins C dx fs) ∧ OddV H y T ∧ sp [x, y] H (fun v H' => ∃ b, v = .bl b ∧ Q (.bl b) H') E0) := by
  intro pins s σ H x y v u Q I rx ry h
  obtain ⟨a, dx, fs, T, rfl, ha, od, q⟩ := h
  cases (show v = Value.ref a from rx)
  obtain ⟨mA, M, _⟩ := ins_get I.hok ha
  obtain ⟨oD, J, _⟩ := M.look
  obtain ⟨m, hF⟩ := I.fr
  obtain ⟨PP, KX, pp, _⟩ := kit_of I ry (od.ty (K := X.K))
  show wpAny _ _ (richCompare .Eq (.ref a) u) _ _ _
  refine PySem.W.cmp_K hr.units0 hF I.ok.mod.kin J (KX.ty _ _ I.kIn pp) (od.notFirst oc) hs hf ?_
  refine wpAny_mono (run_fnA (vs := [.ref a, y]) F I.ok.frames hr I (.cons rfl (.cons ry .nil)) q) (fun w s' z => ?_) fun _ _ x => x
  obtain ⟨z', H', I', rz, b, rfl, qz⟩ := z
  obtain rfl : w = Value.bool b := rz
  exact ⟨.bl b, H', I', rfl, qz⟩
end
end L2

/-! def f(cls, *v) that may raise, where no repr is under way; C.m(..) by it, and C.m(). -/
namespace L2
open PySem PySem.Spec PyProof.Rows
def FnRG (P : Program) (w : World) (K : PySem.W.Frag) (mg : Str → Option Value) (base : Heap) (CX : CXT) (k : Nat) (f : Addr) (sp : Sp) : Prop :=
  ∀ (A : Around) (outer : List Env) (s : Shared) (H : Hp) (us : List Value) (vs : List V) (Q : VK) (E : XK), A.guards = some [] → Room k A → Env0 P w K mg base A outer s H → Vals vs us → sp vs H Q E → codeAny (model P w) A (.call (.ref f) ⟨us, []⟩) (CR CX outer P w H s Q E) s
section
variable {P : Program} {w : World} {K : PySem.W.Frag} {mg : Str → Option Value} {base : Heap} {CX : CXT} {k : Nat} {f : Addr} {N ps : List Str} {sp : Sp} {oc dV kV doc pm cdv ct : Value} {od an : Option Addr} {osl : Array (Option Value)} {nm ql : Str} {pr : Arguments} {bd : List Stmt} {sc : Scope}
theorem fn_starG {pv : Str} (L : K.lookup f = some ⟨oc, od, .func (PySem.W.fnOf nm ql pr bd sc dV kV doc pm an cdv ct), osl⟩) (cd : PySem.W.codeIn K cdv ql = true) (S : FnScope N (ps ++ [pv]) sc) (up : StX.CXUp CX)
    (bind : ∀ us more : List Value, us.length = ps.length → bindArgs (PySem.W.fnOf nm ql pr bd sc dV kV doc pm an cdv ct) ⟨us ++ more, []⟩ = (newTuple more >>= fun t => pure (ps.zip us ++ [(pv, t)])))
    (run : ∀ (A : Around) (outer : List Env) (s : Shared) (H : Hp) (vs : List V) (Q : VK) (E : XK), A.guards = some [] → Room k (A.deeper (envOfC ql sc s.heap.objs.size f cdv)) → sp vs H Q E → ∃ t, PSs (cxOf CX P w K mg base N ql sc f cdv A outer s H E) bd t ∧ t { nx := fun _ H' => Q .non H', rt := Q } (start N vs) H) :
    FnRG P w K mg base CX (k + 1) f (fun vs H Q E => ∃ ws more, vs = ws ++ more ∧ ws.length = ps.length ∧ more.length ≤ sizeLine ∧ ∀ p, H p = Option.none → sp (ws ++ [V.ref p]) (upd H p (.tup more)) Q E) := by
  rintro A outer s H us _ Q E gd hr e0 r ⟨ws, more, rfl, hl, hz, hq⟩
  obtain ⟨a1, a2, rfl, q1, q2⟩ := StX.vals_split r
  have free : H s.heap.objs.size = Option.none := e0.hok.fresh (Nat.le_refl _)
  have n1 : a1.length = ps.length := q1.length.symm.trans hl
  have n2 : a2.length ≤ sizeLine := by
    have := q2.length
    omega
  refine StX.run_bnd L cd S hr e0 (G := fun xs H2 => ∃ p, H p = Option.none ∧ xs = ws ++ [V.ref p] ∧ H2 = upd H p (.tup more)) (fun A' Ex Q' h => ?_) ?_
  · rw [bind a1 a2 n1]
    refine wpAny_bind ?_
    refine wpAny_newTuple (wpAny_pure ?_) n2
    have ok : ObjOk P w (upd H s.heap.objs.size (.tup more)) (s.heap.push ({ cls := .type "tuple", data := .seq a2.toArray } : Obj)) s.heap.objs.size (.tup more) :=
      ⟨hz, a2, q2, ⟨_, Heap.get?_push_size _ rfl, rfl, _, rfl⟩⟩
    have un := StX.un_laid (fs := frs outer) (s := s) (o := ({ cls := .type "tuple", data := .seq a2.toArray } : Obj)) (u := .tup more) free
    have keep : ∀ b o, s.heap.get? b = some o → (s.heap.push ({ cls := .type "tuple", data := .seq a2.toArray } : Obj)).get? b = some o := fun b o q => Heap.get?_push_of_some _ q
    have len : (ws ++ [V.ref s.heap.objs.size]).length = (ps ++ [pv]).length := by
      rw [List.length_append, List.length_append, hl]
      rfl
    have z := h _ _ (ws ++ [V.ref s.heap.objs.size]) (a1 ++ [Value.ref s.heap.objs.size]) (StX.env0_laid e0 ok) un rfl (fun e s' => up outer s H _ _ E e s' un keep rfl) (q1.append (.cons rfl .nil)) len ⟨_, free, rfl, rfl⟩
    rw [List.zip_append n1.symm] at z
    exact z
  · rintro s2 _ _ ⟨p, hp, rfl, rfl⟩ hr'
    exact run A outer s2 _ _ Q E gd hr' (hq p hp)
end
section
variable {X : Cx} {CX : CXT} {k : Nat} {C p g : Addr} {mc : Value} {sp : Sp} {E : XK} {o e : Expr} {es : List Expr} {m : Str} {pos apos : Pos} {ta : TE} {t : TA} {pl : Sem Bool}
end
theorem PE.or {X : Cx} {e : Expr} {t t' : TE} (h : PE X e t) (h' : PE X e t') : PE X e (fun σ H Q => t σ H Q ∨ t' σ H Q) := ⟨fun pins s σ H Q I q => q.elim (h.run pins s σ H Q I) (h'.run pins s σ H Q I)⟩
end L2

/-! The end of a law row with lambdas whose defs are told by FnG. -/
namespace L2
open PySem PySem.Spec PyProof.Rows LamX
section
variable {P : Program} {w : World} {K : PySem.W.Frag} {mg mb : Str → Option Value} {CX : CXT} {k : Nat} {fa a : Addr} {fd : FuncData} {x : Str} {sp : Sp} {s₁ : Shared} {vs : List Value} {ns : List Int} {cs : List (Addr × Addr)}
abbrev emptyTab : Obj := { cls := .none, data := .fields #[] }
/-- the call from an abstract heap that tracks at most the script and the tables -/
theorem law_coreT (KX : K.In s₁.heap) (gl : s₁.heap.Ns mainGlobals mg) (bl : s₁.heap.Ns builtinsNs mb) (boot : ∀ x : Str, x ≠ "__name__" → mb x = bootBuiltins x) (lim : s₁.heap.NoLimit) (gens : s₁.gens = #[])
    (tabs : ∀ p ∈ cs, s₁.heap.get? p.2 = some emptyTab) (notK : ∀ p ∈ cs, K.lookup p.2 = none) (code : ∀ p ∈ cs, PySem.W.CodeHd s₁.heap p.1 p.2)
    (main : ∃ (bm : Addr) (ob : Obj), mg "__builtins__" = some (.ref bm) ∧ bm ≠ builtinsNs ∧ s₁.heap.get? bm = some ob ∧ ob.cls = .type "module" ∧ ob.dict = some builtinsNs ∧ ob.data = .plain)
    (ha : s₁.heap.get? a = some { cls := .type "list", data := .seq vs.toArray }) (room : Room k callerA)
    (F : ∀ base : Heap, K.In base → base.Ns mainGlobals mg → (∀ p ∈ cs, TabB base mg p.1 p.2) → FnG P w K mg base CX k fa fd [x] sp) (bind : ∀ (s : Shared) (u : Value), BindsTo s fd ⟨[u], []⟩ [(x, u)]) (noX : ∀ H e s', CX [] H s₁ (fun _ _ _ => False) e s' → False)
    (H : Hp) (atT : ∀ p ∈ cs, H p.2 = some (.tbl #[])) (frozen : ∀ b, (∀ p ∈ cs, b ≠ p.2) → H b = none ∨ ∃ o xs, H b = some (.frz o (.lst xs))) (wish : sp [.ref a] H (fun v _ => v = .bl true) fun _ _ _ => False) (hok : HOk P w H s₁.heap)
    (only : ∀ b, H b ≠ none → b = a ∨ ∃ p ∈ cs, b = p.2) (free : H a ≠ none → K.lookup a = none) :
    codeAny (model P w) callerA (.call (.ref fa) ⟨[.ref a], []⟩) (fun r s' => r = .ok (.ret (.bool true)) ∧ OldK s₁.heap s'.heap ∧ s'.os = s₁.os ∧ AllBare s'.gens) s₁ := by
  have untracked : ∀ {b : Addr} {o : Obj}, s₁.heap.get? b = some o → (∀ vs n, o.data ≠ .seq vs n) → o.data ≠ .fields #[] → H b = none := fun {b o} e q1 q2 => by
    refine Classical.byContradiction fun hb => ?_
    rcases only b hb with rfl | ⟨p, hp, rfl⟩
    · rw [ha] at e
      exact q1 _ _ (by rw [← Option.some.inj e])
    · rw [tabs p hp] at e
      exact q2 (by rw [← Option.some.inj e])
  have dicts : ∀ {b : Addr} {m : Str → Option Value}, s₁.heap.Ns b m → (hidT s₁.heap H).Ns b m := fun {b m} ⟨o, es, ep, e, d, r⟩ =>
    ⟨o, es, ep, hidT_get e (untracked e (fun _ _ z => nomatch d.symm.trans z) fun z => nomatch d.symm.trans z), d, r⟩
  have KB : K.In (hidT s₁.heap H) := fun b o e => hidT_get (KX b o e) (by
    refine Classical.byContradiction fun hb => ?_
    rcases only b hb with rfl | ⟨p, hp, rfl⟩
    · rw [free hb] at e
      cases e
    · rw [notK p hp] at e
      cases e)
  have mod : L2.Mod K mg (hidT s₁.heap H) := ⟨KB, dicts gl, ⟨mb, dicts bl, boot⟩, let ⟨mc, l1, l2⟩ := lim; ⟨mc, dicts l1, l2⟩⟩
  have TB : ∀ p ∈ cs, TabB (hidT s₁.heap H) mg p.1 p.2 := fun p hp => by
    have tp := tabs p hp
    constructor
    · obtain ⟨o, us, file, tf, flags, tg, inF, text, tt, c1, c2, c3, c4, c5, c6, c7, c8, c9, c10⟩ := code p hp
      refine ⟨o, us, file, tf, flags, tg, inF, text, tt, hidT_get c1 (untracked c1 (fun _ _ z => nomatch c3.symm.trans z) fun z => ?_), c2, c3, c4, c5, c6, c7, c8, c9, c10⟩
      have z2 : us = #[] := by
        have := c3.symm.trans z
        injection this
      subst z2
      simp at c4
    · obtain ⟨bm, ob, b1, b2, b3, b4, b5, b6⟩ := main
      refine ⟨bm, ob, b1, b2, fun z => ?_, fun z => ?_, hidT_get b3 (untracked b3 (fun _ _ z => nomatch b6.symm.trans z) fun z => nomatch b6.symm.trans z), b4, b5, b6⟩
      · obtain ⟨o, es, ep, e, d, _⟩ := gl
        rw [z, e] at b3
        cases b3
        exact nomatch d.symm.trans b6
      · rw [z, tp] at b3
        cases b3
        exact nomatch b6
    · intro z
      obtain ⟨o, es, ep, e, d, _⟩ := gl
      rw [z, tp] at e
      cases e
      exact nomatch d
  have start : Env0 P w K mg (hidT s₁.heap H) callerA [] s₁ H := ⟨rfl, mod, fun b o e => of_hidT e, Nat.le_of_eq (hidT_size _ _), trivial, (fun b hb => by cases hb), hok, .of_eq gens⟩
  refine codeAny_mono ((F _ KB (dicts gl) TB).run callerA [] s₁ H ⟨[.ref a], []⟩ [.ref a] [.ref a] _ _ rfl room start (bind s₁ (.ref a)) (.cons rfl .nil) wish) fun r s' h => ?_
  cases r with
  | error e => exact (noX H e s' h).elim
  | ok fl =>
    cases fl with
    | next => exact False.elim h
    | brk => exact False.elim h
    | cont => exact False.elim h
    | ret u =>
      obtain ⟨v, H', os, bare, un, after, r', q⟩ := h
      obtain rfl : v = .bl true := q
      obtain rfl : u = Value.bool true := r'
      have stays : ∀ b o, (∀ p ∈ cs, b ≠ p.2) → s₁.heap.get? b = some o → s'.heap.get? b = some o := fun b o nb e => by
        rcases frozen b nb with z | ⟨ob, xs, z⟩
        · exact un.keep b o e z (fun y => by cases y) (fun y => by cases y)
        · obtain ⟨e1, _⟩ := hok b _ z
          obtain ⟨e2, _⟩ := after b _ (un.frzs b ob _ z)
          rw [e] at e1
          cases e1
          exact e2
      have grows : ∀ p ∈ cs, ∃ more : Array Value, s'.heap.get? p.2 = some { cls := .none, data := .fields more } := fun p hp => by
        obtain ⟨more, z⟩ := un.tbls p.2 #[] (atT p hp)
        exact ⟨_, after p.2 _ z⟩
      have split : ∀ b : Addr, (∃ p ∈ cs, b = p.2) ∨ ∀ p ∈ cs, b ≠ p.2 := fun b => Classical.byCases .inl fun z => .inr fun p hp e => z ⟨p, hp, e⟩
      refine ⟨rfl, ⟨fun b o e => ?_, fun b o e => ?_⟩, os, bare⟩
      · rcases split b with ⟨p, hp, rfl⟩ | nb
        · obtain ⟨more, hm⟩ := grows p hp
          have e' := (tabs p hp).symm.trans e
          cases e'
          exact .inr (.inl ⟨((code p hp).tab (tabs p hp)).isCodeTable, rfl, #[], more, rfl, by rw [Array.empty_append]; exact hm⟩)
        · exact .inl (stays b o nb e)
      · rcases split b with ⟨p, hp, rfl⟩ | nb
        · obtain ⟨more, hm⟩ := grows p hp
          exact ⟨_, hm⟩
        · exact ⟨o, stays b o nb e⟩
open Classical in
/-- the script, if the text does not keep it, and the tables -/
noncomputable def startT (K : PySem.W.Frag) (a : Addr) (vs : List Value) (ns : List Int) (cs : List (Addr × Addr)) : Hp := fun b =>
  if b = a then (if K.lookup a = none then some (.frz { cls := .type "list", data := .seq vs.toArray } (.lst (ns.map V.int))) else none) else if ∃ p ∈ cs, b = p.2 then some (.tbl #[]) else none
theorem law_callT (KX : K.In s₁.heap) (gl : s₁.heap.Ns mainGlobals mg) (bl : s₁.heap.Ns builtinsNs mb) (boot : ∀ x : Str, x ≠ "__name__" → mb x = bootBuiltins x) (lim : s₁.heap.NoLimit) (gens : s₁.gens = #[])
    (tabs : ∀ p ∈ cs, s₁.heap.get? p.2 = some emptyTab) (notK : ∀ p ∈ cs, K.lookup p.2 = none) (code : ∀ p ∈ cs, PySem.W.CodeHd s₁.heap p.1 p.2)
    (main : ∃ (bm : Addr) (ob : Obj), mg "__builtins__" = some (.ref bm) ∧ bm ≠ builtinsNs ∧ s₁.heap.get? bm = some ob ∧ ob.cls = .type "module" ∧ ob.dict = some builtinsNs ∧ ob.data = .plain)
    (ha : s₁.heap.get? a = some { cls := .type "list", data := .seq vs.toArray }) (hi : IntsAre vs ns) (hl : ns.length ≤ sizeLine) (room : Room k callerA)
    (F : ∀ base : Heap, K.In base → base.Ns mainGlobals mg → (∀ p ∈ cs, TabB base mg p.1 p.2) → FnG P w K mg base CX k fa fd [x] sp) (bind : ∀ (s : Shared) (u : Value), BindsTo s fd ⟨[u], []⟩ [(x, u)]) (noX : ∀ H e s', CX [] H s₁ (fun _ _ _ => False) e s' → False)
    (hsp : ∀ H : Hp, (∀ p ∈ cs, H p.2 = some (.tbl #[])) → SqL K H a (ns.map V.int) → sp [.ref a] H (fun v _ => v = .bl true) fun _ _ _ => False) :
    codeAny (model P w) callerA (.call (.ref fa) ⟨[.ref a], []⟩) (fun r s' => r = .ok (.ret (.bool true)) ∧ OldK s₁.heap s'.heap ∧ s'.os = s₁.os ∧ AllBare s'.gens) s₁ := by
  have rv := vals_ints hi
  have apart : ∀ p ∈ cs, p.2 ≠ a := fun p hp z => by
    have e := tabs p hp
    rw [z, ha] at e
    cases e
  have atT : ∀ p ∈ cs, startT K a vs ns cs p.2 = some (.tbl #[]) := fun p hp => by
    unfold startT
    rw [if_neg (apart p hp), if_pos ⟨p, hp, rfl⟩]
  have atA : startT K a vs ns cs a = if K.lookup a = none then some (.frz { cls := .type "list", data := .seq vs.toArray } (.lst (ns.map V.int))) else none := by
    unfold startT
    rw [if_pos rfl]
  have list : SqL K (startT K a vs ns cs) a (ns.map V.int) := by
    cases hk : K.lookup a with
    | none => exact .inl (.inr ⟨_, by rw [atA, if_pos hk]⟩)
    | some o =>
      have e := KX a o hk
      rw [ha] at e
      cases e
      exact .inr ⟨_, vs.toArray, _, hk, rfl, rfl, rfl, by rw [List.size_toArray, hi.length]; exact hl, by simpa using rv⟩
  refine law_coreT KX gl bl boot lim gens tabs notK code main ha room F bind noX (startT K a vs ns cs) atT (fun b nb => ?_) (hsp _ atT list) (fun b u z => ?_) (fun b hb => ?_) fun z => ?_
  · by_cases hba : b = a
    · subst hba
      by_cases hk : K.lookup b = none
      · exact .inr ⟨_, _, by rw [atA, if_pos hk]⟩
      · exact .inl (by rw [atA, if_neg hk])
    · refine .inl ?_
      unfold startT
      rw [if_neg hba, if_neg fun ⟨p, hp, e⟩ => nb p hp e]
  · by_cases hba : b = a
    · subst hba
      rw [atA] at z
      by_cases hk : K.lookup b = none
      · rw [if_pos hk] at z
        cases z
        exact ⟨ha, by rw [List.length_map]; exact hl, vs, _, rv, ha⟩
      · rw [if_neg hk] at z
        cases z
    · unfold startT at z
      rw [if_neg hba] at z
      by_cases hp : ∃ p ∈ cs, b = p.2
      · rw [if_pos hp] at z
        cases z
        obtain ⟨p, h1, rfl⟩ := hp
        exact tabs p h1
      · rw [if_neg hp] at z
        cases z
  · by_cases hba : b = a
    · exact .inl hba
    · refine .inr (Classical.byContradiction fun hp => hb ?_)
      unfold startT
      rw [if_neg hba, if_neg hp]
  · refine Classical.byContradiction fun hk => z ?_
    rw [atA, if_neg hk]
end
/-- what is known of the law's promise at the head's heap -/
def LawT (l : PySem.W.OpenLaw) (w : World) (K : PySem.W.Frag) (CX : CXT) (k n : Nat) (x : Str) (mg : Str → Option Value) (fa : Addr) (h : Heap) : Prop :=
  ∃ (fd : FuncData) (cs : List (Addr × Addr)) (sp : Sp), (∀ p ∈ cs, h.get? p.2 = some emptyTab) ∧ (∀ p ∈ cs, K.lookup p.2 = none) ∧ (∀ p ∈ cs, PySem.W.CodeHd h p.1 p.2) ∧ (∀ (s : Shared) (u : Value), BindsTo s fd ⟨[u], []⟩ [(x, u)]) ∧
    (∀ (H : Hp) (a : Addr) (ns : List Int), ns.length ≤ n → (∀ p ∈ cs, H p.2 = some (.tbl #[])) → SqL K H a (ns.map V.int) → sp [.ref a] H (fun v _ => v = .bl true) fun _ _ _ => False) ∧
    ∀ base : Heap, K.In base → base.Ns mainGlobals mg → (∀ p ∈ cs, TabB base mg p.1 p.2) → FnG l.prog w K mg base CX k fa fd [x] sp
theorem walk_ofT {l : PySem.W.OpenLaw} {n k : Nat} {q : Program} {loose : List Str} {XP : (Str → Option Value) → Heap → Prop} {YP : World → Heap → Prop} {d : DefRec} {K : Params → PySem.W.Frag} {CX : World → CXT} {x : Str}
    (hn : l.most = some n) (hn2 : n ≤ sizeLine) (hdf : d.params.defaults = []) (hr : Room k callerA) (hY : ∀ (w : World) (h : Heap), YP w h → (K w.params).In h)
    (F : ∀ (w : World) (mg : Str → Option Value) (fa : Addr) (h : Heap), YP w h → (K w.params).In h → h.Ns mainGlobals mg → (∀ (d' : DefRec) (x : Str) (c P : Addr), (recsOf q).find? (fun e => e.name == x) = some d' → PySem.W.tabIn (K w.params) x = some (c, P) → PySem.W.CodeHd h c P ∧ h.get? P = some emptyTab) → mg d.name = some (.ref fa) → LawT l w (K w.params) (CX w) k n x mg fa h)
    (hCX : ∀ (w : World) (G : Hp) (s0 : Shared) (er : Value) (s1 : Shared), CX w [] G s0 (fun _ _ _ => False) er s1 → False) : PySem.W.WalkO q loose XP YP l.row.toRowW d [] (fun f vs => PySem.call f vs) := by
  refine Att.attach_call hn hdf ?_
  intro w s₀ s₁ mg mb fa _ _ _ _ a vs ns G Y _ _ _ hmg hobj hints hlen hg
  obtain ⟨fd, cs, sp, t1, t2, t3, hb, hsp, hF⟩ := F w mg fa _ Y (hY w _ Y) G.T.g (fun d' x c P h1 h2 => PySem.W.tab_of G.T (hY w _ Y) h1 h2) hmg
  exact law_callT (hY w _ Y) G.T.g G.T.b G.T.builtins G.T.nolimit hg t1 t2 t3 G.T.bmain hobj hints (Nat.le_trans hlen hn2) hr hF hb (fun H e s' => hCX w H s₁ e s') fun H hH hS => hsp H a ns hlen hH hS
end L2

/-! Rules beside the layer: t[::-1], x op y and -x by own methods. -/
namespace HT
open PySem PySem.Spec PyProof.Rows
section
variable {prog : Program} {w : World} {A : Around} {E : Value → Shared → Prop} {s : Shared}
theorem fm_congr {α β : Type} {f g : α → Option β} : ∀ (l : List α), (∀ x ∈ l, f x = g x) → l.filterMap f = l.filterMap g
  | [], _ => rfl
  | a :: t, h => by
    rw [List.filterMap_cons, List.filterMap_cons, h a (by simp), fm_congr t (fun x hx => h x (by simp [hx]))]
theorem getItem_tuple_rev {t sl : Addr} {items : Array Value} {vs : Value} {Q : Value → Shared → Prop} (ht : IsTup s.heap t items) (hs : s.heap.IsSliceOf sl .none .none vs) (ps : IsPart vs (some (-1)))
    (h : Q (.ref s.heap.objs.size) { s with heap := s.heap.push { cls := .type "tuple", data := .seq items.toList.reverse.toArray } })
    (hsz : items.size ≤ sizeLine) : wpAny (model prog w) A (getItem (.ref t) (.ref sl)) Q E s := by
  have htake : sizeOk (.seq items.toList.reverse.toArray) := by simpa [sizeOk] using hsz
  rcases id hs with ⟨os, hos, hcs, hds⟩
  have kind : s.TypeIs (.ref sl) "slice" := ⟨os, hos, hcs⟩
  have three : ∀ {A' : Around} {R : Value × Value × Value → Shared → Prop} {E' : Value → Shared → Prop}, R (.none, .none, vs) s → wpAny (model prog w) A' (Builtin.Slice.sliceFields (.ref sl)) R E' s := fun z => wpAny_bind (wpAny_field hos hds (x := .none) rfl (wpAny_bind (wpAny_field hos hds (x := .none) rfl (wpAny_bind (wpAny_field hos hds (x := vs) rfl (wpAny_pure z))))))
  unfold getItem
  try with_reducible refine wpAny_holding ?_
  first | refine wpAny_bind (wpAny_pure ?_) | skip
  refine wpAny_bind (wpAny_sequenceKey ht.typeIs (by decide) (wpAny_bind (wpAny_callSpecial?_slot (name := Str.ofString "__getitem__") ht.typeIs PyProof.Rows.slot_tuple_getitem (wpAny_call_entry PyProof.Rows.slot_tuple_getitem ht.typeIs entry_tuple_getitem ?_ (args_tuple_getitem _ _)))))
  change wpAny _ _ (Builtin.Tuple.tupleItemsOf (.ref t) >>= _) _ _ s
  refine wpAny_bind (tupleItemsOf_ ht (wpAny_bind (wpAny_typeOf kind ?_)))
  rw [if_pos (by decide)]
  unfold Builtin.Slice.sliceApplied
  refine wpAny_bind (wpAny_bind (three (wpAny_bind (slicePart_ ps ?_))))
  change wpAny _ _ (if ((-1 : Int) == 0) = true then _ else _) _ _ s
  rw [if_neg (by decide)]
  refine wpAny_bind (slicePart_none (wpAny_bind (slicePart_none (wpAny_bind (wpAny_pure ?_)))))
  have hadj : Builtin.Slice.sliceAdjust none none (-1) (items.size : Int) = ((items.size : Int) - 1, -1) := rfl
  have hpl : Builtin.Slice.slicePlaces ((items.size : Int) - 1) (-1) (-1) = items.size := by
    unfold Builtin.Slice.slicePlaces
    have h1 : ¬ ((-1 : Int) > 0) := by omega
    simp only [h1, if_false]
    split
    · have e : ((items.size : Int) - 1 - -1 - 1) / (- -1) = (items.size : Int) - 1 := by
        rw [show (- -1 : Int) = 1 by decide, Int.ediv_one]; omega
      rw [e]; omega
    · omega
  show wpAny _ _ (match Builtin.Slice.sliceAdjust none none (-1) (items.size : Int) with | (lo, hi) => pure (lo, (-1 : Int), Builtin.Slice.slicePlaces lo hi (-1))) _ _ s
  rw [hadj]
  show wpAny _ _ (pure ((items.size : Int) - 1, (-1 : Int), Builtin.Slice.slicePlaces ((items.size : Int) - 1) (-1) (-1))) _ _ s
  rw [hpl]
  refine wpAny_pure ?_
  have hno : ¬ ((((items.size : Int) - 1) == 0 && (-1 : Int) == 1 && items.size == items.size) = true) := by
    intro q
    rw [Bool.and_eq_true, Bool.and_eq_true] at q
    exact absurd q.1.2 (by decide)
  show wpAny _ _ (if (((items.size : Int) - 1) == 0 && (-1 : Int) == 1 && items.size == items.size) = true then _ else _) _ _ s
  rw [if_neg hno]
  have hpick : ((List.range items.size).filterMap fun (k : Nat) => items[((items.size : Int) - 1 + (k : Int) * -1).toNat]?).toArray = items.toList.reverse.toArray := by
    congr 1
    have e : (List.range items.size).filterMap (fun (k : Nat) => items[((items.size : Int) - 1 + (k : Int) * -1).toNat]?) = ((List.range items.size).map fun k => items.size - 1 - k).filterMap (items[·]?) := by
      rw [List.filterMap_map]
      refine fm_congr _ fun k hk => ?_
      have := List.mem_range.mp hk
      have e2 : ((items.size : Int) - 1 + (k : Int) * -1).toNat = items.size - 1 - k := by omega
      show _ = items[items.size - 1 - k]?
      rw [e2]
    rw [e, PySem.W.krv_range, List.filterMap_reverse, PySem.W.krv_all]
  rw [hpick]
  have made : ∀ {A' : Around} {R : Value → Shared → Prop} {E' : Value → Shared → Prop}, R (.ref s.heap.objs.size) { s with heap := s.heap.push { cls := .type "tuple", data := .seq items.toList.reverse.toArray } } → wpAny (model prog w) A' (Builtin.Tuple.tupleExact items.toList.reverse.toArray) R E' s := fun z => wpAny_newObj_type z htake
  first
    | exact wpAny_bind (made (wpAny_pure ⟨_, rfl, wpAny_pure h⟩))
    | exact wpAny_bind (made ⟨_, rfl, wpAny_pure h⟩)
    | exact wpAny_bind (wpAny_bind (made (wpAny_pure ⟨_, rfl, wpAny_pure h⟩)))
    | exact wpAny_bind (made (wpAny_bind (wpAny_pure ⟨_, rfl, wpAny_pure h⟩)))
end
end HT
namespace L2
open PySem PySem.Spec PyProof.Rows
section
variable {X : Cx}
/-- t[::-1], t a tuple -/
def tRevT (K : PySem.W.Frag) (te : TE) : TE := fun σ H Q => te σ H fun x H1 => ∃ a xs, x = .ref a ∧ SqT K H1 a xs ∧ ∀ p, H1 p = none → Q (.ref p) (upd H1 p (.tup xs.reverse))
theorem pe_revT {e : Expr} {te : TE} {k : Nat} {p1 p2 p3 pos : Pos} (he : PE X e te) : PE X (.Subscript e (.Slice none none (some (.UnaryOp .USub (.Constant (.int 1) k p1) p2)) p3) pos) (tRevT X.K te) := by
  constructor
  intro pins s0 σ H W J w
  have back : PO X (some (.UnaryOp .USub (.Constant (.int 1) k p1) p2)) (tPart (tUn (rU fun i => .int (-i)) (tC (.int 1)))) := po_some (pe_un un_neg pe_int)
  refine Subscript_ (thn (he.run pins s0 σ H _ J w) ?_)
  rintro _ s1 ⟨_, H1, J1, rel, a, xs, rfl, tup, w1⟩
  cases rel
  refine wpAny_Slice (thn (po_none.run pins s1 σ H1 (fun o G => o = none ∧ G = H1) J1 ⟨rfl, rfl⟩) ?_)
  rintro _ s2 ⟨_, _, J2, n2, rfl, rfl⟩
  refine thn (po_none.run pins s2 σ _ (fun o G => o = none ∧ G = _) J2 ⟨rfl, rfl⟩) ?_
  rintro _ s3 ⟨_, _, J3, n3, rfl, rfl⟩
  refine thn (back.run pins s3 σ _ (fun o G => o = some (-1) ∧ G = _) J3 ⟨1, rfl, -1, rfl, rfl, rfl⟩) ?_
  rintro step s4 ⟨_, _, J4, part, rfl, rfl⟩
  cases n2
  cases n3
  have J5 := J4.kept (t' := s4.toks) (h' := s4.heap.push { cls := .type "slice", data := .fields #[.none, .none, step] }) fun _ _ z => Heap.get?_push_of_some _ z
  obtain ⟨its, vals, isTup, line⟩ := J5.tuple tup
  have many : its.toArray.size ≤ sizeLine := by
    rw [List.size_toArray, ← vals.length]
    exact line
  change wpAny (model X.prog X.w) X.A (subscriptTail e (.Slice none none (some (.UnaryOp .USub (.Constant (.int 1) k p1) p2)) p3) (.ref a) (.ref s4.heap.objs.size)) (EP X pins σ W) X.xe { s4 with heap := s4.heap.push { cls := .type "slice", data := .fields #[.none, .none, step] } }
  refine tail_any (ops := [.ref a, .ref s4.heap.objs.size]) isTup.typeIs (PyProof.Rows.slot_tuple_getitem.lookup) (HT.getItem_tuple_rev isTup (Heap.IsSliceOf.new _ .none .none step) part ?_ many) (by with_unfolding_all rfl)
  have laid := J5.laid (t' := s4.toks) (o := .tup xs.reverse) (fun _ _ z => Heap.get?_push_of_some _ z) (Nat.le_refl _) ⟨by rw [List.length_reverse]; exact line, _, vals.reverse, IsTup.new _ _⟩
  exact ⟨.ref _, _, laid, rfl, w1 _ (J5.hok.fresh (Nat.le_refl _))⟩
/-! ### own operators -/
section
variable {CX : CXT} {n : Nat} {C g : Addr} {sp : Sp} {E : XK}
/-- x op y, both instances of the class at C, whose def for op is at g -/
def rOwnB (C : Addr) (sp : Sp) (E : XK) : R2 := fun x y H Q => ∃ a dx fs b dy gs, x = .ref a ∧ y = .ref b ∧ H a = some (.ins C dx fs) ∧ H b = some (.ins C dy gs) ∧ sp [x, y] H Q E
theorem op_ownB {op : Operator} (hc : PySem.W.selfFirst X.K C = true) (hs : PySem.W.findIn X.K (.ref C) (PySem.dunder op.info.2) = some (some (.ref g))) (hf : PySem.W.isFn X.K (.ref g) = true) (F : FnR X.prog X.w X.K X.mg X.base CX n g sp)
    (hr : Room n X.A) (hx : Passes CX X E) : OpR X (binaryOp op) (rOwnB C sp E) := by
  intro pins s σ H x y v u Q I rx ry h
  obtain ⟨a, dx, fs, b, dy, gs, rfl, rfl, ha, hb, q⟩ := h
  cases (show v = Value.ref a from rx)
  cases (show u = Value.ref b from ry)
  obtain ⟨mA, M, _⟩ := ins_get I.hok ha
  obtain ⟨mB, M', _⟩ := ins_get I.hok hb
  obtain ⟨od, J, _⟩ := M.look
  obtain ⟨od', J', _⟩ := M'.look
  obtain ⟨m, hF⟩ := I.fr
  refine PySem.W.binop_K hF I.ok.mod.kin J J'.type hc hs hf ?_
  refine wpAny_mono (wpAny_call (run_fnR (us := [.ref a, .ref b]) (vs := [.ref a, .ref b]) F hr hx I (.cons rfl (.cons rfl .nil)) q)) (fun w s' z => ?_) fun _ _ x => x
  obtain ⟨z', H', I', rz, qz⟩ := z
  exact SlX.cmpback rz ⟨z', H', I', rz, qz⟩
/-- -x, x an instance -/
def rOwnU (C : Addr) (sp : Sp) (E : XK) : V → Hp → VK → Prop := fun x H Q => ∃ a dx fs, x = .ref a ∧ H a = some (.ins C dx fs) ∧ sp [x] H Q E
theorem un_own (hs : PySem.W.findIn X.K (.ref C) "__neg__" = some (some (.ref g))) (hf : PySem.W.isFn X.K (.ref g) = true) (F : FnR X.prog X.w X.K X.mg X.base CX n g sp)
    (hr : Room n X.A) (hx : Passes CX X E) : UnR X (unaryOp .USub) (rOwnU C sp E) := by
  intro pins s σ H x v Q I rx h
  obtain ⟨a, dx, fs, rfl, ha, q⟩ := h
  cases (show v = Value.ref a from rx)
  obtain ⟨mA, M, _⟩ := ins_get I.hok ha
  obtain ⟨od, J, _⟩ := M.look
  unfold unaryOp
  refine wpAny_holding ?_
  show wpAny _ _ (if (UnaryOp.USub == UnaryOp.Not) = true then _ else _) _ _ s
  rw [if_neg (by decide)]
  refine wpAny_bind (m := callSpecial? (.ref a) "__neg__") (PySem.W.special_fn I.kIn J hs (beq_iff_eq.mp hf) ?_)
  refine wpAny_mono (wpAny_call (run_fnR (us := [.ref a]) (vs := [.ref a]) F hr hx I (.cons rfl .nil) q)) (fun w s' z => ?_) fun _ _ x => x
  exact wpAny_pure z
end
end
end L2

/-! x op y: y an instance of another class; C(e, ..) by an __init__ with *args that may raise, where no repr is under way. -/
namespace PySem.W
open Lean Elab Tactic Meta PySem PySem.Calls PyProof.Rows
section
variable {prog : Program} {w : World} {A : Around} {E : Value → Shared → Prop} {s : Shared} {K : Frag} {x C D L f g : Addr} {h₀ : Heap} {m : Str → Option Value} {ox : Obj} {od : Option Obj}
theorem bin_ref {op : Operator} {b : Value} {Q : Value → Shared → Prop} (R : Fr h₀ L s.heap m) (KI : K.In h₀) (I : InstAt s.heap x ox C od) (hb : Looks (model prog w) s.heap (typeOf b) (.ref D)) (ne : C ≠ D) (first : selfFirst K C = true) (first2 : selfFirst K D = true)
    (meth : findIn K (.ref C) (PySem.dunder op.info.2) = some (some (.ref f))) (fn : isFn K (.ref f) = true) (refl : findIn K (.ref C) (dunderR op.info.2) = some none)
    (meth2 : findIn K (.ref D) (PySem.dunder op.info.2) = some (some (.ref g))) (refl2 : findIn K (.ref D) (dunderR op.info.2) = some none) (sub : subIn K (.ref D) (.ref C) = some false)
    (go : wpAny (model prog w) A (call (.ref f) [.ref x, b]) (CmpBack Q) E s) : wpAny (model prog w) A (binaryOp op (.ref x) b) Q E s := by
  have KX := KI.keeps R.keep
  obtain ⟨cd, rest, c1, c2⟩ := ksp_first first
  obtain ⟨cd2, rest2, d1, d2⟩ := ksp_first first2
  rcases hop : op.info with ⟨sy, n⟩
  rw [hop] at meth refl meth2 refl2
  have tried := ksp_try KX I meth fn go
  obtain ⟨hp, gs, dr, tk, os⟩ := s
  have T1 : Looks (model prog w) hp (typeOf (.ref x)) (.ref C) := I.type
  have T2 : Looks (model prog w) hp (typeOf b) (.ref D) := hb
  have F1 : Looks (model prog w) hp (fillsNumberSlot (.ref C) n) true := fills_K KX c1 c2 meth
  have F2 : Looks (model prog w) hp (fillsNumberSlot (.ref D) n) true := fills_K KX d1 d2 meth2
  have S1 : Looks (model prog w) hp (isSubtype (.ref D) (.ref C)) false := looks_subIn KX sub
  have P1 : Looks (model prog w) hp (numberSlotInPython (.ref C) n) true := ksp_inPy KX meth refl (.inl rfl)
  have P2 : Looks (model prog w) hp (numberSlotInPython (.ref D) n) true := ksp_inPy KX meth2 refl2 (.inl rfl)
  have other : (Value.ref C == Value.ref D) = false := by
    refine Bool.eq_false_iff.mpr fun z => ?_
    cases beq_iff_eq.mp z
    exact ne rfl
  simp only [binaryOp, hop]
  refine wpAny_holding ?_
  refine wpAny_bind ?_
  unfold binaryOp1
  refine wpAny_bind (T1.at ?_)
  refine wpAny_bind (T2.at ?_)
  refine wpAny_bind (F1.at ?_)
  simp only [other, Bool.false_eq_true, if_false]
  ksp_lk
  refine wpAny_mono tried ?_ (fun _ _ z => z)
  rintro r s' ⟨v, rfl, q⟩
  ksp_lk
  exact q
end
end PySem.W
namespace L2
open PySem PySem.Spec PyProof.Rows
section
variable {X : Cx} {CX : CXT} {k : Nat} {C D g g2 : Addr} {sp : Sp} {fd : FuncData} {ps : List Str} {E : XK} {a b : Expr} {ta tb : TE} {pos : Pos}
def tBinY (C D : Addr) (sp : Sp) (E : XK) (ta tb : TE) : TE := fun σ H Q => ta σ H fun x H1 => tb σ H1 fun y H2 => ∃ a dx fs b dy gs, x = .ref a ∧ y = .ref b ∧ H2 a = some (.ins C dx fs) ∧ H2 b = some (.ins D dy gs) ∧ sp [x, y] H2 Q E
/-- a op b by the own method, which may raise; b is an instance of another class -/
theorem pe_binY {op : Operator} (ne : C ≠ D) (hc : PySem.W.selfFirst X.K C = true) (hc2 : PySem.W.selfFirst X.K D = true) (hs : PySem.W.findIn X.K (.ref C) (PySem.dunder op.info.2) = some (some (.ref g))) (hf : PySem.W.isFn X.K (.ref g) = true)
    (hr2 : PySem.W.findIn X.K (.ref C) (dunderR op.info.2) = some none) (hs2 : PySem.W.findIn X.K (.ref D) (PySem.dunder op.info.2) = some (some (.ref g2))) (hr3 : PySem.W.findIn X.K (.ref D) (dunderR op.info.2) = some none) (hsub : PySem.W.subIn X.K (.ref D) (.ref C) = some false)
    (F : FnG X.prog X.w X.K X.mg X.base CX k g fd ps sp) (gd : X.A.guards = some []) (hr : Room k X.A) (hb : Binds X.K fd ps []) (hx : Passes CX X E) (ha : PE X a ta) (hbb : PE X b tb) :
    PE X (.BinOp a op b pos) (tBinY C D sp E ta tb) := by
  refine ⟨fun pins s σ H Q I h => ?_⟩
  refine wpAny_BinOp (binT ha hbb I (R := fun x y H2 => ∃ a dx fs b dy gs, x = .ref a ∧ y = .ref b ∧ H2 a = some (.ins C dx fs) ∧ H2 b = some (.ins D dy gs) ∧ sp [x, y] H2 Q E) h fun v u s2 x y H2 I2 rx ry q => ?_)
  obtain ⟨a0, dx, fs, b0, dy, gs, rfl, rfl, h0, h1, q⟩ := q
  cases (show v = Value.ref a0 from rx)
  cases (show u = Value.ref b0 from ry)
  obtain ⟨mA, M, _⟩ := ins_get I2.hok h0
  obtain ⟨oD, J, _⟩ := M.look
  obtain ⟨mB, M', _⟩ := ins_get I2.hok h1
  obtain ⟨oD', J', _⟩ := M'.look
  obtain ⟨m, hF⟩ := I2.fr
  refine PySem.W.bin_ref hF I2.ok.mod.kin J J'.type ne hc hc2 hs hf hr2 hs2 hr3 hsub ?_
  have q' : sp ([.ref a0, .ref b0] ++ []) H2 Q E := by rw [List.append_nil]; exact q
  refine wpAny_mono (run_fnG (vs := [.ref a0, .ref b0]) (us := [.ref a0, .ref b0]) F gd hr hb .nil hx I2 (.cons rfl (.cons rfl .nil)) q') (fun w s' z => ?_) fun _ _ x => x
  obtain ⟨z', H', I', rz, qz⟩ := z
  exact SlX.cmpback rz ⟨z', H', I', rz, qz⟩
/-- a op b, b an int -/
def tBinI (C : Addr) (sp : Sp) (E : XK) (ta tb : TE) : TE := fun σ H Q => ta σ H fun x H1 => tb σ H1 fun y H2 => ∃ a dx fs i, x = .ref a ∧ y = .int i ∧ H2 a = some (.ins C dx fs) ∧ sp [x, y] H2 Q E
theorem pe_binI {op : Operator} {fo ro : Option Value} (hc : PySem.W.selfFirst X.K C = true) (hs : PySem.W.findIn X.K (.ref C) (PySem.dunder op.info.2) = some (some (.ref g))) (hf : PySem.W.isFn X.K (.ref g) = true)
    (hr2 : PySem.W.findIn X.K (.ref C) (dunderR op.info.2) = some none) (h1 : PySem.W.findIn X.K (.type "int") (PySem.dunder op.info.2) = some fo) (h2 : PySem.W.findIn X.K (.type "int") (dunderR op.info.2) = some ro) (hsub : PySem.W.subIn X.K (.type "int") (.ref C) = some false)
    (F : FnG X.prog X.w X.K X.mg X.base CX k g fd ps sp) (gd : X.A.guards = some []) (hr : Room k X.A) (hb : Binds X.K fd ps []) (hx : Passes CX X E) (ha : PE X a ta) (hbb : PE X b tb) :
    PE X (.BinOp a op b pos) (tBinI C sp E ta tb) := by
  refine ⟨fun pins s σ H Q I h => ?_⟩
  refine wpAny_BinOp (binT ha hbb I (R := fun x y H2 => ∃ a dx fs i, x = .ref a ∧ y = .int i ∧ H2 a = some (.ins C dx fs) ∧ sp [x, y] H2 Q E) h fun v u s2 x y H2 I2 rx ry q => ?_)
  obtain ⟨a0, dx, fs, i, rfl, rfl, h0, q⟩ := q
  cases (show v = Value.ref a0 from rx)
  obtain ⟨t, rfl⟩ := ry
  obtain ⟨mA, M, _⟩ := ins_get I2.hok h0
  obtain ⟨oD, J, _⟩ := M.look
  obtain ⟨m, hF⟩ := I2.fr
  refine PySem.W.ksp_binT (T := "int") hF I2.ok.mod.kin J rfl hc hs hf hr2 (.inl rfl) h1 h2 hsub ?_
  have q' : sp ([.ref a0, .int i] ++ []) H2 Q E := by rw [List.append_nil]; exact q
  refine wpAny_mono (run_fnG (vs := [.ref a0, .int i]) (us := [.ref a0, .int i t]) F gd hr hb .nil hx I2 (.cons rfl (.cons ⟨t, rfl⟩ .nil)) q') (fun w s' z => ?_) fun _ _ x => x
  obtain ⟨z', H', I', rz, qz⟩ := z
  exact SlX.cmpback rz ⟨z', H', I', rz, qz⟩
end
/-- what a call's end says, told again of the caller: errors by hx, a value by the wish -/
theorem ended {X : Cx} {CX : CXT} {E : XK} {pins : List (Addr × Obj)} {σ : L2.St} {H : Hp} {s0 : Shared} {W : VK} {R : Value → Shared → Prop} (pass : Passes CX X E) (J : Inv X pins σ H s0)
    (back : ∀ u s1, EP X pins σ W u s1 → R u s1) : ∀ (r : Except Value Flow) (s1 : Shared), CR CX X.stack X.prog X.w H s0 W E r s1 → (match r with | .ok (.ret u) => R u s1 | .ok _ => False | .error er => X.xe er s1) := by
  rintro (er | fl) s1 z
  · exact pass pins σ H s0 er s1 J z
  · cases fl with
    | ret u => exact back u s1 (J.after z)
    | _ => exact z
/-- a new instance of C by an __init__ that is told where no repr is under way -/
theorem made_by {X : Cx} {CX : CXT} {n : Nat} {C g : Addr} {pr : Sp} {E : XK} {pins : List (Addr × Obj)} {σ : L2.St} {H : Hp} {s0 : Shared} {W : VK} {args : List Value} {as : List V} (mk : Mk X.K C g) (init : FnRG X.prog X.w X.K X.mg X.base CX n g pr) (quiet : X.A.guards = some []) (room : Room (n + 1) X.A) (pass : Passes CX X E) (J : Inv X pins σ H s0) (rel : Vals as args)
    (wish : ∀ o od, H o = none → H od = none → od ≠ o → pr (.ref o :: as) (upd (upd H od (.own o)) o (.ins C od [])) (fun v H2 => v = .non ∧ W (.ref o) H2) E) : wpAny (model X.prog X.w) X.A (PySem.call (.ref C) args) (EP X pins σ W) X.xe s0 := by
  have J2 : Inv X pins σ _ _ := Inv.made (C := C) J
  have w := wish _ _ (J.hok.fresh (Nat.le_succ s0.heap.objs.size)) (J.hok.fresh (Nat.le_refl s0.heap.objs.size)) (Nat.ne_of_lt (Nat.lt_succ_self _))
  have run := init _ X.stack _ _ (Value.ref (s0.heap.objs.size + 1) :: args) _ _ E (make_guards.trans quiet) (room.make C args []) (J2.env0.make C args []) (show Vals (V.ref (s0.heap.objs.size + 1) :: as) _ from .cons rfl rel) w
  refine wpAny_call (make_map (f := g) J.kIn mk.makes mk.init (beq_iff_eq.mp mk.fn) (codeAny_mono run fun r s1 z => ?_))
  have d := ended (W := fun v H2 => v = .non ∧ W (.ref (s0.heap.objs.size + 1)) H2) (R := fun u s2 => RelV .non u ∧ EP X pins σ W (.ref (s0.heap.objs.size + 1)) s2) pass J2 (fun u s2 ⟨v, H2, I2, ru, ev, q⟩ => ⟨by rw [← ev]; exact ru, .ref _, H2, I2, rfl, q⟩) r s1 z
  cases r with
  | error er => exact d
  | ok fl =>
    cases fl with
    | ret u => exact d
    | _ => exact d.elim
theorem pe_makeRG {X : Cx} {CX : CXT} {n : Nat} {C g : Addr} {pr : Sp} {E : XK} {nm : Str} {e1 : Expr} {er : List Expr} {ta : TA} {pn pc : Pos} (mk : Mk X.K C g) (init : FnRG X.prog X.w X.K X.mg X.base CX n g pr) (quiet : X.A.guards = some []) (room : Room (n + 1) X.A) (gl : Gl X nm) (at_ : X.mg nm = some (.ref C)) (pass : Passes CX X E) (args : PA X (e1 :: er) ta) (nd : (nm == ("__debug__" : Str)) = false := by decide)
    (st : starEach (e1 :: er) X.env = (false, eval e1 X.env) :: starEach er X.env := by rfl) (pl : (backTo pc (starEach er X.env)).any (·.1) = false := by rfl) : PE X (.Call (.Name nm pn) (e1 :: er) [] pc) (StX.tMakeR C pr E ta) :=
  ⟨fun pins s0 σ H W J w => wpAny_Call_Name_kw (ld_glob J gl at_ (PySem.W.callWith_K (h₀ := X.base) J.ok.mod.kin mk.kp (thn (args.run pc pins s0 σ H _ J w) fun us s1 ⟨as, H1, J1, rel, w1⟩ => ⟨J1.kIn, made_by mk init quiet room pass J1 rel w1⟩) st pl) nd)⟩
end L2

/-! a, b = xs of a list. -/
namespace L2
open PySem PySem.Spec PyProof.Rows
section
variable {X : Cx}
/-- a, b = xs, xs a list -/
def gTupL (K : PySem.W.Frag) (n : Nat) (t : TGs) : TG := fun v σ H Q => ∃ a xs, v = .ref a ∧ SqL K H a xs ∧ xs.length = n ∧ t xs σ H Q
theorem pg_tupL {es : List Expr} {k : Nat} {t : TGs} {n : Nat} {pos : Pos} (hc : X.calm = true) (h : PGs X es t)
    (hn : (assignEach es X.env).length = n := by rfl) (hst : (assignEach es X.env).findIdx? (·.1) = none := by rfl) : PG X (.Tuple es k pos) (gTupL X.K n t) := by
  refine ⟨fun pins s σ H v u Q I r hw => ?_⟩
  obtain ⟨a, xs, e1, hq, hl, hw⟩ := hw
  subst e1
  cases r
  obtain ⟨its, rv, ht, hz⟩ := I.list hq
  rw [assign_Tuple]
  refine wpAny_bind (wpAny_standAt ?_)
  unfold unpack
  rw [hst]
  refine wpAny_bind (wpAny_holding ?_)
  have e : (assignEach es X.env).length = its.toArray.size := by simp [hn, ← hl, rv.length]
  rw [e]
  refine PySem.W.kun_itemsOf (I.ok.hd hc) ht.isList fun h' hx => ?_
  have I1 : Inv X pins σ H { s with heap := h' } := I.kept (t' := s.toks) fun b o e => hx b o (Nat.ne_of_lt (Heap.lt_size e)) e
  exact h.run pins _ σ H xs _ Q I1 (by simpa using rv) hw
end
end L2

/-! o.m(k = v): a method with keywords alone. -/
namespace L2
open PySem PySem.Spec PyProof.Rows
def g2 : List Value → List Value → List Value
  | [u], [w] => [u, w]
  | _, _ => []
def gV2 : List V → List V → List V
  | [u], [w] => [u, w]
  | _, _ => []
/-- one by position (self), one by name -/
theorem KBinds.two {K : PySem.W.Frag} {fd : FuncData} {a b : Str} (h : ∀ u w : Value, bindArgs fd ⟨[u], [(b, w)]⟩ = pure [(a, u), (b, w)]) : KBinds K fd [a, b] [b] g2 gV2 :=
  ⟨fun s us ws _ hl => by
    match us, ws, hl with
    | [u], [w], _ => exact .of_eq (h u w)
    | [], _, hl => simp [g2] at hl
    | _ :: _ :: _, _, hl => simp [g2] at hl
    | [_], [], hl => simp [g2] at hl
    | [_], _ :: _ :: _, hl => simp [g2] at hl, fun {vs us zs ws} r rz => by
    cases r with
    | nil => exact .nil
    | cons r1 r2 =>
      cases r2 with
      | cons _ _ => exact .nil
      | nil =>
        cases rz with
        | nil => exact .nil
        | cons z1 z2 =>
          cases z2 with
          | nil => exact .cons r1 (.cons z1 .nil)
          | cons _ _ => exact .nil⟩
def tMethK (C : Addr) (m : Str) (sp : Sp) (E : XK) (ta : TE) (tk : TA) : TE := fun σ H Q => ta σ H fun x H1 => ∃ a dx fs, x = .ref a ∧ H1 a = some (.ins C dx fs) ∧ fs.lookup m = none ∧ tk σ H1 fun zs H2 => sp (gV2 [x] zs) H2 Q E
theorem pe_methK {X : Cx} {CX : CXT} {k : Nat} {C f : Addr} {m : Str} {fd : FuncData} {ps ks : List Str} {sp : Sp} {E : XK} {o : Expr} {kws : List Keyword} {ta : TE} {tk : TA} {apos pos : Pos} {pl : Sem Bool} (he : PE X o ta) (c : Cls X.K C) (hm : Meth X.K C m f) (F : FnOk X.prog X.w X.K X.mg X.base CX k f fd ps sp) (hr : Room k X.A)
    (hb : KBinds X.K fd ps ks g2 gV2) (hx : Passes CX X E) (hkw : PK X kws tk)
    (hall : (backToKw pos (keywordEach kws X.env)).all (·.1.isSome) = true := by rfl) (hks : (backToKw pos (keywordEach kws X.env)).filterMap (·.1) = ks := by rfl)
    (hpl : ((backTo pos (starEach [] X.env)).any (·.1) || (backToKw pos (keywordEach kws X.env)).any (·.1.isNone)) = false := by rfl)
    (ht : eval (.Call (.Attribute o m apos) [] kws pos) X.env = (do
      let ov ← eval o X.env
      standAt apos.atName
      let (f, first) ← holding [ov] (getMethod ov m pl)
      callWith pos f first (backTo pos (starEach [] X.env)) (backToKw pos (keywordEach kws X.env))) := by rfl) :
    PE X (.Call (.Attribute o m apos) [] kws pos) (tMethK C m sp E ta tk) := by
  constructor
  intro pins s0 σ H W J w
  have obj := he.run pins s0 σ H _ J w
  refine PySem.W.methodCall_KW (pl := pl) (thn obj ?_) ht
  rintro _ s1 ⟨_, H1, J1, rel, a, dx, fs, rfl, ea, lk, w1⟩
  cases rel
  refine getmeth_ok J1 ea c hm lk (PySem.W.callWith_KW0 (h₀ := X.base) (first := [.ref a]) J.ok.mod.kin hm.kp hall (thn (hkw.run pos pins s1 σ H1 _ J1 w1) ?_) hpl)
  rintro vals s2 ⟨zs, H2, J2, rz, w2⟩
  refine ⟨J2.kIn, ?_⟩
  rw [hks]
  exact run_fnk (us := [.ref a]) (vs := [.ref a]) F hr hb hx J2 (Paired.cons rfl Paired.nil) rz w2
end L2

/-! try: .. except x1 as n: .. except x2 as n: ..; one of the clauses takes whatever the body lets out. -/
namespace L2
open PySem PySem.Spec PyProof.Rows
abbrev Suite := Addr → Value → Option Addr → TS
/-- behind a clause its name is gone -/
def Ends.gone (D : Ends) (i : Nat) : Ends where
  nx := fun τ G => D.nx (τ.set i none) G
  rt := D.rt
  bk := fun τ G => D.bk (τ.set i none) G
  ct := fun τ G => D.ct (τ.set i none) G
/-- the first clause that fits has what it wants -/
def Fits (K : PySem.W.Frag) (i : Nat) (D : Ends) : List (Value × Suite) → WX
  | [] => fun _ _ _ _ => False
  | one :: more => fun cls d τ G => (PySem.W.exmOne K cls one.1 = some true ∧ ∀ a, G a = none → one.2 a cls d (D.gone i) (τ.set i (some (.ref a))) G) ∨ (PySem.W.exmOne K cls one.1 = some false ∧ Fits K i D more cls d τ G)
inductive Clauses (X : Cx) (n : Str) : List ExceptHandler → List (Value × Suite) → Prop
  | nil : Clauses X n [] []
  | cons {x : Str} {one : Value × Suite} {st : Stmt} {sts : List Stmt} {p1 p2 : Pos} {hs : List ExceptHandler} {more : List (Value × Suite)} (named : Names X x one.1)
      (suite : ∀ (a : Addr) (oe : Obj) (cls : Value) (d : Option Addr) (pn : List (Addr × Obj)), Zc cls d oe → (∃ vs, oe.data = .fields vs) → PSs (X.suite a ((a, oe) :: pn)) (st :: sts) (one.2 a cls d)) (rest : Clauses X n hs more) :
      Clauses X n (.ExceptHandler (some (.Name x p1)) (some n) (st :: sts) p2 :: hs) (one :: more)
section
variable {X : Cx} {n : Str} {i : Nat} {D : Ends} {pins : List (Addr × Obj)} {τ : St} {G : Hp} {a B : Addr} {cls : Value} {d : Option Addr}
/-- the handlers, once the exception at a has landed: every landing of it keeps the invariant, and a is apart -/
theorem fits_go {base : Heap} {hp : Heap} {s0 : Shared} {oe : Obj} {vs : Array Value} (nd : X.N.Nodup) (slot : X.N[i]? = some n) (loc : X.env.kindOf n = some .local) (stk : X.stack = X.env :: X.outer) (frm : X.env.frame = some X.env.locals)
    (fly : HandSPX.FlyingZ base (X.env :: X.outer) a (Zc cls d) hp) (inv : ∀ h', HandSPX.FlyingZ base (X.env :: X.outer) a (Zc cls d) h' → hp.UpToSlots h' → Inv X pins τ G { s0 with heap := h' }) (here : Inv X pins τ G { s0 with heap := hp }) (free : G a = none) (apart : a ≠ X.env.locals ∧ a ∉ X.fs)
    (obj : hp.get? a = some oe) (of : Zc cls d oe) (dat : oe.data = .fields vs) :
    ∀ {hs : List ExceptHandler} {l : List (Value × Suite)}, Clauses X n hs l → Fits X.K i D l cls d τ G → wpAny (model X.prog X.w) X.A (handleBy (.ref a) X.env hs) (SP X pins D) X.xe { s0 with heap := hp } := by
  intro hs l cl
  induction cl with
  | nil => exact fun z => z.elim
  | @cons x one st sts p1 p2 hs more named suite rest ih =>
    intro w
    have inSuite := here.suite obj dat free apart.1 apart.2
    have kind : PySem.W.Looks (model X.prog X.w) hp (typeOf (.ref a)) cls := fun _ _ _ _ keep z => wpAny_typeOf_ref (keep _ _ obj) (by rw [of.1]; exact z)
    refine wpAny_handleBy_cons (codeAny_handlers_test ?_) (fun z => by cases z)
    have asked : ∀ {Q : Value → Shared → Prop} {E : Value → Shared → Prop}, Q one.1 { s0 with heap := hp } → wpAny (model X.prog X.w) (X.A.mark (some (.ref a))) (eval (.Name x p1) X.env) Q E { s0 with heap := hp } := by
      intro Q E z
      rcases named with ⟨gl, nodebug, own | ⟨none_, boot, noname⟩⟩
      · exact ld_glob (X := X.suite a ((a, oe) :: (X.pn ++ pins))) inSuite gl own z nodebug
      · exact ld_blt (X := X.suite a ((a, oe) :: (X.pn ++ pins))) inSuite gl none_ boot z noname nodebug
    rcases w with ⟨yes, w⟩ | ⟨no, w⟩
    · refine asked ((PySem.W.exm_one (M := model X.prog X.w) here.kIn kind yes).here (codeAny_handlers_suite_as (HandSPX.lands_againZ fly fun h4 fly4 up4 => ?_)))
      have J := inv h4 fly4 up4
      obtain ⟨o4, v4, g4, z4, d4⟩ := fly4.there
      refine store_ok (X := X.suite a ((a, o4) :: (X.pn ++ pins))) (v := .ref a) (J.suite g4 d4 free apart.1 apart.2) nd slot (.inl loc) rfl (fun s5 J5 => ?_) (.inr loc)
      refine wpAny_mono ((suite a o4 cls d (X.pn ++ pins) z4 ⟨_, d4⟩).run [] s5 _ G (D.gone i) J5 (w a free)) (fun fl s6 z => ?_) (fun _ _ z => z.elim)
      have leave : ∀ {τ6 : St} {G6 : Hp} {R : Shared → Prop}, Inv (X.suite a ((a, o4) :: (X.pn ++ pins))) [] τ6 G6 s6 → (∀ s7, Inv X pins (τ6.set i none) G6 s7 → R s7) → wpAny (model X.prog X.w) X.A (do bindName X.env n .none; unbindBehindTheSuite X.env n p2) (fun _ s7 => R s7) X.xe s6 :=
        fun J6 k => gone_ok (J6.unsuite here.ok) nd slot loc k
      cases fl with
      | ret u => obtain ⟨v6, τ6, G6, J6, r6, q6⟩ := z; exact leave J6 fun s7 J7 => ⟨v6, _, G6, J7, r6, q6⟩
      | next => obtain ⟨τ6, G6, J6, q6⟩ := z; exact leave J6 fun s7 J7 => ⟨_, G6, J7, q6⟩
      | brk => obtain ⟨τ6, G6, J6, q6⟩ := z; exact leave J6 fun s7 J7 => ⟨_, G6, J7, q6⟩
      | cont => obtain ⟨τ6, G6, J6, q6⟩ := z; exact leave J6 fun s7 J7 => ⟨_, G6, J7, q6⟩
    · exact asked ((PySem.W.exm_one (M := model X.prog X.w) here.kIn kind no).here (ih w))
end
section
variable {X : Cx} {n : Str} {i : Nat} {body : List Stmt} {h0 : ExceptHandler} {hs : List ExceptHandler} {l : List (Value × Suite)} {pos : Pos} {tb : WX → TS}
theorem ps_try_fits (stk : X.stack = X.env :: X.outer) (frm : X.env.frame = some X.env.locals) (nd : X.N.Nodup) (slot : X.N[i]? = some n) (loc : X.env.kindOf n = some .local)
    (inner : ∀ (W : WX) (pn : List (Addr × Obj)) (xe : Value → Shared → Prop), Takes (X.tr pn xe) W → PassesOwn (model X.prog X.w) X.A X.env xe → PSs (X.tr pn xe) body (tb W))
    (cl : Clauses X n (h0 :: hs) l) : PS X (.Try body (h0 :: hs) [] [] pos) (fun D σ H => tb (Fits X.K i D l) D σ H) := by
  constructor
  intro pins s σ H D I w
  have frames : X.A.frames = some (X.env :: X.outer) := stk ▸ I.ok.frames
  have catching : Takes (X.tr (X.pn ++ pins) (fun ex s1 => wpAny (model X.prog X.w) X.A (noteFrame ex X.env) (fun _ s2 => wpAny (model X.prog X.w) X.A (setFlight ex none) (fun _ s3 => wpAny (model X.prog X.w) X.A (handleBy ex X.env (h0 :: hs)) (SP X pins D) X.xe s3) X.xe s2) X.xe s1)) (Fits X.K i D l) := by
    rintro _ s1 ⟨a, B, sI, _, τ, G, cls, d, rfl, J0, ground, up, sky, free, os, bare, fit⟩
    have J : Inv X pins τ G sI := J0.ofTry I.ok
    have any : ∀ h', HandSPX.FlyingZ B (X.env :: X.outer) a (Zc cls d) h' → s1.heap.UpToSlots h' → Inv X pins τ G { s1 with heap := h' } := fun h' fly to => J.landed ground fly.1 (up.trans to) os bare
    refine Sky.land Zc.steady frames frm (stk ▸ sky) fun h3 fly to => ?_
    obtain ⟨o3, v3, g3, z3, d3⟩ := fly.there
    have out : a ∉ frs (X.env :: X.outer) := fun inn => by
      obtain ⟨_, o, go, nofields⟩ := fly.2.2.1.mem inn
      exact nofields v3 (by rw [← d3, Option.some.inj (g3.symm.trans go)])
    refine fits_go (oe := o3) (vs := v3) (s0 := s1) nd slot loc stk frm fly (fun h' f2 t2 => any h' f2 (to.trans t2)) (any h3 fly to) free ⟨fun z => out ?_, fun z => out ?_⟩ g3 z3 d3 cl fit
    · exact List.mem_filterMap.mpr ⟨X.env, by simp, z ▸ frm⟩
    · obtain ⟨en, inOuter, fr⟩ := List.mem_filterMap.mp z
      exact List.mem_filterMap.mpr ⟨en, by simp [inOuter], fr⟩
  refine wpAny_Try_except (wpAny_mono ((inner _ _ _ catching PassesOwn.looking).run [] s σ H D (I.toTry _) w) (fun fl s1 z => ?_) (fun _ _ z => z))
  cases fl with
  | ret u => obtain ⟨v, τ, G, J, rel, q⟩ := z; exact ⟨v, τ, G, J.ofTry I.ok, rel, q⟩
  | next => obtain ⟨τ, G, J, q⟩ := z; exact wpAny_execs_nil ⟨τ, G, J.ofTry I.ok, q⟩
  | brk => obtain ⟨τ, G, J, q⟩ := z; exact ⟨τ, G, J.ofTry I.ok, q⟩
  | cont => obtain ⟨τ, G, J, q⟩ := z; exact ⟨τ, G, J.ofTry I.ok, q⟩
end
end L2

/-! x(lambda: body): the lambda is called by a def with one parameter; no repr is under way. -/
namespace L2
open PySem PySem.Spec PyProof.Rows LamX
/-- the def that calls what it got -/
def GivesTo1 (X : Cx) (Ng : List Str) (x : Str) (sg : Scope) (g : Addr) (cdg : Value) (bg : List Stmt) (a : Str) (q : Str) (k : Nat) (TT : (XK → Hp → VK → Prop) → Hp → VK → Prop) : Prop :=
  ∀ (f c' : Addr) (s : Shared) (H : Hp) (Q : VK) (tl : XK → Hp → VK → Prop),
    (∀ (W : WX) (pn : List (Addr × Obj)) (xe : Value → Shared → Prop) (p1 p2 : Pos), Takes ((cxOf C8.CX0 X.prog X.w X.K X.mg X.base Ng x sg g cdg X.A X.stack s H C8.E0).tr pn xe) W →
      PE ((cxOf C8.CX0 X.prog X.w X.K X.mg X.base Ng x sg g cdg X.A X.stack s H C8.E0).tr pn xe) (.Call (.Name a p1) [] [] p2) (fun σZ HZ Q => σZ[0]? = some (some (.ref f)) ∧ HZ c' = some (CodeO c' q) ∧ tl (WE W σZ) HZ Q)) →
    Room k (X.A.deeper (envOfC x sg s.heap.objs.size g cdg)) → H c' = some (CodeO c' q) → TT tl H Q →
    ∃ t, PSs (cxOf C8.CX0 X.prog X.w X.K X.mg X.base Ng x sg g cdg X.A X.stack s H C8.E0).nox bg t ∧ t { nx := fun _ H' => Q .non H', rt := Q } (L2.start Ng [.ref f]) H
theorem pe_lamcall1 {X : Cx} {T : List (Addr × Str)} {TT : (XK → Hp → VK → Prop) → Hp → VK → Prop} {x a : Str} {g c P : Addr} {k : Nat} {pg : Arguments} {bg : List Stmt} {sg : Scope} {dV kV doc pm cdv ct oc : Value} {an od : Option Addr} {osl : Array (Option Value)} {Ng : List Str}
    {params : Arguments} {body : Expr} {scope : Scope} {t : XK → TE} {p lpos pos : Pos} (quiet : X.A.guards = some []) (gl : Gl X x) (mod : X.mg x = some (.ref g)) (keep : PySem.W.keepIn X.K (.ref g) = true)
    (lk : X.K.lookup g = some ⟨oc, od, .func (PySem.W.fnOf x x pg bg sg dV kV doc pm an cdv ct), osl⟩) (code : PySem.W.codeIn X.K cdv x = true) (binds : L2.Binds X.K (PySem.W.fnOf x x pg bg sg dV kV doc pm an cdv ct) [a] []) (Sg : FnScope Ng [a] sg) (first : Ng[0]? = some a) (seen : Vis sg a)
    (gives : GivesTo1 X Ng x sg g cdv bg a (X.env.qual ++ "<lambda>") (k + 1) TT)
    (TB : TabB X.base X.mg c P) (own : X.env.code = .ref c) (inT : (P, X.env.qual ++ "<lambda>") ∈ T) (one : ∀ p ∈ T, p.1 = P → p.2 = X.env.qual ++ "<lambda>") (room : Room (k + 2) X.A) (L : LamS X.env.scope scope) (nodef : defaultsOf params X.env = ([], []))
    (nobind : ∀ (q : Str) (cl : List (Str × Addr)) (pm cv ctv : Value), bindArgs (PySem.W.kla_fn "<lambda>" q params body scope cl pm cv ctv) ⟨[], []⟩ = pure [])
    (inside : ∀ (A : Around) (outer : List Env) (s : Shared) (H : Hp) (E : XK) (f c' : Addr), A.guards = some [] → Room k (A.deeper (lamEnv X scope s.heap.objs.size f c')) → PE (lamCx X A outer s H E scope f c') body (t E))
    (nd1 : (x == ("__debug__" : Str)) = false := by decide) (nd2 : (a == ("__debug__" : Str)) = false := by decide) (nc : (a == ("__classdict__" : Str)) = false := by decide) :
    PE X (.Call (.Name x p) [.Lambda params body scope lpos] [] pos) (fun σ H Q => Tabs T H ∧ ∀ H1, ExtN H H1 → Tabs T H1 → TT (fun E H' Q' => t E σ H' Q') H1 Q) := by
  constructor
  rintro pins s0 σ H W J ⟨tabs, w⟩
  refine wpAny_Call_Name_kw (ld_glob J gl mod (PySem.W.callWith_K (h₀ := X.base) J.ok.mod.kin keep ?_ (by rfl) (by rfl)) nd1)
  show wpAny _ _ (spliced [(false, eval (.Lambda params body scope lpos) X.env)]) _ _ s0
  refine Calls.spliced_cons (lam_make2 J TB own inT one tabs nodef (L.has J.ok) fun f c' pm' ctv H1 s1 J1 grown tabs1 hf hfn hfr hco => Calls.spliced_nil ⟨J1.kIn, ?_⟩)
  have run : codeAny (model X.prog X.w) X.A (.call (.ref g) ⟨[.ref f], []⟩) (CR C8.CX0 X.stack X.prog X.w H1 s1 W C8.E0) s1 := by
    refine run_ofS (N := Ng) (ps := [a]) (us := [.ref f]) (vs := [.ref f]) lk code Sg room J1.env0 (binds s1 [.ref f] J1.kIn rfl) (show Vals [V.ref f] [Value.ref f] from .cons rfl .nil) rfl fun room2 => ?_
    obtain ⟨ts, hts, hq⟩ := gives f c' s1 H1 W (fun E H' Q' => t E σ H' Q') (fun V0 pn xe p1 p2 tk => pe_actG (i := 0) quiet J1 L hf hfn hfr (nobind _ _ _ _ _) tk room2 (fun A outer s H E q r => inside A outer s H E f c' q r) first seen nd2 nc) room2 hco (w H1 grown tabs1)
    exact ⟨ts, hts.nox, hq⟩
  have d := fun r s2 z => ended (X := X) (CX := C8.CX0) (E := C8.E0) (R := EP X pins σ W) (fun _ _ _ _ _ _ _ z => (show False from z).elim) J1 (fun _ _ y => y) r s2 z
  refine wpAny_call (codeAny_mono run fun r s2 z => ?_)
  have y := d r s2 z
  cases r with
  | error er => exact y
  | ok fl =>
    cases fl with
    | ret u => exact y
    | _ => exact y.elim
end L2

/-! Plain mathematics for the sign runs of polynomials: rows of integers, lowest exponent first. -/
namespace SR

/-- the sign of an integer -/
def sgn (x : Int) : Int := if x > 0 then 1 else if x < 0 then -1 else 0
theorem sgn_pos {x : Int} (h : 1 ≤ x) : sgn x = 1 := by unfold sgn; rw [if_pos (by omega)]
theorem sgn_neg {x : Int} (h : x ≤ -1) : sgn x = -1 := by unfold sgn; rw [if_neg (by omega), if_pos (by omega)]
theorem sgn_zero : sgn 0 = 0 := rfl
theorem sgn_cases (x : Int) : (1 ≤ x ∧ sgn x = 1) ∨ (x = 0 ∧ sgn x = 0) ∨ (x ≤ -1 ∧ sgn x = -1) := by
  by_cases h : x > 0
  · exact .inl ⟨by omega, sgn_pos (by omega)⟩
  · by_cases h2 : x < 0
    · exact .inr (.inr ⟨by omega, sgn_neg (by omega)⟩)
    · have : x = 0 := by omega
      subst this
      exact .inr (.inl ⟨rfl, rfl⟩)
theorem sgn_bounds (x : Int) : -1 ≤ sgn x ∧ sgn x ≤ 1 := by
  rcases sgn_cases x with ⟨_, h⟩ | ⟨_, h⟩ | ⟨_, h⟩ <;> rw [h] <;> omega
theorem sgn_mono {x y : Int} (h : x ≤ y) : sgn x ≤ sgn y := by
  rcases sgn_cases x with ⟨a, e⟩ | ⟨a, e⟩ | ⟨a, e⟩ <;> rcases sgn_cases y with ⟨b, f⟩ | ⟨b, f⟩ | ⟨b, f⟩ <;> omega
theorem sgn_opp (x : Int) : sgn (-x) = - sgn x := by
  rcases sgn_cases x with ⟨a, e⟩ | ⟨a, e⟩ | ⟨a, e⟩ <;> rcases sgn_cases (-x) with ⟨b, f⟩ | ⟨b, f⟩ | ⟨b, f⟩ <;> omega
theorem sgn_mul (x y : Int) : sgn (x * y) = sgn x * sgn y := by
  rcases sgn_cases x with ⟨a, e⟩ | ⟨a, e⟩ | ⟨a, e⟩
  · rcases sgn_cases y with ⟨b, f⟩ | ⟨b, f⟩ | ⟨b, f⟩
    · have : 1 * 1 ≤ x * y := Int.mul_le_mul a b (by omega) (by omega)
      rw [e, f, sgn_pos (by omega)]; rfl
    · rw [b, Int.mul_zero, e]; rfl
    · have : 1 * 1 ≤ x * (-y) := Int.mul_le_mul a (by omega) (by omega) (by omega)
      rw [Int.mul_neg] at this
      rw [e, f, sgn_neg (by omega)]; rfl
  · rw [a, Int.zero_mul]; simp [sgn_zero]
  · rcases sgn_cases y with ⟨b, f⟩ | ⟨b, f⟩ | ⟨b, f⟩
    · have : 1 * 1 ≤ (-x) * y := Int.mul_le_mul (by omega) b (by omega) (by omega)
      rw [Int.neg_mul] at this
      rw [e, f, sgn_neg (by omega)]; rfl
    · rw [b, Int.mul_zero, e]; rfl
    · have : 1 * 1 ≤ (-x) * (-y) := Int.mul_le_mul (by omega) (by omega) (by omega) (by omega)
      rw [Int.neg_mul_neg] at this
      rw [e, f, sgn_pos (by omega)]; rfl

/-- the value of a row -/
def ev : List Int → Int → Int
  | [], _ => 0
  | a :: r, x => a + x * ev r x

/-- all values keep one sign far to the right -/
theorem far_right (M : Int) (hM : 0 ≤ M) : ∀ r : List Int, (∀ a ∈ r, -M ≤ a ∧ a ≤ M) → (∀ x, ev r x = 0) ∨ (∀ x, M + 1 ≤ x → 1 ≤ ev r x) ∨ (∀ x, M + 1 ≤ x → ev r x ≤ -1)
  | [], _ => .inl fun _ => rfl
  | a :: t, h => by
    have ha := h a (by simp)
    rcases far_right M hM t (fun b hb => h b (by simp [hb])) with z | z | z
    · have e : ∀ x, ev (a :: t) x = a := fun x => by show a + x * ev t x = a; rw [z, Int.mul_zero, Int.add_zero]
      rcases sgn_cases a with ⟨p, _⟩ | ⟨p, _⟩ | ⟨p, _⟩
      · exact .inr (.inl fun x _ => by rw [e]; exact p)
      · exact .inl fun x => by rw [e]; exact p
      · exact .inr (.inr fun x _ => by rw [e]; exact p)
    · refine .inr (.inl fun x hx => ?_)
      show 1 ≤ a + x * ev t x
      have : (M + 1) * 1 ≤ x * ev t x := Int.mul_le_mul hx (z x hx) (by omega) (by omega)
      omega
    · refine .inr (.inr fun x hx => ?_)
      show a + x * ev t x ≤ -1
      have : (M + 1) * 1 ≤ x * (- ev t x) := Int.mul_le_mul hx (by have := z x hx; omega) (by omega) (by omega)
      rw [Int.mul_neg] at this
      omega
/-- .. and far to the left -/
theorem far_left (M : Int) (hM : 0 ≤ M) : ∀ r : List Int, (∀ a ∈ r, -M ≤ a ∧ a ≤ M) → (∀ x, ev r x = 0) ∨ (∀ x, x ≤ -(M + 1) → 1 ≤ ev r x) ∨ (∀ x, x ≤ -(M + 1) → ev r x ≤ -1)
  | [], _ => .inl fun _ => rfl
  | a :: t, h => by
    have ha := h a (by simp)
    rcases far_left M hM t (fun b hb => h b (by simp [hb])) with z | z | z
    · have e : ∀ x, ev (a :: t) x = a := fun x => by show a + x * ev t x = a; rw [z, Int.mul_zero, Int.add_zero]
      rcases sgn_cases a with ⟨p, _⟩ | ⟨p, _⟩ | ⟨p, _⟩
      · exact .inr (.inl fun x _ => by rw [e]; exact p)
      · exact .inl fun x => by rw [e]; exact p
      · exact .inr (.inr fun x _ => by rw [e]; exact p)
    · refine .inr (.inr fun x hx => ?_)
      show a + x * ev t x ≤ -1
      have : (M + 1) * 1 ≤ (-x) * ev t x := Int.mul_le_mul (by omega) (z x hx) (by omega) (by omega)
      rw [Int.neg_mul] at this
      omega
    · refine .inr (.inl fun x hx => ?_)
      show 1 ≤ a + x * ev t x
      have : (M + 1) * 1 ≤ (-x) * (- ev t x) := Int.mul_le_mul (by omega) (by have := z x hx; omega) (by omega) (by omega)
      rw [Int.neg_mul_neg] at this
      omega
theorem right_sign {M : Int} (hM : 0 ≤ M) {r : List Int} (h : ∀ a ∈ r, -M ≤ a ∧ a ≤ M) : ∃ s, ∀ x, M + 1 ≤ x → sgn (ev r x) = s := by
  rcases far_right M hM r h with z | z | z
  · exact ⟨0, fun x _ => by rw [z]; rfl⟩
  · exact ⟨1, fun x hx => sgn_pos (z x hx)⟩
  · exact ⟨-1, fun x hx => sgn_neg (z x hx)⟩
theorem left_sign {M : Int} (hM : 0 ≤ M) {r : List Int} (h : ∀ a ∈ r, -M ≤ a ∧ a ≤ M) : ∃ s, ∀ x, x ≤ -(M + 1) → sgn (ev r x) = s := by
  rcases far_left M hM r h with z | z | z
  · exact ⟨0, fun x _ => by rw [z]; rfl⟩
  · exact ⟨1, fun x hx => sgn_pos (z x hx)⟩
  · exact ⟨-1, fun x hx => sgn_neg (z x hx)⟩

/-- does not end in 0 -/
def Canon (r : List Int) : Prop := r.getLast? ≠ some 0
theorem Canon.tail {a : Int} {t : List Int} (h : Canon (a :: t)) (ht : t ≠ []) : Canon t := by
  cases t with
  | nil => exact (ht rfl).elim
  | cons b u => intro e; apply h; rw [List.getLast?_cons_cons]; exact e
/-- a row that does not end in 0 has some value -/
theorem canon_far {M : Int} (hM : 0 ≤ M) : ∀ {r : List Int}, r ≠ [] → Canon r → (∀ a ∈ r, -M ≤ a ∧ a ≤ M) → (∀ x, M + 1 ≤ x → 1 ≤ ev r x) ∨ (∀ x, M + 1 ≤ x → ev r x ≤ -1)
  | [], hn, _, _ => (hn rfl).elim
  | [a], _, c, h => by
    have e : ∀ x, ev [a] x = a := fun x => by show a + x * 0 = a; omega
    have na : a ≠ 0 := fun z => c (by rw [z]; rfl)
    by_cases p : 0 < a
    · exact .inl fun x _ => by rw [e]; omega
    · exact .inr fun x _ => by rw [e]; omega
  | a :: b :: u, _, c, h => by
    have ha := h a (by simp)
    have ct : Canon (b :: u) := c.tail (by simp)
    rcases canon_far hM (r := b :: u) (by simp) ct (fun y hy => h y (by simp [List.mem_cons.mp hy])) with z | z
    · refine .inl fun x hx => ?_
      show 1 ≤ a + x * ev (b :: u) x
      have : (M + 1) * 1 ≤ x * ev (b :: u) x := Int.mul_le_mul hx (z x hx) (by omega) (by omega)
      omega
    · refine .inr fun x hx => ?_
      show a + x * ev (b :: u) x ≤ -1
      have : (M + 1) * 1 ≤ x * (- ev (b :: u) x) := Int.mul_le_mul hx (by have := z x hx; omega) (by omega) (by omega)
      rw [Int.mul_neg] at this
      omega
theorem bounded : ∀ r : List Int, ∃ M : Int, 0 ≤ M ∧ ∀ a ∈ r, -M ≤ a ∧ a ≤ M
  | [] => ⟨0, by omega, fun _ h => by cases h⟩
  | a :: t => by
    obtain ⟨M, h0, h⟩ := bounded t
    refine ⟨M + a.natAbs, by omega, fun b hb => ?_⟩
    rcases List.mem_cons.mp hb with rfl | hb
    · omega
    · have := h b hb; omega
/-- of the rows with the same values the ones that do not end in 0 are not longer -/
theorem canon_len : ∀ {c q : List Int} {N : Int}, Canon c → (∀ x, N ≤ x → ev c x = ev q x) → c.length ≤ q.length
  | [], q, N, _, _ => by simp
  | a :: t, [], N, hc, h => by
    obtain ⟨M, h0, hM⟩ := bounded (a :: t)
    exfalso
    rcases canon_far h0 (by simp) hc hM with z | z
    · have h1 := z (M + 1 + N.natAbs) (by omega)
      rw [h _ (by omega)] at h1
      exact absurd h1 (by show ¬ (1 ≤ (0 : Int)); omega)
    · have h1 := z (M + 1 + N.natAbs) (by omega)
      rw [h _ (by omega)] at h1
      exact absurd h1 (by show ¬ ((0 : Int) ≤ -1); omega)
  | a :: t, b :: u, N, hc, h => by
    by_cases ht : t = []
    · subst ht; simp
    have hd : ∀ x, N ≤ x → a - b = x * (ev u x - ev t x) := fun x hx => by
      have e : a + x * ev t x = b + x * ev u x := h x hx
      rw [Int.mul_sub]; omega
    have hab : a = b := by
      have e := hd (N.natAbs + (a - b).natAbs + 1) (by omega)
      generalize hy : ev u (N.natAbs + (a - b).natAbs + 1 : Int) - ev t (N.natAbs + (a - b).natAbs + 1 : Int) = y at e
      rcases sgn_cases y with ⟨p, _⟩ | ⟨p, _⟩ | ⟨p, _⟩
      · have : ((N.natAbs : Int) + (a - b).natAbs + 1) * 1 ≤ ((N.natAbs : Int) + (a - b).natAbs + 1) * y := Int.mul_le_mul_of_nonneg_left p (by omega)
        omega
      · rw [p, Int.mul_zero] at e; omega
      · have : ((N.natAbs : Int) + (a - b).natAbs + 1) * 1 ≤ ((N.natAbs : Int) + (a - b).natAbs + 1) * (-y) := Int.mul_le_mul_of_nonneg_left (by omega) (by omega)
        rw [Int.mul_neg] at this
        omega
    have ih := canon_len (c := t) (q := u) (N := N.natAbs + 1) (hc.tail ht) (fun x hx => by
      have e := hd x (by omega)
      rw [hab, Int.sub_self] at e
      rcases Int.mul_eq_zero.mp e.symm with z | z <;> omega)
    simp only [List.length_cons]
    omega

/-! ### rows made of rows -/
/-- without the zeros at the end -/
def trim (r : List Int) : List Int := (r.reverse.dropWhile (· == 0)).reverse
def addR : List Int → List Int → List Int
  | [], q => q
  | p, [] => p
  | a :: p, b :: q => (a + b) :: addR p q
theorem ev_addR : ∀ (p q : List Int) (x : Int), ev (addR p q) x = ev p x + ev q x
  | [], q, x => by show ev (addR [] q) x = 0 + ev q x; rw [addR]; omega
  | a :: p, [], x => by show ev (addR (a :: p) []) x = ev (a :: p) x + 0; rw [addR]; omega; simp
  | a :: p, b :: q, x => by
    show a + b + x * ev (addR p q) x = a + x * ev p x + (b + x * ev q x)
    rw [ev_addR p q x, Int.mul_add]; omega
theorem len_addR : ∀ (p q : List Int), (addR p q).length = max p.length q.length
  | [], q => by rw [addR]; simp
  | a :: p, [] => by rw [addR]; simp; simp
  | a :: p, b :: q => by rw [addR]; simp only [List.length_cons, len_addR p q]; omega
/-- the row of the value at x + 1 -/
def shiftR : List Int → List Int
  | [] => []
  | a :: t => addR (a :: shiftR t) (shiftR t)
theorem ev_shiftR : ∀ (r : List Int) (x : Int), ev (shiftR r) x = ev r (x + 1)
  | [], _ => rfl
  | a :: t, x => by
    show ev (addR (a :: shiftR t) (shiftR t)) x = a + (x + 1) * ev t (x + 1)
    rw [ev_addR]
    show a + x * ev (shiftR t) x + ev (shiftR t) x = _
    rw [ev_shiftR t x, Int.add_mul]; omega
theorem len_shiftR : ∀ r : List Int, (shiftR r).length = r.length
  | [] => rfl
  | a :: t => by
    show (addR (a :: shiftR t) (shiftR t)).length = _
    rw [len_addR]; simp only [List.length_cons, len_shiftR t]; omega
/-- the row of the steps -/
def stepR : List Int → List Int
  | [] => []
  | _ :: t => addR (if t = [] then [] else 0 :: stepR t) (shiftR t)
theorem ev_stepR : ∀ (r : List Int) (x : Int), ev (stepR r) x = ev r (x + 1) - ev r x
  | [], _ => rfl
  | a :: t, x => by
    show ev (addR (if t = [] then [] else 0 :: stepR t) (shiftR t)) x = a + (x + 1) * ev t (x + 1) - (a + x * ev t x)
    rw [ev_addR, ev_shiftR, Int.add_mul]
    by_cases h : t = []
    · rw [if_pos h, h]; simp [ev]
    · rw [if_neg h]
      show 0 + x * ev (stepR t) x + ev t (x + 1) = _
      rw [ev_stepR t x, Int.mul_sub]; omega
theorem len_stepR : ∀ r : List Int, (stepR r).length ≤ r.length - 1
  | [] => by simp [stepR]
  | a :: t => by
    show (addR (if t = [] then [] else 0 :: stepR t) (shiftR t)).length ≤ _
    rw [len_addR, len_shiftR]
    by_cases h : t = []
    · rw [if_pos h, h]; simp
    · rw [if_neg h]
      have := len_stepR t
      have : t.length ≠ 0 := fun e => h (List.length_eq_zero_iff.mp e)
      simp only [List.length_cons]; omega
/-- the steps of a polynomial, as a row that does not end in 0, are shorter -/
theorem step_len {r c : List Int} (hc : Canon c) (h : ∀ x, ev c x = ev r (x + 1) - ev r x) (hr : 1 ≤ r.length) : c.length < r.length := by
  have a := canon_len (c := c) (q := stepR r) (N := 0) hc (fun x _ => by rw [h, ev_stepR])
  have b := len_stepR r
  omega

/-! ### sizes -/
def Bd (n : Nat) (r : List Int) : Prop := ∀ a ∈ r, a.natAbs < 2 ^ n
theorem pow_mono {n m : Nat} (h : n ≤ m) : 2 ^ n ≤ 2 ^ m := Nat.pow_le_pow_right (by omega) h
theorem Bd.mono {n m : Nat} {r : List Int} (h : Bd n r) (hm : n ≤ m) : Bd m r := fun a ha => Nat.lt_of_lt_of_le (h a ha) (pow_mono hm)
theorem bd_mul {a b : Int} {n m : Nat} (ha : a.natAbs < 2 ^ n) (hb : b.natAbs < 2 ^ m) : (a * b).natAbs < 2 ^ (n + m) := by
  rw [Int.natAbs_mul, Nat.pow_add]
  exact Nat.mul_lt_mul'' ha hb
theorem bd_add {a b : Int} {n m k : Nat} (ha : a.natAbs < 2 ^ n) (hb : b.natAbs < 2 ^ m) (hn : n < k) (hm : m < k) : (a + b).natAbs < 2 ^ k := by
  have h1 : 2 ^ n ≤ 2 ^ (k - 1) := pow_mono (by omega)
  have h2 : 2 ^ m ≤ 2 ^ (k - 1) := pow_mono (by omega)
  have h3 : 2 ^ k = 2 ^ (k - 1) + 2 ^ (k - 1) := by
    obtain ⟨j, rfl⟩ : ∃ j, k = j + 1 := ⟨k - 1, by omega⟩
    rw [Nat.add_sub_cancel, Nat.pow_succ]; omega
  have := Int.natAbs_add_le a b
  omega
theorem ev_bd {n m : Nat} {x : Int} (hx : x.natAbs < 2 ^ m) : ∀ {r : List Int}, Bd n r → (ev r x).natAbs < 2 ^ (n + r.length * (m + 1))
  | [], _ => by show (0 : Int).natAbs < _; exact Nat.pos_of_ne_zero (by simp)
  | a :: t, h => by
    have ha := h a (by simp)
    have ih := ev_bd hx (r := t) (fun b hb => h b (by simp [hb]))
    refine bd_add (n := n) (m := m + (n + t.length * (m + 1))) ha (bd_mul hx ih) ?_ ?_
    · simp only [List.length_cons, Nat.add_mul]; omega
    · simp only [List.length_cons, Nat.add_mul]; omega
theorem Bd.int {n : Nat} {r : List Int} (h : Bd n r) : ∀ a ∈ r, -((2 ^ n : Nat) : Int) ≤ a ∧ a ≤ ((2 ^ n : Nat) : Int) := fun a ha => by
  have := h a ha; omega
end SR

/-! The rows that the program makes. -/
namespace SR
theorem ev_append_zeros : ∀ (c : List Int) (k : Nat) (x : Int), ev (c ++ List.replicate k 0) x = ev c x
  | [], 0, _ => rfl
  | [], k + 1, x => by
    show (0 : Int) + x * ev ([] ++ List.replicate k 0) x = 0
    rw [ev_append_zeros [] k x]; show (0 : Int) + x * 0 = 0; omega
  | a :: c, k, x => by
    show a + x * ev (c ++ List.replicate k 0) x = a + x * ev c x
    rw [ev_append_zeros c k x]
/-- two rows made equally long, added -/
theorem pad_add : ∀ (r q : List Int), List.zipWith (· + ·) (r ++ List.replicate (max r.length q.length - r.length) 0) (q ++ List.replicate (max r.length q.length - q.length) 0) = addR r q
  | [], q => by
    rw [addR]
    have e : max ([] : List Int).length q.length - q.length = 0 := by simp
    rw [e]
    simp only [List.length_nil, Nat.zero_max, Nat.sub_zero, List.nil_append, List.replicate_zero, List.append_nil]
    induction q with
    | nil => rfl
    | cons a q ih => rw [List.length_cons, List.replicate_succ, List.zipWith_cons_cons, ih (by simp)]; simp
  | a :: r, [] => by
    rw [addR]
    · have e : max (a :: r).length ([] : List Int).length - (a :: r).length = 0 := by simp
      rw [e]
      simp only [List.length_nil, Nat.max_zero, Nat.sub_zero, List.nil_append, List.replicate_zero, List.append_nil]
      generalize a :: r = l
      induction l with
      | nil => rfl
      | cons a q ih => rw [List.length_cons, List.replicate_succ, List.zipWith_cons_cons, ih]; simp
    · simp
  | a :: r, b :: q => by
    have e1 : max (a :: r).length (b :: q).length - (a :: r).length = max r.length q.length - r.length := by simp only [List.length_cons]; omega
    have e2 : max (a :: r).length (b :: q).length - (b :: q).length = max r.length q.length - q.length := by simp only [List.length_cons]; omega
    rw [e1, e2, addR, List.cons_append, List.cons_append, List.zipWith_cons_cons, pad_add r q]
/-- a coefficient of a product -/
def conv (r q : List Int) (at_ : Nat) : Int := ((List.range (at_ + 1)).map fun low => r.getD low 0 * q.getD (at_ - low) 0).sum
def mulR (r q : List Int) : List Int := (List.range (r.length + q.length)).map (conv r q)
theorem range_ev (n : Nat) (f : Nat → Int) (x : Int) : ev ((List.range (n + 1)).map f) x = f 0 + x * ev ((List.range n).map fun k => f (k + 1)) x := by
  rw [List.range_succ_eq_map, List.map_cons, List.map_map]; rfl
theorem ev_add : ∀ (n : Nat) (f g : Nat → Int) (x : Int), ev ((List.range n).map fun k => f k + g k) x = ev ((List.range n).map f) x + ev ((List.range n).map g) x
  | 0, _, _, _ => rfl
  | n + 1, f, g, x => by
    rw [range_ev, range_ev, range_ev, ev_add n (fun k => f (k + 1)) (fun k => g (k + 1)) x, Int.mul_add]; omega
theorem ev_scale : ∀ (n : Nat) (c : Int) (f : Nat → Int) (x : Int), ev ((List.range n).map fun k => c * f k) x = c * ev ((List.range n).map f) x
  | 0, c, _, _ => by show (0 : Int) = c * 0; omega
  | n + 1, c, f, x => by
    rw [range_ev, range_ev, ev_scale n c (fun k => f (k + 1)) x, Int.mul_add]
    rw [← Int.mul_assoc, ← Int.mul_assoc, Int.mul_comm x c]
theorem ev_zero : ∀ (n : Nat) (f : Nat → Int) (x : Int), (∀ k, f k = 0) → ev ((List.range n).map f) x = 0
  | 0, _, _, _ => rfl
  | n + 1, f, x, h => by rw [range_ev, ev_zero n _ x (fun k => h (k + 1)), h 0]; simp
theorem ev_getD : ∀ (q : List Int) (n : Nat) (x : Int), q.length ≤ n → ev ((List.range n).map fun k => q.getD k 0) x = ev q x
  | [], n, x, _ => ev_zero n _ x (fun k => by simp)
  | a :: q, 0, x, h => by simp at h
  | a :: q, n + 1, x, h => by
    rw [range_ev]
    show a + x * ev ((List.range n).map fun k => q.getD k 0) x = a + x * ev q x
    rw [ev_getD q n x (by simpa using h)]
theorem conv_zero (q : List Int) (k : Nat) : conv [] q k = 0 := by
  unfold conv
  have : (fun low => ([] : List Int).getD low 0 * q.getD (k - low) 0) = fun _ => 0 := by funext low; simp
  rw [this]
  generalize List.range (k + 1) = l
  induction l with
  | nil => rfl
  | cons a t ih => rw [List.map_cons, List.sum_cons, ih]; rfl
theorem conv_succ (a : Int) (r q : List Int) (k : Nat) : conv (a :: r) q (k + 1) = a * q.getD (k + 1) 0 + conv r q k := by
  unfold conv
  rw [List.range_succ_eq_map, List.map_cons, List.map_map, List.sum_cons]
  have e : (fun low => (a :: r).getD low 0 * q.getD (k + 1 - low) 0) ∘ Nat.succ = fun low => r.getD low 0 * q.getD (k - low) 0 := by
    funext low
    show (a :: r).getD (low + 1) 0 * q.getD (k + 1 - (low + 1)) 0 = _
    rw [show k + 1 - (low + 1) = k - low by omega]; rfl
  rw [e]; rfl
theorem conv_at0 (a : Int) (r q : List Int) : conv (a :: r) q 0 = a * q.getD 0 0 := by
  show a * q.getD 0 0 + 0 = _; omega
theorem ev_mulR : ∀ (r q : List Int) (x : Int), ev (mulR r q) x = ev r x * ev q x
  | [], q, x => by
    show ev ((List.range _).map _) x = 0 * _
    rw [ev_zero _ _ x (fun k => conv_zero q k)]; omega
  | a :: r, q, x => by
    unfold mulR
    have e1 : (a :: r).length + q.length = (r.length + q.length) + 1 := by simp only [List.length_cons]; omega
    rw [e1, range_ev, conv_at0]
    have e2 : (fun k => conv (a :: r) q (k + 1)) = fun k => a * q.getD (k + 1) 0 + conv r q k := funext fun k => conv_succ a r q k
    rw [e2, ev_add, ev_scale _ a (fun k => q.getD (k + 1) 0)]
    have e3 := ev_mulR r q x
    unfold mulR at e3
    rw [e3]
    have e4 := ev_getD q (r.length + q.length + 1) x (by omega)
    rw [range_ev] at e4
    show _ = (a + x * ev r x) * ev q x
    rw [← e4]
    generalize ev (List.map (fun k => q.getD (k + 1) 0) (List.range (r.length + q.length))) x = T
    generalize ev r x = R
    generalize q.getD 0 0 = Z
    grind
def oppR (r : List Int) : List Int := r.map fun a => 0 - a
theorem ev_oppR : ∀ (r : List Int) (x : Int), ev (oppR r) x = - ev r x
  | [], _ => rfl
  | a :: r, x => by
    show 0 - a + x * ev (oppR r) x = -(a + x * ev r x)
    rw [ev_oppR r x, Int.mul_neg]; omega
/-! sizes -/
theorem Bd.append {n : Nat} {r q : List Int} (h : Bd n (r ++ q)) : Bd n r := fun a ha => h a (by simp [ha])
theorem Bd.add {n m k : Nat} (hn : n < k) (hm : m < k) : ∀ {r q : List Int}, Bd n r → Bd m q → Bd k (addR r q)
  | [], q, _, hq => by rw [addR]; exact hq.mono (by omega)
  | a :: r, [], hr, _ => by rw [addR]; exact hr.mono (by omega); simp
  | a :: r, b :: q, hr, hq => by
    rw [addR]
    intro y hy
    rcases List.mem_cons.mp hy with rfl | hy
    · exact bd_add (hr a (by simp)) (hq b (by simp)) hn hm
    · exact Bd.add hn hm (fun z hz => hr z (by simp [hz])) (fun z hz => hq z (by simp [hz])) y hy
theorem Bd.opp {n : Nat} {r : List Int} (h : Bd n r) : Bd n (oppR r) := fun y hy => by
  obtain ⟨a, ha, rfl⟩ := List.mem_map.mp hy
  have := h a ha
  omega
theorem Bd.getD {n : Nat} {r : List Int} (h : Bd n r) (i : Nat) : (r.getD i 0).natAbs < 2 ^ n := by
  rw [List.getD_eq_getElem?_getD]
  cases e : r[i]? with
  | none => exact Nat.pos_of_ne_zero (by simp)
  | some a => exact h a (List.mem_of_getElem? e)
theorem sum_bd {n : Nat} : ∀ (l : List Int) (k : Nat), (∀ a ∈ l, a.natAbs < 2 ^ n) → l.length ≤ 2 ^ k → l.sum.natAbs < 2 ^ (n + k) + 1 := by
  intro l k h hl
  have e : ∀ l : List Int, (∀ a ∈ l, a.natAbs < 2 ^ n) → l.sum.natAbs ≤ l.length * 2 ^ n := by
    intro l
    induction l with
    | nil => intro _; simp
    | cons a t ih =>
      intro h
      have h1 := h a (by simp)
      have h2 := ih (fun b hb => h b (by simp [hb]))
      rw [List.sum_cons, List.length_cons, Nat.add_mul]
      have := Int.natAbs_add_le a t.sum
      omega
  have h1 := e l h
  have h2 : l.length * 2 ^ n ≤ 2 ^ k * 2 ^ n := Nat.mul_le_mul_right _ hl
  rw [Nat.pow_add, Nat.mul_comm (2 ^ n)]
  omega
theorem Bd.mul {n m : Nat} {r q : List Int} (hr : Bd n r) (hq : Bd m q) (hl : r.length + q.length ≤ 16) : Bd (n + m + 5) (mulR r q) := fun y hy => by
  obtain ⟨at_, ha, rfl⟩ := List.mem_map.mp hy
  have ha := List.mem_range.mp ha
  have h := sum_bd (n := n + m) ((List.range (at_ + 1)).map fun low => r.getD low 0 * q.getD (at_ - low) 0) 4 (fun z hz => by
    obtain ⟨low, _, rfl⟩ := List.mem_map.mp hz
    exact bd_mul (hr.getD _) (hq.getD _)) (by simp; omega)
  have h2 : 2 ^ (n + m + 4) + 1 ≤ 2 ^ (n + m + 5) := by
    have : 1 ≤ 2 ^ (n + m + 4) := Nat.pos_of_ne_zero (by simp)
    rw [Nat.pow_succ 2 (n + m + 4)]; omega
  unfold conv
  omega
theorem len_mulR (r q : List Int) : (mulR r q).length = r.length + q.length := by simp [mulR]
end SR

/-! Ratios as pairs in lowest terms. -/
namespace RA
/-- what top and bottom are divided by -/
def gB (t b : Int) : Int := if b < 0 then -(Int.gcd t b : Int) else (Int.gcd t b : Int)
def nf (t b : Int) : Int × Int := (t.fdiv (gB t b), b.fdiv (gB t b))
def Nrm (p : Int × Int) : Prop := 0 < p.2 ∧ Int.gcd p.1 p.2 = 1
theorem gcd_pos {t b : Int} (h : b ≠ 0) : 0 < Int.gcd t b := by
  rcases Nat.eq_zero_or_pos (Int.gcd t b) with e | e
  · exact absurd (Int.gcd_eq_zero_iff.mp e).2 h
  · exact e
theorem gB_ne {t b : Int} (h : b ≠ 0) : gB t b ≠ 0 := by
  have := gcd_pos (t := t) h
  unfold gB
  split <;> omega
theorem gB_dvd1 (t b : Int) : gB t b ∣ t := by
  unfold gB
  split
  · exact Int.neg_dvd.mpr (Int.gcd_dvd_left ..)
  · exact Int.gcd_dvd_left ..
theorem gB_dvd2 (t b : Int) : gB t b ∣ b := by
  unfold gB
  split
  · exact Int.neg_dvd.mpr (Int.gcd_dvd_right ..)
  · exact Int.gcd_dvd_right ..
theorem fdiv_dvd {a b : Int} (h : b ∣ a) : a.fdiv b * b = a := by
  rw [Int.fdiv_eq_ediv_of_dvd h]
  exact Int.ediv_mul_cancel h
theorem nf1 (t b : Int) : (nf t b).1 * gB t b = t := fdiv_dvd (gB_dvd1 t b)
theorem nf2 (t b : Int) : (nf t b).2 * gB t b = b := fdiv_dvd (gB_dvd2 t b)
theorem gB_abs (t b : Int) : (gB t b).natAbs = Int.gcd t b := by
  unfold gB
  split <;> omega
theorem nf_nrm {t b : Int} (h : b ≠ 0) : Nrm (nf t b) := by
  have hg := gB_ne (t := t) h
  have e1 := nf1 t b
  have e2 := nf2 t b
  have ha := gB_abs t b
  have hp := gcd_pos (t := t) h
  constructor
  · have hs : (b < 0 ∧ gB t b < 0) ∨ (0 < b ∧ 0 < gB t b) := by
      unfold gB
      rcases Int.lt_or_lt_of_ne h with hb | hb
      · exact .inl ⟨hb, by rw [if_pos hb]; omega⟩
      · exact .inr ⟨hb, by rw [if_neg (by omega)]; omega⟩
    rcases Int.lt_trichotomy (nf t b).2 0 with h0 | h0 | h0
    · rcases hs with ⟨hb, g⟩ | ⟨hb, g⟩
      · have := Int.mul_pos_of_neg_of_neg h0 g
        omega
      · have := Int.mul_neg_of_neg_of_pos h0 g
        omega
    · rw [h0] at e2
      omega
    · exact h0
  · have k : Int.gcd ((nf t b).1 * gB t b) ((nf t b).2 * gB t b) = Int.gcd (nf t b).1 (nf t b).2 * (gB t b).natAbs := Int.gcd_mul_right ..
    rw [e1, e2, ha] at k
    exact Nat.eq_of_mul_eq_mul_right hp (by rw [Nat.one_mul]; exact k.symm)
theorem fdiv_one (a : Int) : a.fdiv 1 = a := by
  rw [Int.fdiv_eq_ediv_of_nonneg a (by omega)]
  exact Int.ediv_one a
theorem nf_of {p : Int × Int} (h : Nrm p) : nf p.1 p.2 = p := by
  have e : gB p.1 p.2 = 1 := by
    unfold gB
    rw [if_neg (by have := h.1; omega), h.2]
    rfl
  unfold nf
  rw [e, fdiv_one, fdiv_one]
theorem nf_ofI {a b : Int} (h : Nrm (a, b)) : nf a b = (a, b) := nf_of h
theorem nrm_neg {a b : Int} (h : Nrm (a, b)) : Nrm (-a, b) := ⟨h.1, by have := h.2; show Int.gcd (-a) b = 1; rw [Int.neg_gcd]; exact this⟩
theorem nrm_int (n : Int) : Nrm (n, 1) := ⟨by show (0 : Int) < 1; decide, by show Int.gcd n 1 = 1; simp⟩
theorem nf_int (n : Int) : nf n 1 = (n, 1) := nf_of (nrm_int n)
theorem nf_negneg {a b : Int} (h : Nrm (a, b)) : nf (-a) (-b) = (a, b) := by
  have hb : 0 < b := h.1
  have hg : Int.gcd a b = 1 := h.2
  have e : gB (-a) (-b) = -1 := by
    unfold gB
    rw [if_pos (by omega), Int.neg_gcd, Int.gcd_neg, hg]
    rfl
  have k1 := nf1 (-a) (-b)
  have k2 := nf2 (-a) (-b)
  rw [e] at k1 k2
  refine Prod.ext ?_ ?_
  · show (nf (-a) (-b)).1 = a
    omega
  · show (nf (-a) (-b)).2 = b
    omega
theorem nf_le1 {t b : Int} (h : b ≠ 0) : (nf t b).1.natAbs ≤ t.natAbs := by
  have e := congrArg Int.natAbs (nf1 t b)
  rw [Int.natAbs_mul, gB_abs] at e
  have := gcd_pos (t := t) h
  rw [← e]
  exact Nat.le_mul_of_pos_right _ this
theorem nf_le2 {t b : Int} (h : b ≠ 0) : (nf t b).2.natAbs ≤ b.natAbs := by
  have e := congrArg Int.natAbs (nf2 t b)
  rw [Int.natAbs_mul, gB_abs] at e
  have := gcd_pos (t := t) h
  rw [← e]
  exact Nat.le_mul_of_pos_right _ this
/-- the loop's turn -/
theorem gcd_turn {l h : Nat} : Nat.gcd (h % l) l = Nat.gcd l h := (Nat.gcd_rec l h).symm
theorem gcd_abs (t b : Int) : Nat.gcd t.natAbs b.natAbs = Int.gcd t b := rfl
/-- sign -/
def sg (t : Int) : Int := if t > 0 then 1 else if t < 0 then -1 else 0
theorem sg_eq (t : Int) : (if t > 0 then (1 : Int) else 0) - (if t < 0 then 1 else 0) = sg t := by
  unfold sg
  split <;> split <;> omega
/-- the sizes -/
def Bt (n : Nat) (p : Int × Int) : Prop := p.1.natAbs < 2 ^ n ∧ p.2.natAbs < 2 ^ n
theorem Bt.mono {n m : Nat} {p : Int × Int} (h : Bt n p) (k : n ≤ m) : Bt m p := ⟨Nat.lt_of_lt_of_le h.1 (Nat.pow_le_pow_right (by decide) k), Nat.lt_of_lt_of_le h.2 (Nat.pow_le_pow_right (by decide) k)⟩
theorem mul_lt {a b : Int} {n m : Nat} (ha : a.natAbs < 2 ^ n) (hb : b.natAbs < 2 ^ m) : (a * b).natAbs < 2 ^ (n + m) := by
  rw [Int.natAbs_mul, Nat.pow_add]
  exact Nat.mul_lt_mul'' ha hb
theorem add_lt {a b : Int} {n : Nat} (ha : a.natAbs < 2 ^ n) (hb : b.natAbs < 2 ^ n) : (a + b).natAbs < 2 ^ (n + 1) := by
  have := Int.natAbs_add_le a b
  rw [Nat.pow_succ]
  omega
theorem sub_lt {a b : Int} {n : Nat} (ha : a.natAbs < 2 ^ n) (hb : b.natAbs < 2 ^ n) : (a - b).natAbs < 2 ^ (n + 1) := by
  have := Int.natAbs_sub_le a b
  rw [Nat.pow_succ]
  omega
theorem nf_bt {n : Nat} {t b : Int} (h : b ≠ 0) (h1 : t.natAbs < 2 ^ n) (h2 : b.natAbs < 2 ^ n) : Bt n (nf t b) := ⟨Nat.lt_of_le_of_lt (nf_le1 h) h1, Nat.lt_of_le_of_lt (nf_le2 h) h2⟩
/-- sum, difference, product, quotient -/
def addP (p q : Int × Int) : Int × Int := nf (p.1 * q.2 + q.1 * p.2) (p.2 * q.2)
def subP (p q : Int × Int) : Int × Int := nf (p.1 * q.2 - q.1 * p.2) (p.2 * q.2)
def mulP (p q : Int × Int) : Int × Int := nf (p.1 * q.1) (p.2 * q.2)
def divP (p q : Int × Int) : Int × Int := nf (p.1 * q.2) (p.2 * q.1)
def negP (p : Int × Int) : Int × Int := nf (0 - p.1) p.2
theorem Nrm.ne {p : Int × Int} (h : Nrm p) : p.2 ≠ 0 := by have := h.1; omega
theorem addP_nrm {p q : Int × Int} (h : Nrm p) (k : Nrm q) : Nrm (addP p q) := nf_nrm (Int.mul_ne_zero h.ne k.ne)
theorem subP_nrm {p q : Int × Int} (h : Nrm p) (k : Nrm q) : Nrm (subP p q) := nf_nrm (Int.mul_ne_zero h.ne k.ne)
theorem mulP_nrm {p q : Int × Int} (h : Nrm p) (k : Nrm q) : Nrm (mulP p q) := nf_nrm (Int.mul_ne_zero h.ne k.ne)
theorem divP_nrm {p q : Int × Int} (h : Nrm p) (k : q.1 ≠ 0) : Nrm (divP p q) := nf_nrm (Int.mul_ne_zero h.ne k)
theorem negP_eq {p : Int × Int} (h : Nrm p) : negP p = (-p.1, p.2) := by
  unfold negP
  rw [Int.zero_sub]
  exact nf_ofI (nrm_neg h)
theorem addP_bt {n : Nat} {p q : Int × Int} (h : Nrm p) (k : Nrm q) (a : Bt n p) (b : Bt n q) : Bt (n + n + 1) (addP p q) :=
  nf_bt (Int.mul_ne_zero h.ne k.ne) (add_lt (mul_lt a.1 b.2) (mul_lt b.1 a.2)) (Nat.lt_of_lt_of_le (mul_lt a.2 b.2) (Nat.pow_le_pow_right (by decide) (by omega)))
theorem subP_bt {n : Nat} {p q : Int × Int} (h : Nrm p) (k : Nrm q) (a : Bt n p) (b : Bt n q) : Bt (n + n + 1) (subP p q) :=
  nf_bt (Int.mul_ne_zero h.ne k.ne) (sub_lt (mul_lt a.1 b.2) (mul_lt b.1 a.2)) (Nat.lt_of_lt_of_le (mul_lt a.2 b.2) (Nat.pow_le_pow_right (by decide) (by omega)))
theorem mulP_bt {n : Nat} {p q : Int × Int} (h : Nrm p) (k : Nrm q) (a : Bt n p) (b : Bt n q) : Bt (n + n + 1) (mulP p q) :=
  (nf_bt (n := n + n) (Int.mul_ne_zero h.ne k.ne) (mul_lt a.1 b.1) (mul_lt a.2 b.2)).mono (by omega)
theorem divP_bt {n : Nat} {p q : Int × Int} (h : Nrm p) (k : q.1 ≠ 0) (a : Bt n p) (b : Bt n q) : Bt (n + n + 1) (divP p q) :=
  (nf_bt (n := n + n) (Int.mul_ne_zero h.ne k) (mul_lt a.1 b.2) (mul_lt a.2 b.1)).mono (by omega)
/-- below -/
def ltP (p q : Int × Int) : Bool := decide (p.1 * q.2 < q.1 * p.2)
theorem lt_floor {p : Int × Int} (h : Nrm p) : ltP p (p.1 / p.2, 1) = false := by
  have := h.1
  refine decide_eq_false ?_
  show ¬ p.1 * 1 < p.1 / p.2 * p.2
  have := Int.ediv_mul_le p.1 h.ne
  omega
theorem lt_ceil {p : Int × Int} (h : Nrm p) : ltP p (p.1 / p.2 + 1, 1) = true := by
  refine decide_eq_true ?_
  show p.1 * 1 < (p.1 / p.2 + 1) * p.2
  have := Int.lt_ediv_add_one_mul_self p.1 h.1
  omega
end RA

/-! The texts of polynomials, in plain words. -/
namespace TXM
open PySem PySem.Builtin PySem.Builtin.Str PyProof.Rows
def tx (i : Int) : Str := Str.ofString (toString i)
theorem cps_app (a b : Str) : (a ++ b).cps.toList = a.cps.toList ++ b.cps.toList := by
  show (a.cps ++ b.cps).toList = _
  simp
theorem str_ext {a b : Str} (h : a.cps.toList = b.cps.toList) : a = b := by
  obtain ⟨x⟩ := a
  obtain ⟨y⟩ := b
  congr 1
  exact Array.toList_inj.mp h
theorem app_assoc (a b c : Str) : a ++ b ++ c = a ++ (b ++ c) := str_ext (by simp only [cps_app, List.append_assoc])
theorem empty_app (a : Str) : Str.empty ++ a = a := str_ext (by rw [cps_app]; rfl)
theorem app_empty (a : Str) : a ++ Str.empty = a := str_ext (by rw [cps_app]; exact List.append_nil _)
/-- signs that are seen -/
def Ink (x : Str) : Prop := ∀ c ∈ x.cps.toList, 33 ≤ c ∧ c < 127
def Low (x : Str) : Prop := ∀ c ∈ x.cps.toList, c < 127
theorem Ink.low {x : Str} (h : Ink x) : Low x := fun c hc => (h c hc).2
theorem Ink.app {x y : Str} (h : Ink x) (k : Ink y) : Ink (x ++ y) := fun c hc => by
  rw [cps_app] at hc
  exact (List.mem_append.mp hc).elim (h c) (k c)
theorem Low.app {x y : Str} (h : Low x) (k : Low y) : Low (x ++ y) := fun c hc => by
  rw [cps_app] at hc
  exact (List.mem_append.mp hc).elim (h c) (k c)
theorem ink_tx (i : Int) : Ink (tx i) := fun c hc => by
  by_cases h : c ≠ 45 ∧ (c < 48 ∨ 57 < c)
  · exact absurd hc (int_text_free' c h i)
  · omega
theorem Low.repr {x : Str} (h : Low x) : (reprText x).length ≤ 10 * x.length + 2 := StrLaws.reprText_len x fun c hc => by
  have := h c hc
  have e : (16 : Nat) ^ 8 = 4294967296 := by decide
  omega
theorem tx_ne (i : Int) : (tx i).cps.toList ≠ [] := by
  intro h
  unfold tx at h
  rw [signs_ofString] at h
  have h2 : (toString i).toList = [] := List.map_eq_nil_iff.mp h
  cases i with
  | ofNat n =>
    have e : (toString (Int.ofNat n)) = n.repr := rfl
    rw [e, Nat.toList_repr] at h2
    exact Nat.toDigits_ne_nil h2
  | negSucc n =>
    have e : (toString (Int.negSucc n)) = "-" ++ (n + 1).repr := rfl
    rw [e, String.toList_append] at h2
    simp at h2
/-! ### strip -/
theorem takeW {p : Nat → Bool} : ∀ (s m : List Nat), (∀ c ∈ s, p c = true) → (∀ c, m.head? = some c → p c = false) → (s ++ m).takeWhile p = s
  | [], m, _, hm => by
    cases m with
    | nil => rfl
    | cons c l => simp [List.takeWhile_cons, hm c rfl]
  | a :: s, m, hs, hm => by
    rw [List.cons_append, List.takeWhile_cons, if_pos (hs a (by simp)), takeW s m (fun c hc => hs c (by simp [hc])) hm]
theorem strip_mid {x : Str} {s1 m s2 : List Nat} (e : x.cps.toList = s1 ++ m ++ s2) (h1 : ∀ c ∈ s1, Unicode.isSpace c = true) (h2 : ∀ c ∈ s2, Unicode.isSpace c = true) (hh : ∀ c, m.head? = some c → Unicode.isSpace c = false) (hl : ∀ c, m.getLast? = some c → Unicode.isSpace c = false) (hm : m ≠ []) :
    Txt.strip x = ⟨m.toArray⟩ := by
  unfold Txt.strip
  rw [stripBy_eq]
  have hx : x.length = s1.length + m.length + s2.length := by
    show x.cps.size = _
    rw [← Array.length_toList, e]
    simp only [List.length_append]
  have lo : stripLo Unicode.isSpace true x = s1.length := by
    simp only [stripLo, if_true]
    rw [e, List.append_assoc, takeW s1 (m ++ s2) h1 (fun c hc => hh c (by
      cases m with
      | nil => exact absurd rfl hm
      | cons a l => exact hc))]
  have hi : stripHi Unicode.isSpace true x s1.length = s1.length + m.length := by
    simp only [stripHi, if_true]
    rw [e, List.append_assoc, List.drop_left, List.reverse_append, takeW s2.reverse m.reverse (fun c hc => h2 c (List.mem_reverse.mp hc)) (fun c hc => hl c (by rw [List.head?_reverse] at hc; exact hc)), List.length_reverse, hx]
    omega
  rw [lo, hi]
  refine str_ext ?_
  show (x.cps.extract s1.length (s1.length + m.length)).toList = m
  rw [Array.toList_extract, e]
  show ((s1 ++ m ++ s2).extract s1.length (s1.length + m.length)) = m
  rw [List.extract_eq_drop_take, List.append_assoc, List.drop_left, show s1.length + m.length - s1.length = m.length by omega, List.take_left]
/-! ### terms -/
def powT (e : Nat) : Str := if e = 1 then ("d" : Str) else ("d^" : Str) ++ tx e
def pieceT (c : Int) (e : Nat) : Str := if e = 0 then tx c.natAbs else if c.natAbs = 1 then powT e else tx c.natAbs ++ (" " : Str) ++ powT e
def frontT (first : Bool) (c : Int) : Str := if first then (if c < 0 then ("-" : Str) else ("" : Str)) else (if c < 0 then (" - " : Str) else (" + " : Str))
def goT (s : Str) : List (Int × Nat) → Str
  | [] => s
  | (c, e) :: l => goT (s ++ frontT (decide (s = Str.empty)) c ++ pieceT c e) l
/-- the terms that are not 0, the lowest first -/
def terms (r : List Int) : List (Int × Nat) := r.zipIdx.filter fun p => decide (p.1 ≠ 0)
def textT (r : List Int) : Str := if terms r = [] then ("0" : Str) else goT Str.empty (terms r).reverse
theorem goT_snoc : ∀ (l : List (Int × Nat)) (s : Str) (c : Int) (e : Nat), goT s (l ++ [(c, e)]) = goT s l ++ frontT (decide (goT s l = Str.empty)) c ++ pieceT c e
  | [], s, c, e => rfl
  | (a, b) :: l, s, c, e => by
    show goT (s ++ frontT (decide (s = Str.empty)) a ++ pieceT a b) (l ++ [(c, e)]) = _
    rw [goT_snoc l]
    rfl
theorem ink_d : Ink ("d" : Str) := by unfold Ink; decide +kernel
theorem ink_dh : Ink ("d^" : Str) := by unfold Ink; decide +kernel
theorem ink_pow (e : Nat) : Ink (powT e) := by
  unfold powT
  split
  · exact ink_d
  · exact ink_dh.app (ink_tx _)
theorem d_cps : ("d" : Str).cps.toList = [100] := by decide +kernel
theorem dh_cps : ("d^" : Str).cps.toList = [100, 94] := by decide +kernel
theorem sp_cps : (" " : Str).cps.toList = [32] := by decide +kernel
theorem e_cps : ("" : Str).cps.toList = [] := by decide +kernel
theorem pow_ne (e : Nat) : (powT e).cps.toList ≠ [] := by
  unfold powT
  split
  · rw [d_cps]; simp
  · rw [cps_app, dh_cps]; simp
theorem piece_ne (c : Int) (e : Nat) : (pieceT c e).cps.toList ≠ [] := by
  unfold pieceT
  split
  · exact tx_ne _
  · split
    · exact pow_ne _
    · rw [cps_app, cps_app, sp_cps]; simp
theorem low_lit_sp : Low (" " : Str) := by unfold Low; decide +kernel
theorem low_piece (c : Int) (e : Nat) : Low (pieceT c e) := by
  unfold pieceT
  split
  · exact (ink_tx _).low
  · split
    · exact (ink_pow _).low
    · exact ((ink_tx _).low.app low_lit_sp).app (ink_pow _).low
theorem low_front (b : Bool) (c : Int) : Low (frontT b c) := by
  unfold frontT
  split <;> split <;> (unfold Low; decide +kernel)
theorem low_goT : ∀ (l : List (Int × Nat)) (s : Str), Low s → Low (goT s l)
  | [], s, h => h
  | (c, e) :: l, s, h => low_goT l _ ((h.app (low_front _ _)).app (low_piece _ _))
theorem low_empty : Low Str.empty := fun c hc => by cases hc
theorem low_textT (r : List Int) : Low (textT r) := by
  unfold textT
  split
  · unfold Low; decide +kernel
  · exact low_goT _ _ low_empty
theorem app_ne {s t : Str} (h : t.cps.toList ≠ []) : s ++ t ≠ Str.empty := fun e => by
  have h2 := congrArg (fun x : Str => x.cps.toList) e
  simp only [cps_app] at h2
  have h3 : s.cps.toList ++ t.cps.toList = [] := h2
  exact h (List.append_eq_nil_iff.mp h3).2
theorem goT_ne : ∀ (l : List (Int × Nat)) (s : Str), s ≠ Str.empty → goT s l ≠ Str.empty
  | [], s, h => h
  | (c, e) :: l, s, h => goT_ne l _ (app_ne (piece_ne c e))
theorem goT_empty (l : List (Int × Nat)) : goT Str.empty l = Str.empty ↔ l = [] := by
  cases l with
  | nil => exact ⟨fun _ => rfl, fun _ => rfl⟩
  | cons p l =>
    obtain ⟨c, e⟩ := p
    refine ⟨fun h => absurd h (goT_ne l _ (app_ne (piece_ne c e))), fun h => by cases h⟩
/-! ### the word of the law -/
theorem tx_head {i : Int} : ∀ c, (tx i).cps.toList.head? = some c → Unicode.isSpace c = false := fun c hc => by
  have := ink_tx i c (List.mem_of_mem_head? hc)
  exact PySem.W.KXs.no_space c this.2 this.1
theorem ink_head {x : Str} (h : Ink x) : ∀ c, x.cps.toList.head? = some c → Unicode.isSpace c = false := fun c hc => by
  have := h c (List.mem_of_mem_head? hc)
  exact PySem.W.KXs.no_space c this.2 this.1
theorem ink_last {x : Str} (h : Ink x) : ∀ c, x.cps.toList.getLast? = some c → Unicode.isSpace c = false := fun c hc => by
  have := h c (List.mem_of_getLast? hc)
  exact PySem.W.KXs.no_space c this.2 this.1
theorem sp_space : ∀ c ∈ ([32] : List Nat), Unicode.isSpace c = true := by decide +kernel
def nameT (k : Nat) : Str := (if k > 0 then ("d" : Str) else ("" : Str)) ++ (if k > 1 then ("^" : Str) ++ tx k else ("" : Str))
def wordT (c : Int) (k : Nat) : Str := (if c.natAbs = 1 ∧ k > 0 then ("" : Str) else tx c.natAbs) ++ (" " : Str) ++ nameT k
theorem name0 : nameT 0 = ("" : Str) := by decide +kernel
theorem name_pow {k : Nat} (h : k > 0) : nameT k = powT k := by
  unfold nameT powT
  rw [if_pos h]
  by_cases h1 : k = 1
  · subst h1
    decide +kernel
  · rw [if_pos (by omega), if_neg h1, ← app_assoc]
    congr 1
theorem strip_word (c : Int) (k : Nat) : Txt.strip (wordT c k) = pieceT c k := by
  unfold wordT pieceT
  by_cases h0 : k = 0
  · subst h0
    rw [if_neg (by omega), if_pos rfl, name0]
    rw [strip_mid (s1 := []) (m := (tx c.natAbs).cps.toList) (s2 := [32]) (by rw [cps_app, cps_app, sp_cps, e_cps]; simp) (fun c hc => by cases hc) sp_space (ink_head (ink_tx _)) (ink_last (ink_tx _)) (tx_ne _)]
  · rw [name_pow (by omega), if_neg h0]
    by_cases h1 : c.natAbs = 1
    · rw [if_pos ⟨h1, by omega⟩, if_pos h1]
      rw [strip_mid (s1 := [32]) (m := (powT k).cps.toList) (s2 := []) (by rw [cps_app, cps_app, sp_cps, e_cps]; simp) sp_space (fun c hc => by cases hc) (ink_head (ink_pow _)) (ink_last (ink_pow _)) (pow_ne _)]
    · rw [if_neg (fun z => h1 z.1), if_neg h1]
      rw [strip_mid (x := tx c.natAbs ++ (" " : Str) ++ powT k) (s1 := []) (m := (tx c.natAbs ++ (" " : Str) ++ powT k).cps.toList) (s2 := []) (by simp) (fun c hc => by cases hc) (fun c hc => by cases hc) (fun d hd => ?_) (fun d hd => ?_) ?_]
      · rw [cps_app]
        intro z
        exact pow_ne k (List.append_eq_nil_iff.mp z).2
      · refine ink_head (ink_tx c.natAbs) d ?_
        rw [cps_app, cps_app] at hd
        cases e : (tx c.natAbs).cps.toList with
        | nil => exact absurd e (tx_ne _)
        | cons a l => rw [e] at hd; exact hd
      · refine ink_last (ink_pow k) d ?_
        rw [cps_app] at hd
        cases e : (powT k).cps.toList with
        | nil => exact absurd e (pow_ne _)
        | cons a l =>
          rw [e, List.getLast?_append] at hd
          simp only [List.getLast?_cons] at hd ⊢
          simpa using hd
/-! ### joins of pieces -/
theorem join_fold : ∀ (l : List Str) (acc : Array Nat), (⟨l.foldl (fun acc p => acc ++ (Str.empty).cps ++ p.cps) acc⟩ : Str) = ⟨acc⟩ ++ l.foldr (· ++ ·) Str.empty
  | [], acc => (app_empty _).symm
  | a :: l, acc => by
    rw [List.foldl_cons, join_fold l, List.foldr_cons, ← app_assoc]
    congr 1
theorem join0 (l : List Str) : Txt.join Str.empty l = l.foldr (· ++ ·) Str.empty := by
  cases l with
  | nil => rfl
  | cons a l =>
    show (⟨l.foldl (fun acc p => acc ++ (Str.empty).cps ++ p.cps) a.cps⟩ : Str) = _
    rw [join_fold]
    rfl
theorem foldr_snoc : ∀ (l : List Str) (x : Str), (l ++ [x]).foldr (· ++ ·) Str.empty = l.foldr (· ++ ·) Str.empty ++ x
  | [], x => by show x ++ Str.empty = Str.empty ++ x; rw [app_empty, empty_app]
  | a :: l, x => by
    rw [List.cons_append, List.foldr_cons, List.foldr_cons, foldr_snoc l x, app_assoc]
theorem join_snoc (l : List Str) (x : Str) : Txt.join Str.empty (l ++ [x]) = Txt.join Str.empty l ++ x := by
  rw [join0, join0, foldr_snoc]
/-! ### lengths -/
theorem lit_len {x : Str} {n : Nat} (h : x.length = n) : x.length ≤ n := Nat.le_of_eq h
theorem front_len (b : Bool) (c : Int) : (frontT b c).length ≤ 3 := by
  unfold frontT
  split <;> split <;> decide +kernel
theorem pow_len {e : Nat} (h : (tx e).length ≤ 2000) : (powT e).length ≤ 2002 := by
  unfold powT
  split
  · exact Nat.le_trans (m := 1) (by decide +kernel) (by omega)
  · rw [strLen_append]
    have : (("d^" : Str)).length = 2 := by decide +kernel
    omega
theorem piece_len {c : Int} {e : Nat} (h : (tx e).length ≤ 2000) (k : (tx c.natAbs).length ≤ 2000) : (pieceT c e).length ≤ 4003 := by
  unfold pieceT
  have hp := pow_len h
  split
  · omega
  · split
    · omega
    · rw [strLen_append, strLen_append]
      have : ((" " : Str)).length = 1 := by decide +kernel
      omega
theorem goT_len : ∀ (l : List (Int × Nat)) (s : Str), (∀ p ∈ l, (tx p.2).length ≤ 2000 ∧ (tx p.1.natAbs).length ≤ 2000) → (goT s l).length ≤ s.length + 4006 * l.length
  | [], s, _ => by show s.length ≤ _; omega
  | (c, e) :: l, s, h => by
    have ih := goT_len l (s ++ frontT (decide (s = Str.empty)) c ++ pieceT c e) fun p hp => h p (by simp [hp])
    have h1 := front_len (decide (s = Str.empty)) c
    have h2 : (pieceT c e).length ≤ 4003 := piece_len (h (c, e) (by simp)).1 (h (c, e) (by simp)).2
    rw [strLen_append, strLen_append] at ih
    show (goT (s ++ frontT (decide (s = Str.empty)) c ++ pieceT c e) l).length ≤ _
    rw [List.length_cons]
    omega
end TXM

namespace S70
open PySem L2 SR RA TXM
def top (i : Nat) : Stmt := PySem.Challenge.pw_slotsums_k70_polynomials.main.body.getD i (.Pass ⟨0, 0, 0, 0⟩)
abbrev sINInit : Stmt := inClass (top 3) 0
abbrev sIPInit : Stmt := inClass (top 4) 0
abbrev sIsInt : Stmt := top 6
abbrev sGcd : Stmt := top 7
abbrev sRInit : Stmt := inClass (top 8) 0
abbrev sRRepr : Stmt := inClass (top 8) 13
abbrev sAdded : Stmt := top 11
abbrev sMult : Stmt := top 12
abbrev sOpp : Stmt := top 13
abbrev sPowT : Stmt := top 14
abbrev sPieceT : Stmt := top 15
abbrev sPieces : Stmt := top 16
abbrev sPInit : Stmt := inClass (top 17) 0
abbrev sPDeg : Stmt := inClass (top 17) 1
abbrev sPCoef : Stmt := inClass (top 17) 2
abbrev sPAt : Stmt := inClass (top 17) 3
abbrev sPAdd : Stmt := inClass (top 17) 4
abbrev sPSub : Stmt := inClass (top 17) 5
abbrev sPMul : Stmt := inClass (top 17) 6
abbrev sPNeg : Stmt := inClass (top 17) 7
abbrev sPEq : Stmt := inClass (top 17) 8
abbrev sPStr : Stmt := inClass (top 17) 9
abbrev sPRepr : Stmt := inClass (top 17) 10
abbrev sRowOf : Stmt := top 18
abbrev sRng : Stmt := top 20
abbrev sDraw : Stmt := top 21
abbrev sChoice : Stmt := top 22
abbrev sCoeff : Stmt := top 23
abbrev sRow : Stmt := top 24
abbrev sPlain : Stmt := top 25
abbrev sSum : Stmt := top 26
abbrev sProd : Stmt := top 27
abbrev sValue : Stmt := top 28
abbrev sText : Stmt := top 29
abbrev sIs : Stmt := top 30
abbrev sMade : Stmt := top 31
abbrev sRefused : Stmt := top 32
abbrev sRefR : Stmt := top 33
abbrev sValR : Stmt := top 34
abbrev sRight : Stmt := top 35
abbrev sLaw : Stmt := top 36
/-! ### heaps -/
theorem sNew {H H1 : Hp} {p : Addr} {o : HO} (s : Same H H1) (n : H1 p = none) : Same H (upd H1 p o) := fun b x e => by
  have h := s b x e
  rw [upd_ne (ne_of_none h n)]
  exact h
theorem sPut {H H1 : Hp} {p : Addr} {o : HO} (s : Same H H1) (n : H p = none) : Same H (upd H1 p o) := fun b x e => by
  rw [upd_ne (ne_of_none e n)]
  exact s b x e
theorem old {H : Hp} {p q : Addr} {o x : HO} (h : H q = some x) (n : H p = none) : upd H p o q = some x := by
  rw [upd_ne (ne_of_none h n)]; exact h
/-- all but the object at x is as it was -/
def SameX (x : Addr) (H H' : Hp) : Prop := ∀ b o, b ≠ x → H b = some o → H' b = some o
theorem PE.imp {X : Cx} {e : Expr} {t t' : TE} (h : PE X e t) (i : ∀ σ H Q, t' σ H Q → t σ H Q) : PE X e t' := ⟨fun pins s σ H Q I q => h.run pins s σ H Q I (i σ H Q q)⟩
theorem OpR.imp {X : Cx} {f : Value → Value → Sem Value} {r r' : R2} (h : OpR X f r) (i : ∀ x y H Q, r' x y H Q → r x y H Q) : OpR X f r' := fun pins s σ H x y v u Q I rx ry q => h pins s σ H x y v u Q I rx ry (i x y H Q q)
theorem CallR.imp {X : Cx} {f : Value} {r r' : List V → Hp → VK → Prop} (h : CallR X f r) (i : ∀ xs H Q, r' xs H Q → r xs H Q) : CallR X f r' := fun pins s σ H xs us Q I rx q => h pins s σ H xs us Q I rx (i xs H Q q)
/-- // by any divisor but zero -/
def CDivX (_ j : Int) : Prop := j ≠ 0 ∧ j.natAbs.log2 < 9000
theorem op_fdivX {X : Cx} : OpR X (binaryOp .FloorDiv) (rI CDivX fun i j => .int (i.fdiv j)) := opI fun i j _ _ _ _ _ hc q => PyProof.Rows.floordiv_int hc.1 q (.inl (PyProof.noPylong_of_log2 hc.2))
theorem log_of {n m : Nat} (h : n < 2 ^ m) (h0 : 0 < m) : n.log2 < m := by
  by_cases hn : n = 0
  · subst hn
    exact h0
  · exact (Nat.log2_lt hn).mpr h
/-! ### the built-in names -/
structure Bn (mg : Str → Option Value) : Prop where
  isi : mg "isinstance" = none
  int : mg "int" = none
  bool : mg "bool" = none
  str : mg "str" = none
  len : mg "len" = none
  list : mg "list" = none
  max : mg "max" = none
  min : mg "min" = none
  sum : mg "sum" = none
  zip : mg "zip" = none
  range : mg "range" = none
  tuple : mg "tuple" = none
  enum : mg "enumerate" = none
  all : mg "all" = none
  any : mg "any" = none
  abs : mg "abs" = none
  divmod : mg "divmod" = none
  repr : mg "repr" = none
/-- a def of the module by its name -/
structure Df (P : Program) (w : World) (K : PySem.W.Frag) (mg : Str → Option Value) (base : Heap) (x : Str) (ps : List Str) (k : Nat) (sp : Sp) : Prop where
  ex : ∃ f fd, mg x = some (.ref f) ∧ PySem.W.keepIn K (.ref f) = true ∧ Binds K fd ps [] ∧ FnOk P w K mg base CX0 k f fd ps sp
theorem pe_df {X : Cx} {x : Str} {ps : List Str} {k : Nat} {sp : Sp} {e : Expr} {es : List Expr} {t : TA} {p pos : Pos} (D : Df X.prog X.w X.K X.mg X.base x ps k sp) (hr : Room k X.A) (hg : Gl X x) (ha : PA X (e :: es) t)
    (hdb : (x == ("__debug__" : Str)) = false := by decide) (hst : starEach (e :: es) X.env = (false, eval e X.env) :: starEach es X.env := by rfl) (hpl : (backTo pos (starEach es X.env)).any (·.1) = false := by rfl) :
    PE X (.Call (.Name x p) (e :: es) [] pos) (tCall sp [] E0 t) := by
  obtain ⟨f, fd, hm, kp, b, F⟩ := D.ex
  exact pe_call F hr hg hm kp b .nil pass0 ha (hdb := hdb) (he := hst) (hpl := hpl)
section
variable {P : Program} {w : World} {K : PySem.W.Frag} {mg : Str → Option Value} {base : Heap}
/-! ### is_integer -/
/-- of an int, of an instance of C -/
def spIsInt (C : Addr) : Sp := fun vs H Q _ => (∃ i : Int, vs = [.int i] ∧ Q (.bl true) H) ∨ (∃ a dx fs, vs = [.ref a] ∧ H a = some (.ins C dx fs) ∧ Q (.bl false) H) ∨ ∃ v T, vs = [v] ∧ OddV H v T ∧ Q (.bl false) H
/-! ### common_divisor -/
def spGcd : Sp := fun vs H Q _ => ∃ m n : Nat, vs = [.int m, .int n] ∧ Q (.int (Nat.gcd m n : Nat)) H
abbrev nGcd : List Str := ["one", "other", "low", "high"]
theorem scGcd : FnScope nGcd ["one", "other"] (defScope sGcd) := ⟨rfl, rfl, rfl, by decide +kernel, rfl, by decide +kernel, by decide +kernel⟩
theorem ok_gcd {f : Addr} {fd : FuncData} (F : Fun K "common_divisor" "common_divisor" sGcd f fd) : FnOk P w K mg base CX0 1 f fd ["one", "other"] spGcd := by
  refine F.ok scGcd (fun vs H Q E h => ?_) (fun cdv A outer s H vs Q E hr h => ?_)
  · obtain ⟨m, n, rfl, _⟩ := h
    rfl
  · obtain ⟨m, n, rfl, q⟩ := h
    refine ⟨_, pss_cons (ps_par (i := 2) (j := 3) (by rfl) scGcd.nd rfl rfl (by decide) rfl rfl (pa_cons (pv 0) (pa_cons (pv 1) pa_nil)) (by rfl))
      (pss_cons (ps_while PassesOwn.never (pt_cmpR op_gt (pv 2) pe_int (nomark _))
        (pss_one (ps_par (i := 2) (j := 3) (by rfl) scGcd.nd rfl rfl (by decide) rfl rfl (pa_cons (pe_op op_mod (pv 3) (pv 2)) (pa_cons (pv 2) pa_nil)) (by rfl))))
      (pss_one (ps_ret (pv 3)))), ?_⟩
    refine ⟨_, rfl, _, rfl, _, _, rfl, ?_⟩
    refine ⟨fun t σ H' => H = H' ∧ ∃ l h : Nat, t = l ∧ σ = [some (.int m), some (.int n), some (.int l), some (.int h)] ∧ Nat.gcd l h = Nat.gcd m n, ⟨_, rfl, m, n, rfl, rfl, rfl⟩, ?_⟩
    rintro l σ _ ⟨rfl, _, h, rfl, rfl, e⟩
    refine ⟨_, rfl, _, _, rfl, rfl, _, rfl, ?_⟩
    by_cases hl : ((l : Nat) : Int) > 0
    · rw [decide_eq_true hl]
      refine iteT ?_
      have hl' : 0 < l := by omega
      refine ⟨fun σ' H' => H = H' ∧ ∃ l' h' : Nat, l' < l ∧ σ' = [some (.int m), some (.int n), some (.int l'), some (.int h')] ∧ Nat.gcd l' h' = Nat.gcd m n, fun σ' H' ⟨c0, l', h', c1, c2, c3⟩ => ⟨l', c1, c0, l', h', rfl, c2, c3⟩, ?_⟩
      refine ⟨_, rfl, _, rfl, _, _, rfl, rfl, hl, _, rfl, _, _, rfl, rfl, h % l, l, Nat.mod_lt _ hl', rfl, ?_⟩
      rw [gcd_turn]
      exact e
    · rw [decide_eq_false hl]
      refine iteF ?_
      have hl' : l = 0 := by omega
      subst hl'
      rw [Nat.gcd_zero_left] at e
      subst e
      exact ⟨_, rfl, q⟩
end
end S70

namespace S70
open PySem L2 SR RA TXM
abbrev oT : Str := "own_top"
abbrev oB : Str := "own_bottom"
def rf (p : Int × Int) : List (Str × V) := putF oB (.int p.2) (putF oT (.int p.1) [])
theorem rf_top (p : Int × Int) : (rf p).lookup oT = some (.int p.1) := rfl
theorem rf_bot (p : Int × Int) : (rf p).lookup oB = some (.int p.2) := rfl
def RatAt (C : Addr) (H : Hp) (a : Addr) (p : Int × Int) : Prop := ∃ dx, H a = some (.ins C dx (rf p))
theorem RatAt.same {C : Addr} {H H' : Hp} {a : Addr} {p : Int × Int} (s : Same H H') (h : RatAt C H a p) : RatAt C H' a p := by
  obtain ⟨dx, h⟩ := h
  exact ⟨dx, s _ _ h⟩
/-- what the text says of the class Ratio -/
structure Rc (K : PySem.W.Frag) (mg : Str → Option Value) (C : Addr) : Prop where
  cl : Cls K C
  nT : NoAttr K C oT
  nB : NoAttr K C oB
  mgC : mg "Ratio" = some (.ref C)
  ic : PySem.W.findIn K (.ref C) "__class__" = some (some (.builtin "object.__class__"))
  gt : PySem.W.specialIn K (.builtin "object.__class__") "__get__" = some (some (.builtin "getset_descriptor.__get__"))
  tk : PySem.W.takesIn K (.builtin "object.__class__") = some true
  mo : PySem.W.mroIn K C (.type "object") = some true
  sf : PySem.W.selfFirst K C = true
  ki : PySem.W.kitOne K (.ref C) (.type "int") = some false
  ik : PySem.W.kitOne K (.type "int") (.ref C) = some false
  sk : PySem.W.kitOne K (.type "str") (.ref C) = some false
  si : PySem.W.subIn K (.type "int") (.ref C) = some false
  ss : PySem.W.subIn K (.type "str") (.ref C) = some false
  oc : OddC K C
section
variable {P : Program} {w : World} {K : PySem.W.Frag} {mg : Str → Option Value} {base : Heap}
theorem scIsInt : FnScope ["value"] ["value"] (defScope sIsInt) := ⟨rfl, rfl, rfl, by decide +kernel, rfl, by decide +kernel, by decide +kernel⟩
theorem ok_isInt {f C : Addr} {fd : FuncData} (F : Fun K "is_integer" "is_integer" sIsInt f fd) (T : Bn mg) (N : Rc K mg C) : FnOk P w K mg base CX0 1 f fd ["value"] (spIsInt C) := by
  refine F.ok scIsInt (fun vs H Q E h => ?_) (fun cdv A outer s H vs Q E hr h => ?_)
  · rcases h with ⟨i, rfl, _⟩ | ⟨a, dx, fs, rfl, _⟩ | ⟨v, T, rfl, _⟩ <;> rfl
  · refine ⟨_, pss_one (ps_ret (pe_and (pe_callB call_isi (by rfl) T.isi (by decide +kernel) (pa_cons (pv 0) (pa_cons (pe_bltn (v := .ty "int") (by rfl) T.int (by decide +kernel) rfl) pa_nil)))
      (pe_one (pe_not (pe_callB call_isi (by rfl) T.isi (by decide +kernel) (pa_cons (pv 0) (pa_cons (pe_bltn (v := .ty "bool") (by rfl) T.bool (by decide +kernel) rfl) pa_nil))))))), ?_⟩
    rcases h with ⟨i, rfl, q⟩ | ⟨a, dx, fs, rfl, ha, q⟩ | ⟨v, T, rfl, od, q⟩
    · refine ⟨_, rfl, _, _, _, _, true, rfl, .ty "int", .base (.int i), kit_ty (by decide +kernel), true, rfl, iteT ?_⟩
      exact ⟨_, rfl, _, _, _, _, false, rfl, .ty "bool", .base (.int i), kit_ty (by decide +kernel), false, rfl, q⟩
    · exact ⟨_, rfl, _, _, _, _, false, rfl, .ty "int", .base (.ins ha N.cl N.ic N.gt N.tk N.mo), N.ki, false, rfl, iteF q⟩
    · have ty := od.ty (K := K)
      by_cases hT : T = "bool"
      · subst hT
        refine ⟨_, rfl, _, _, _, _, true, rfl, .ty "int", ty, kit_ty (by decide +kernel), true, rfl, iteT ?_⟩
        exact ⟨_, rfl, _, _, _, _, true, rfl, .ty "bool", ty, kit_ty (by decide +kernel), true, rfl, q⟩
      · have hk : PySem.W.kitOne K (.type T) (.type "int") = some false := by
          cases od with
          | bl b => exact absurd rfl hT
          | non => exact kit_ty (by decide +kernel)
          | str x => exact kit_ty (by decide +kernel)
          | lst e => exact kit_ty (by decide +kernel)
          | tup e => exact kit_ty (by decide +kernel)
          | dK e => exact kit_ty (by decide +kernel)
        exact ⟨_, rfl, _, _, _, _, false, rfl, .ty "int", ty, hk, false, rfl, iteF q⟩
/-! ### Ratio.__init__ -/
def spRInit (C : Addr) : Sp := fun vs H Q _ => ∃ (x dx : Addr) (t b : Int), vs = [.ref x, .int t, .int b] ∧ H x = some (.ins C dx []) ∧ b ≠ 0 ∧ t.natAbs < 2 ^ 1900 ∧ b.natAbs < 2 ^ 1900 ∧
  ∀ H' : Hp, SameX x H H' → H' x = some (.ins C dx (rf (nf t b))) → Q .non H'
abbrev nRInit : List Str := ["self", "top", "bottom", "share"]
theorem scRInit : FnScope nRInit ["self", "top", "bottom"] (defScope sRInit) := ⟨rfl, rfl, rfl, by decide +kernel, rfl, by decide +kernel, by decide +kernel⟩
theorem abs_nat (i : Int) : (if i < 0 then -i else i) = ((i.natAbs : Nat) : Int) := by split <;> omega
theorem ok_rinit {f C : Addr} {fd : FuncData} (F : FunD K "__init__" "Ratio.__init__" (defArgs sRInit) (defBody sRInit) (defScope sRInit) [.int 1] [] f fd) (T : Bn mg) (N : Rc K mg C) (DI : Df P w K mg base "is_integer" ["value"] 1 (spIsInt C)) (DG : Df P w K mg base "common_divisor" ["one", "other"] 1 spGcd) :
    FnOk P w K mg base CX0 2 f fd ["self", "top", "bottom"] (spRInit C) := by
  refine F.ok scRInit (fun vs H Q E h => ?_) (fun cdv A outer s H vs Q E hr h => ?_)
  · obtain ⟨x, dx, t, b, rfl, _⟩ := h
    rfl
  · obtain ⟨x, dx, t, b, rfl, hx, hb, ht, hbb, k⟩ := h
    refine ⟨_, PSs.nox (pss_cons (ps_if (pt_not (pt_val (pe_df DI hr (by rfl) (pa_cons (pv 1) pa_nil)))) (pss_one ps_never) pss_nil)
      (pss_cons (ps_if (PW.pt (pw_or (pt_not (pt_val (pe_df DI hr (by rfl) (pa_cons (pv 2) pa_nil)))) (pw_or1 (pt_cmpR op_eq (pv 2) pe_int (nomark _))))) (pss_one ps_never) pss_nil)
      (pss_cons (ps_set (i := 3) scRInit.nd rfl (Or.inl rfl) (pe_df DG hr (by rfl) (pa_cons (pe_callB call_abs (by rfl) T.abs (by decide +kernel) (pa_cons (pv 1) pa_nil)) (pa_cons (pe_callB call_abs (by rfl) T.abs (by decide +kernel) (pa_cons (pv 2) pa_nil)) pa_nil))))
      (pss_cons (ps_if (pt_cmpR op_lt (pv 2) pe_int (nomark _)) (pss_one (ps_set (i := 3) scRInit.nd rfl (Or.inl rfl) (pe_op op_sub pe_int (pv 3)))) pss_nil)
      (pss_cons (ps_fld (pv 0) (pe_op op_fdivX (pv 1) (pv 3)) rfl)
      (pss_one (ps_fld (pv 0) (pe_op op_fdivX (pv 2) (pv 3)) rfl))))))), ?_⟩
    refine ⟨_, rfl, .inl ⟨t, rfl, true, rfl, ?_⟩⟩
    refine iteF ?_
    refine ⟨_, rfl, .inl ⟨b, rfl, true, rfl, ?_⟩⟩
    refine iteF ?_
    refine ⟨_, rfl, rfl, _, rfl, ?_⟩
    rw [decide_eq_false (fun z => hb (V.int.inj z))]
    refine iteF ?_
    refine ⟨_, rfl, t, rfl, _, rfl, b, rfl, t.natAbs, b.natAbs, by rw [abs_nat, abs_nat]; rfl, ?_⟩
    refine ⟨_, rfl, _, _, rfl, rfl, _, rfl, ?_⟩
    have hg := gB_ne (t := t) hb
    have hlog : (gB t b).natAbs.log2 < 9000 := by
      rw [gB_abs]
      have h1 : Int.gcd t b ≤ b.natAbs := Nat.le_of_dvd (by omega) (Int.gcd_dvd_natAbs_right ..)
      exact Nat.lt_of_lt_of_le (log_of (Nat.lt_of_le_of_lt h1 hbb) (by decide)) (by decide)
    have fin : ∀ (g : Int) (Q' : Hp → Prop), g = gB t b → (∀ H', SameX x H H' → H' x = some (.ins C dx (rf (nf t b))) → Q' H') → SameX x H (upd (upd H x (.ins C dx (putF oT (.int (t.fdiv g)) []))) x (.ins C dx (putF oB (.int (b.fdiv g)) (putF oT (.int (t.fdiv g)) [])))) ∧ Q' (upd (upd H x (.ins C dx (putF oT (.int (t.fdiv g)) []))) x (.ins C dx (putF oB (.int (b.fdiv g)) (putF oT (.int (t.fdiv g)) [])))) := fun g Q' e k' => by
      have sx : SameX x H (upd (upd H x (.ins C dx (putF oT (.int (t.fdiv g)) []))) x (.ins C dx (putF oB (.int (b.fdiv g)) (putF oT (.int (t.fdiv g)) [])))) := fun c o hc ho => by rw [upd_ne hc, upd_ne hc]; exact ho
      refine ⟨sx, k' _ sx ?_⟩
      rw [upd_same, e]
      rfl
    by_cases hneg : b < 0
    · rw [decide_eq_true hneg]
      refine iteT ?_
      have e : (0 : Int) - ((Nat.gcd t.natAbs b.natAbs : Nat) : Int) = gB t b := by
        unfold gB
        rw [if_pos hneg, gcd_abs]
        omega
      have hc : ∀ z, CDivX z ((0 : Int) - ((Nat.gcd t.natAbs b.natAbs : Nat) : Int)) := fun z => by rw [e]; exact ⟨hg, hlog⟩
      refine ⟨_, rfl, _, _, rfl, rfl, ?_⟩
      refine ⟨_, rfl, _, rfl, _, _, rfl, rfl, hc _, _, rfl, x, C, dx, [], rfl, hx, N.cl, N.nT, (by show 0 < 1000; decide), ?_⟩
      refine ⟨_, rfl, _, rfl, _, _, rfl, rfl, hc _, _, rfl, x, C, dx, _, rfl, upd_same, N.cl, N.nB, (by show 1 < 1000; decide), ?_⟩
      exact (fin _ _ e k).2
    · rw [decide_eq_false hneg]
      refine iteF ?_
      have e : ((Nat.gcd t.natAbs b.natAbs : Nat) : Int) = gB t b := by
        unfold gB
        rw [if_neg hneg, gcd_abs]
      have hc : ∀ z, CDivX z ((Nat.gcd t.natAbs b.natAbs : Nat) : Int) := fun z => by rw [e]; exact ⟨hg, hlog⟩
      refine ⟨_, rfl, _, rfl, _, _, rfl, rfl, hc _, _, rfl, x, C, dx, [], rfl, hx, N.cl, N.nT, (by show 0 < 1000; decide), ?_⟩
      refine ⟨_, rfl, _, rfl, _, _, rfl, rfl, hc _, _, rfl, x, C, dx, _, rfl, upd_same, N.cl, N.nB, (by show 1 < 1000; decide), ?_⟩
      exact (fin _ _ e k).2
end
theorem kit_self {K : PySem.W.Frag} {C : Addr} : PySem.W.kitOne K (.ref C) (.ref C) = some true := by
  unfold PySem.W.kitOne
  simp
/-! ### a ratio is made -/
def spR1 (C : Addr) : Sp := fun vs H Q E => spRInit C (vs ++ [.int 1]) H Q E
structure RMk (P : Program) (w : World) (K : PySem.W.Frag) (mg : Str → Option Value) (base : Heap) (C : Addr) : Prop where
  rc : Rc K mg C
  ex : ∃ f, Mk K C f ∧ FnR P w K mg base CX0 2 f (spRInit C) ∧ FnR P w K mg base CX0 2 f (spR1 C)
theorem made2 {C : Addr} {H1 : Hp} {a b : Int} {Q : VK} {E : XK} (hb : b ≠ 0) (h1 : a.natAbs < 2 ^ 1900) (h2 : b.natAbs < 2 ^ 1900) (k : ∀ (H' : Hp) (p : Addr), Same H1 H' → H1 p = none → RatAt C H' p (nf a b) → Q (.ref p) H')
    (x dx : Addr) (hx : H1 x = none) (hdx : H1 dx = none) (ne : dx ≠ x) : spRInit C [V.ref x, .int a, .int b] (upd (upd H1 dx (.own x)) x (.ins C dx [])) (fun v H2 => v = .non ∧ Q (.ref x) H2) E := by
  refine ⟨x, dx, a, b, rfl, upd_same, hb, h1, h2, fun H' sx hx' => ⟨rfl, ?_⟩⟩
  refine k H' x (fun c o e => ?_) hx ⟨dx, hx'⟩
  have ncx : c ≠ x := ne_of_none e hx
  have ncd : c ≠ dx := ne_of_none e hdx
  exact sx c o ncx (by rw [upd_ne ncx, upd_ne ncd]; exact e)
section
variable {X : Cx} {C : Addr} {e : Expr} {es : List Expr} {t : TA} {p pos : Pos}
theorem pe_rat2 (M : RMk X.prog X.w X.K X.mg X.base C) (hr : Room 3 X.A) (hg : Gl X "Ratio") (ha : PA X (e :: es) t)
    (he : starEach (e :: es) X.env = (false, eval e X.env) :: starEach es X.env := by rfl) (hpl : (backTo pos (starEach es X.env)).any (·.1) = false := by rfl) : PE X (.Call (.Name "Ratio" p) (e :: es) [] pos) (StX.tMakeR C (spRInit C) E0 t) := by
  obtain ⟨f, mk, F, _⟩ := M.ex
  exact StX.pe_makeR (E := E0) mk F hr hg M.rc.mgC pass0 ha (by decide) he hpl
theorem pe_rat1 (M : RMk X.prog X.w X.K X.mg X.base C) (hr : Room 3 X.A) (hg : Gl X "Ratio") (ha : PA X (e :: es) t)
    (he : starEach (e :: es) X.env = (false, eval e X.env) :: starEach es X.env := by rfl) (hpl : (backTo pos (starEach es X.env)).any (·.1) = false := by rfl) : PE X (.Call (.Name "Ratio" p) (e :: es) [] pos) (StX.tMakeR C (spR1 C) E0 t) := by
  obtain ⟨f, mk, _, F⟩ := M.ex
  exact StX.pe_makeR (E := E0) mk F hr hg M.rc.mgC pass0 ha (by decide) he hpl
end
def reprT (p : Int × Int) : Str := ("Ratio(" : Str) ++ tx p.1 ++ (", " : Str) ++ tx p.2 ++ (")" : Str)
section
variable {P : Program} {w : World} {K : PySem.W.Frag} {mg : Str → Option Value} {base : Heap}
/-! ### texts -/
theorem len_tx {i : Int} (h : i.natAbs < 2 ^ 1900) : (tx i).length ≤ 2000 := by
  have := PyProof.Rows.int_text_len_1921 (i := i) (Nat.lt_trans (log_of h (by decide)) (by decide))
  exact Nat.le_trans this (by decide)
theorem log_ok {i : Int} (h : i.natAbs < 2 ^ 1900) : i.natAbs.log2 < 1920 := Nat.lt_trans (log_of h (by decide)) (by decide)
theorem e_len : Str.empty.length = 0 := rfl
theorem r_len : (("Ratio(" : Str)).length = 6 := rfl
theorem c_len : ((", " : Str)).length = 2 := rfl
theorem p_len : ((")" : Str)).length = 1 := rfl
theorem s_len : (("/" : Str)).length = 1 := rfl
def spTxt (C : Addr) (f : Int × Int → Str) : Sp := fun vs H Q _ => ∃ (a : Addr) (p : Int × Int), vs = [.ref a] ∧ RatAt C H a p ∧ Bt 1900 p ∧ Q (.str (f p)) H
theorem scRRepr : FnScope ["self"] ["self"] (defScope sRRepr) := ⟨rfl, rfl, rfl, by decide +kernel, rfl, by decide +kernel, by decide +kernel⟩
theorem ok_repr {f C : Addr} {fd : FuncData} (F : Fun K "__repr__" "Ratio.__repr__" sRRepr f fd) (N : Rc K mg C) : FnOk P w K mg base CX0 1 f fd ["self"] (spTxt C reprT) := by
  refine F.ok scRRepr (fun vs H Q E h => ?_) (fun cdv A outer s H vs Q E hr h => ?_)
  · obtain ⟨a, p, rfl, _⟩ := h
    rfl
  · obtain ⟨a, p, rfl, ⟨dx, h1⟩, bp, q⟩ := h
    refine ⟨_, pss_one (ps_ret (pe_joined (PJ.cons pe_str (PJ.cons (pe_fmt (pe_fld (pv 0) rfl)) (PJ.cons pe_str (PJ.cons (pe_fmt (pe_fld (pv 0) rfl)) (PJ.cons pe_str PJ.nil))))))), ?_⟩
    have l1 := len_tx bp.1
    have l2 := len_tx bp.2
    have sl : sizeLine = 16777216 := sizeLine_eq
    refine ⟨_, rfl, ?_, _, rfl, a, C, dx, _, _, rfl, h1, N.cl, N.nT, rfl, .inr ⟨_, rfl, log_ok bp.1, _, rfl, ?_, _, rfl, ?_, ?_⟩⟩
    · rw [strLen_append, e_len, r_len, sl]; decide
    · show (Str.empty ++ ("Ratio(" : Str) ++ tx p.1).length ≤ _
      rw [strLen_append, strLen_append, e_len, r_len]; omega
    · show (Str.empty ++ ("Ratio(" : Str) ++ tx p.1 ++ (", " : Str)).length ≤ _
      rw [strLen_append, strLen_append, strLen_append, e_len, r_len, c_len]; omega
    refine ⟨_, rfl, a, C, dx, _, _, rfl, h1, N.cl, N.nB, rfl, .inr ⟨_, rfl, log_ok bp.2, _, rfl, ?_, _, rfl, ?_, ?_⟩⟩
    · show (Str.empty ++ ("Ratio(" : Str) ++ tx p.1 ++ (", " : Str) ++ tx p.2).length ≤ _
      rw [strLen_append, strLen_append, strLen_append, strLen_append, e_len, r_len, c_len]; omega
    · show (Str.empty ++ ("Ratio(" : Str) ++ tx p.1 ++ (", " : Str) ++ tx p.2 ++ (")" : Str)).length ≤ _
      rw [strLen_append, strLen_append, strLen_append, strLen_append, strLen_append, e_len, r_len, c_len, p_len]; omega
    show Q (.str (Str.empty ++ ("Ratio(" : Str) ++ tx p.1 ++ (", " : Str) ++ tx p.2 ++ (")" : Str))) H
    rw [Str.empty_append]
    exact q
end
theorem len_reprT {p : Int × Int} (h : Bt 1900 p) : (reprT p).length ≤ 5000 := by
  have l1 := len_tx h.1
  have l2 := len_tx h.2
  unfold reprT
  rw [strLen_append, strLen_append, strLen_append, strLen_append, r_len, c_len, p_len]
  omega
end S70

namespace S70
open PySem L2 SR RA TXM
theorem sTup {K : PySem.W.Frag} {H H' : Hp} {a : Addr} {xs : List V} (e : Same H H') (h : SqT K H a xs) : SqT K H' a xs := by
  rcases h with (h | ⟨o, h⟩) | h
  · exact .inl (.inl (e _ _ h))
  · exact .inl (.inr ⟨o, e _ _ h⟩)
  · exact .inr h
/-- a list or a tuple of integers -/
def RowIs (K : PySem.W.Frag) (H : Hp) (a : Addr) (r : List Int) : Prop := SqL K H a (r.map V.int) ∨ SqT K H a (r.map V.int)
theorem RowIs.same {K : PySem.W.Frag} {H H' : Hp} {a : Addr} {r : List Int} (e : Same H H') (h : RowIs K H a r) : RowIs K H' a r := h.imp (e.seq) (sTup e)
theorem lt_line {n : Nat} (h : n ≤ 100000) : n < sizeLine := Nat.lt_of_le_of_lt h (by decide)
theorem le_line {n : Nat} (h : n ≤ 100000) : n ≤ sizeLine := Nat.le_trans h (by decide)
theorem map_get {α : Type} {l : List α} {f : α → V} {i : Nat} {y : V} (h : (l.map f)[i]? = some y) : ∃ a, l[i]? = some a ∧ y = f a := by
  rw [List.getElem?_map] at h
  cases e : l[i]? with
  | none => rw [e] at h; cases h
  | some a => rw [e] at h; exact ⟨a, rfl, (Option.some.inj h).symm⟩
theorem take_succ_map {α : Type} {l : List α} {f : α → V} {i : Nat} {a : α} (h : l[i]? = some a) : (l.take i).map f ++ [f a] = (l.take (i + 1)).map f := by
  rw [List.take_add_one, h]; simp

/-! ### made instances: without arguments, by a star alone -/
section
variable {X : Cx} {CX : CXT} {k : Nat} {f C : Addr} {sp : Sp} {E : XK} {x : Str} {e : Expr} {te : TE} {p pos sp_ : Pos}
theorem pe_makeR0 (M : Mk X.K C f) (F : FnR X.prog X.w X.K X.mg X.base CX k f sp) (hr : Room (k + 1) X.A) (hg : Gl X x) (hm : X.mg x = some (.ref C)) (hx : Passes CX X E) (hdb : (x == ("__debug__" : Str)) = false := by decide) :
    PE X (.Call (.Name x p) [] [] pos) (StX.tMakeR C sp E tNil) := by
  refine ⟨fun pins s σ H Q I h => ?_⟩
  refine wpAny_Call_Name_kw (ld_glob I hg hm ?_ hdb)
  exact PySem.W.callWith_K0 I.kIn M.kp (StX.run_makeR (us := []) M F hr hx I .nil h)
def tMakeS (K : PySem.W.Frag) (C : Addr) (sp : Sp) (E : XK) (te : TE) : TE := fun σ H Q => te σ H fun y H1 => ∃ a xs, y = V.ref a ∧ (SqT K H1 a xs ∨ SqL K H1 a xs) ∧ ∀ x dx, H1 x = Option.none → H1 dx = Option.none → dx ≠ x →
  sp (V.ref x :: xs) (upd (upd H1 dx (.own x)) x (.ins C dx [])) (fun v H2 => v = .non ∧ Q (.ref x) H2) E
theorem pe_makeS (M : Mk X.K C f) (F : FnR X.prog X.w X.K X.mg X.base CX k f sp) (hr : Room (k + 1) X.A) (hg : Gl X x) (hm : X.mg x = some (.ref C)) (hx : Passes CX X E) (he : PE X e te) (hdb : (x == ("__debug__" : Str)) = false := by decide)
    (hst : starEach [.Starred e sp_] X.env = [(true, eval e X.env)] := by rfl) : PE X (.Call (.Name x p) [.Starred e sp_] [] pos) (tMakeS X.K C sp E te) := by
  refine ⟨fun pins s σ H Q I h => ?_⟩
  refine wpAny_Call_Name_kw (ld_glob I hg hm ?_ hdb)
  refine PySem.W.callWith_S (h₀ := X.base) I.ok.mod.kin M.kp (thn (he.run pins s σ H _ I h) fun v s1 ⟨y, H1, I1, ry, a, xs, ey, hxs, q⟩ => ?_) hst
  subst ey
  obtain rfl : v = Value.ref a := ry
  exact StX.star_any I1 hxs fun us s2 I2 rv => ⟨I2.kIn, StX.run_makeR M F hr hx I2 rv q⟩
end

section
variable {P : Program} {w : World} {K : PySem.W.Frag} {mg : Str → Option Value} {base : Heap}
/-! ### opposite_row -/
def spOpp (K : PySem.W.Frag) : Sp := fun vs H Q _ => ∃ (a : Addr) (r : List Int), vs = [.ref a] ∧ SqT K H a (r.map V.int) ∧ r.length ≤ 1000 ∧ ∀ H' p, Same H H' → H p = none → H' p = some (.lst ((oppR r).map V.int)) → Q (.ref p) H'
theorem scOpp : FnScope ["row", "one"] ["row"] (defScope sOpp) := ⟨rfl, rfl, rfl, by decide +kernel, rfl, by decide +kernel, by decide +kernel⟩
theorem ok_opp {f : Addr} {fd : FuncData} (F : Fun K "opposite_row" "opposite_row" sOpp f fd) (T : Bn mg) : FnOk P w K mg base CX0 1 f fd ["row"] (spOpp K) := by
  refine F.ok scOpp (fun vs H Q E h => ?_) (fun cdv A outer s H vs Q E hr h => ?_)
  · obtain ⟨a, r, rfl, _⟩ := h
    rfl
  · obtain ⟨a, r, rfl, hr1, hlen, q⟩ := h
    refine ⟨_, pss_one (ps_ret (pe_lc (own := [("one", 1)]) (g := gName 1) (tt := tYes) (by rfl) scOpp.nd (pi_tup (pv 0)) (blkOk_by (own := [("one", 1)]) (N := ["row", "one"]) (sc := defScope sOpp) (by decide +kernel))
      (fun _ _ _ _ _ => pg_name (i := 1) scOpp.nd rfl (Or.inl rfl)) (fun _ _ _ _ _ => pts_nil) (fun _ _ _ _ _ => pe_op op_sub pe_int (pv 1)))), ?_⟩
    refine ⟨_, rfl, a, rfl, ⟨_, hr1⟩, fun D hD => ?_⟩
    refine lc_it (walk_tup (K := K) (a := a) (xs := r.map V.int)) (fun i H' => Same H H' ∧ H' D = some (.lst (((oppR r).take i).map V.int))) ⟨sNew (Same.refl H) hD, upd_same⟩ (fun i H' _ h => sTup h.1 hr1) ?_ ?_
    · rintro i x H' _ hi ⟨s1, h1⟩ ⟨rfl, hx⟩
      obtain ⟨z, hz, rfl⟩ := map_get hx
      refine ⟨rfl, _, rfl, _, _, rfl, rfl, _, h1, ?_, sPut s1 hD, ?_⟩
      · have : i < r.length := by simpa using hi
        simp only [List.length_map, List.length_take]
        exact lt_line (by omega)
      · rw [upd_same]
        congr 2
        refine take_succ_map ?_
        unfold oppR
        rw [List.getElem?_map, hz]; rfl
    · rintro H' ⟨s1, h1⟩
      refine q H' D s1 hD ?_
      rw [h1]
      congr 3
      unfold oppR
      rw [List.take_of_length_le]
      simp
end
end S70

namespace S70
open PySem L2 SR RA TXM
theorem rep_flat (n : Nat) : (List.replicate n [V.int 0]).flatten = (List.replicate n (0 : Int)).map V.int := by
  induction n with
  | zero => rfl
  | succ n ih => rw [List.replicate_succ, List.flatten_cons, ih, List.replicate_succ]; rfl
section
variable {P : Program} {w : World} {K : PySem.W.Frag} {mg : Str → Option Value} {base : Heap}
/-! ### added_rows -/
def spAdded (K : PySem.W.Frag) : Sp := fun vs H Q _ => ∃ (a b : Addr) (r q : List Int), vs = [.ref a, .ref b] ∧ RowIs K H a r ∧ RowIs K H b q ∧ r.length ≤ 100 ∧ q.length ≤ 100 ∧
  ∀ H' p, Same H H' → H p = none → H' p = some (.lst ((addR r q).map V.int)) → Q (.ref p) H'
abbrev nAdded : List Str := ["one", "other", "wide", "first", "second", "left", "right"]
theorem scAdded : FnScope nAdded ["one", "other"] (defScope sAdded) := ⟨rfl, rfl, rfl, by decide +kernel, rfl, by decide +kernel, by decide +kernel⟩
theorem ok_added {f : Addr} {fd : FuncData} (F : Fun K "added_rows" "added_rows" sAdded f fd) (T : Bn mg) : FnOk P w K mg base CX0 1 f fd ["one", "other"] (spAdded K) := by
  refine F.ok scAdded (fun vs H Q E h => ?_) (fun cdv A outer s H vs Q E hr h => ?_)
  · obtain ⟨a, b, r, q, rfl, _⟩ := h
    rfl
  · obtain ⟨a, b, r, q, rfl, ha, hb, lr, lq, k⟩ := h
    refine ⟨_, pss_cons (ps_set (i := 2) scAdded.nd rfl (Or.inl rfl) (pe_callB (call_max2 rfl) (by rfl) T.max (by decide +kernel) (pa_cons (pe_callB call_len_seq (by rfl) T.len PySem.boot_len (pa_cons (pv 0) pa_nil))
        (pa_cons (pe_callB call_len_seq (by rfl) T.len PySem.boot_len (pa_cons (pv 1) pa_nil)) pa_nil))))
      (pss_cons (ps_par (i := 3) (j := 4) (by rfl) scAdded.nd rfl rfl (by decide) rfl rfl
        (pa_cons (pe_op op_cat (pe_callTy call_list_of (by rfl) T.list (by decide +kernel) (pa_cons (pv 0) pa_nil)) (pe_op op_rep (pe_lst (pa_cons pe_int pa_nil)) (pe_op op_sub (pv 2) (pe_callB call_len_seq (by rfl) T.len PySem.boot_len (pa_cons (pv 0) pa_nil)))))
        (pa_cons (pe_op op_cat (pe_callTy call_list_of (by rfl) T.list (by decide +kernel) (pa_cons (pv 1) pa_nil)) (pe_op op_rep (pe_lst (pa_cons pe_int pa_nil)) (pe_op op_sub (pv 2) (pe_callB call_len_seq (by rfl) T.len PySem.boot_len (pa_cons (pv 1) pa_nil))))) pa_nil)) (by rfl))
      (pss_one (ps_ret (pe_lc (own := [("left", 5), ("right", 6)]) (g := gTup K 2 (gCons (gName 5) (gCons (gName 6) gNil))) (tt := tYes) (by rfl) scAdded.nd (pi_zip (by rfl) T.zip (pa_cons (pv 3) (pa_cons (pv 4) pa_nil)))
        (blkOk_by (own := [("left", 5), ("right", 6)]) (N := nAdded) (sc := defScope sAdded) (by decide +kernel))
        (fun _ _ _ _ _ => pg_tup rfl (pgs_cons (pg_name (i := 5) scAdded.nd rfl (Or.inl rfl)) (pgs_cons (pg_name (i := 6) scAdded.nd rfl (Or.inl rfl)) pgs_nil))) (fun _ _ _ _ _ => pts_nil) (fun _ _ _ _ _ => pe_op op_add (pv 5) (pv 6)))))), ?_⟩
    refine ⟨_, rfl, a, _, rfl, ha, _, rfl, b, _, rfl, hb, _, _, rfl, ?_⟩
    have hw : (if (((q.map V.int).length : Nat) : Int) > (((r.map V.int).length : Nat) : Int) then (((q.map V.int).length : Nat) : Int) else (((r.map V.int).length : Nat) : Int)) = ((max r.length q.length : Nat) : Int) := by
      simp only [List.length_map]; split <;> omega
    rw [hw]
    -- first
    refine ⟨_, rfl, a, _, rfl, ha, fun l1 h1 => ?_⟩
    have s1 : Same H (upd H l1 (.lst (r.map V.int))) := sNew (Same.refl H) h1
    refine ⟨(by show 1 ≤ sizeLine; decide), fun l2 h2 => ?_⟩
    have s2 := sNew (o := .lst [V.int 0]) s1 h2
    refine ⟨_, rfl, _, rfl, a, _, rfl, ha.same s2, _, _, rfl, rfl, ?_⟩
    have hk : (((max r.length q.length : Nat) : Int) - (((r.map V.int).length : Nat) : Int)) = ((max r.length q.length - r.length : Nat) : Int) := by rw [List.length_map]; omega
    refine ⟨l2, _, _, rfl, congrArg V.int hk, upd_same, by omega, by omega, by rw [Int.toNat_natCast]; exact le_line (by show 1 * _ ≤ _; omega), fun l3 h3 => ?_⟩
    rw [Int.toNat_natCast, rep_flat]
    have s3 := sNew (o := .lst ((List.replicate (max r.length q.length - r.length) (0 : Int)).map V.int)) s2 h3
    refine ⟨l1, l3, r.map V.int, _, rfl, rfl, old (old upd_same h2) h3, upd_same, le_line (by simp only [List.length_map, List.length_replicate]; omega), fun l4 h4 => ?_⟩
    rw [← List.map_append]
    have s4 := sNew (o := .lst ((r ++ List.replicate (max r.length q.length - r.length) (0 : Int)).map V.int)) s3 h4
    -- second
    refine ⟨_, rfl, b, _, rfl, hb.same s4, fun m1 g1 => ?_⟩
    have t1 := sNew (o := .lst (q.map V.int)) s4 g1
    refine ⟨(by show 1 ≤ sizeLine; decide), fun m2 g2 => ?_⟩
    have t2 := sNew (o := .lst [V.int 0]) t1 g2
    refine ⟨_, rfl, _, rfl, b, _, rfl, hb.same t2, _, _, rfl, rfl, ?_⟩
    have hk2 : (((max r.length q.length : Nat) : Int) - (((q.map V.int).length : Nat) : Int)) = ((max r.length q.length - q.length : Nat) : Int) := by rw [List.length_map]; omega
    refine ⟨m2, _, _, rfl, congrArg V.int hk2, upd_same, by omega, by omega, by rw [Int.toNat_natCast]; exact le_line (by show 1 * _ ≤ _; omega), fun m3 g3 => ?_⟩
    rw [Int.toNat_natCast, rep_flat]
    have t3 := sNew (o := .lst ((List.replicate (max r.length q.length - q.length) (0 : Int)).map V.int)) t2 g3
    refine ⟨m1, m3, q.map V.int, _, rfl, rfl, old (old upd_same g2) g3, upd_same, le_line (by simp only [List.length_map, List.length_replicate]; omega), fun m4 g4 => ?_⟩
    rw [← List.map_append]
    have t4 := sNew (o := .lst ((q ++ List.replicate (max r.length q.length - q.length) (0 : Int)).map V.int)) t3 g4
    refine ⟨_, _, rfl, ?_⟩
    -- the sums
    generalize hH4 : upd (upd (upd (upd (upd (upd (upd (upd H l1 (HO.lst (r.map V.int))) l2 _) l3 _) l4 _) m1 _) m2 _) m3 _) m4 _ = H4 at t4 ⊢
    have hL4 : SqL K H4 l4 ((r ++ List.replicate (max r.length q.length - r.length) (0 : Int)).map V.int) := by
      rw [← hH4]; exact SqL.of (old (old (old (old upd_same g1) g2) g3) g4)
    have hM4 : SqL K H4 m4 ((q ++ List.replicate (max r.length q.length - q.length) (0 : Int)).map V.int) := by
      rw [← hH4]; exact SqL.of upd_same
    refine ⟨_, rfl, _, rfl, l4, m4, _, _, rfl, hL4, hM4, fun D hD => ?_⟩
    have e := pad_add r q
    refine lc_it (walk_zip (K := K) (a := l4) (b := m4) (n := (addR r q).length) (by rw [len_addR]; simp only [List.length_map, List.length_append, List.length_replicate]; omega))
      (fun i H' => Same H4 H' ∧ H' D = some (.lst (((addR r q).take i).map V.int))) ⟨sNew (Same.refl H4) hD, upd_same⟩ (fun i H' _ h => ⟨h.1.seq hL4, h.1.seq hM4⟩) ?_ ?_
    · rintro i x H' _ hi ⟨u1, w1⟩ ⟨TT, x1, x2, rfl, hT, rfl, e1, e2⟩
      obtain ⟨z1, z1e, rfl⟩ := map_get e1
      obtain ⟨z2, z2e, rfl⟩ := map_get e2
      refine ⟨TT, _, rfl, .inl (.inl upd_same), rfl, _, _, rfl, _, _, rfl, rfl, rfl, ?_⟩
      refine ⟨_, rfl, _, rfl, _, _, rfl, rfl, _, old w1 hT, ?_, sPut (sNew u1 hT) hD, ?_⟩
      · rw [len_addR] at hi
        simp only [List.length_map, List.length_take]
        exact lt_line (by omega)
      · rw [upd_same]
        congr 2
        refine take_succ_map ?_
        rw [← e, List.getElem?_zipWith, z1e, z2e]
    · rintro H' ⟨u1, w1⟩
      refine k H' D (Same.trans t4 u1) (t4.free hD) ?_
      rw [w1, List.take_of_length_le (Nat.le_refl _)]
end
end S70

namespace S70
open PySem L2 SR RA TXM
def lcScope : Expr → Scope
  | .ListComp _ _ sc _ => sc
  | _ => { kind := .function, names := [], isGenerator := false, isCoroutine := false }
def retE : Stmt → Expr
  | .Return (some e) _ => e
  | _ => .Constant .none 0 ⟨0, 0, 0, 0⟩
theorem getD_pad {r : List Int} {k i : Nat} (h : i < r.length + k) : (r ++ List.replicate k 0)[i]? = some (r.getD i 0) := by
  rw [List.getD_eq_getElem?_getD]
  by_cases hi : i < r.length
  · rw [List.getElem?_append_left hi, List.getElem?_eq_getElem hi]; rfl
  · rw [List.getElem?_append_right (by omega), List.getElem?_replicate, if_pos (by omega), List.getElem?_eq_none (by omega)]; rfl
section
variable {P : Program} {w : World} {K : PySem.W.Frag} {mg : Str → Option Value} {base : Heap}
/-! ### multiplied_rows -/
def spMult (K : PySem.W.Frag) : Sp := fun vs H Q _ => ∃ (a b : Addr) (r q : List Int) (n m : Nat), vs = [.ref a, .ref b] ∧ RowIs K H a r ∧ RowIs K H b q ∧ r.length ≤ 100 ∧ q.length ≤ 100 ∧ Bd n r ∧ Bd m q ∧ n ≤ 2000 ∧ m ≤ 2000 ∧
  ∀ H' p, Same H H' → H p = none → H' p = some (.lst ((mulR r q).map V.int)) → Q (.ref p) H'
abbrev nMult : List Str := ["one", "other", "first", "second", "at", "low"]
theorem scMult : FnScope nMult ["one", "other"] (defScope sMult) := ⟨rfl, rfl, rfl, by decide +kernel, rfl, by decide +kernel, by decide +kernel⟩
def tIn (K : PySem.W.Frag) : TE := tOp (rI CMulW fun i j => .int (i * j)) (tOp (rIxL K) (tVar 2) (tVar 5)) (tOp (rIxL K) (tVar 3) (tOp (rI0 fun i j => .int (i - j)) (tVar 4) (tVar 5)))
def tEl (K : PySem.W.Frag) : TE := tCB (rSum K) (tCons (tLc (iRng1 (tCons (tOp (rI0 fun i j => .int (i + j)) (tVar 4) (tC (.int 1))) tNil)) (gName 5) tYes (tIn K) [5]) tNil)
theorem ok_mult {f : Addr} {fd : FuncData} (F : Fun K "multiplied_rows" "multiplied_rows" sMult f fd) (T : Bn mg) : FnOk P w K mg base CX0 1 f fd ["one", "other"] (spMult K) := by
  refine F.ok scMult (fun vs H Q E h => ?_) (fun cdv A outer s H vs Q E hr h => ?_)
  · obtain ⟨a, b, r, q, n, m, rfl, _⟩ := h
    rfl
  · obtain ⟨a, b, r, q, n, m, rfl, ha, hb, lr, lq, br, bq, hn, hm, k⟩ := h
    refine ⟨_, pss_cons (ps_asg (pe_tup
        (pa_cons (pe_op op_cat (pe_callTy call_list_of (by rfl) T.list (by decide +kernel) (pa_cons (pv 0) pa_nil)) (pe_op op_rep (pe_lst (pa_cons pe_int pa_nil)) (pe_callB call_len_seq (by rfl) T.len PySem.boot_len (pa_cons (pv 1) pa_nil))))
        (pa_cons (pe_op op_cat (pe_callTy call_list_of (by rfl) T.list (by decide +kernel) (pa_cons (pv 1) pa_nil)) (pe_op op_rep (pe_lst (pa_cons pe_int pa_nil)) (pe_callB call_len_seq (by rfl) T.len PySem.boot_len (pa_cons (pv 0) pa_nil)))) pa_nil)))
        (pg_tup rfl (pgs_cons (pg_name (i := 2) scMult.nd rfl (Or.inr rfl)) (pgs_cons (pg_name (i := 3) scMult.nd rfl (Or.inr rfl)) pgs_nil))))
      (pss_one (ps_ret (pe_lc (own := [("at", 4)]) (g := gName 4) (tt := tYes) (te := tEl K) (by rfl) scMult.nd (pi_range1 (by rfl) T.range (pa_cons (pe_callB call_len_seq (by rfl) T.len PySem.boot_len (pa_cons (pv 2) pa_nil)) pa_nil))
        (blkOk_by (own := [("at", 4)]) (N := nMult) (sc := defScope sMult) (by decide +kernel))
        (fun _ _ _ _ _ => pg_name (i := 4) scMult.nd rfl (Or.inr rfl)) (fun _ _ _ _ _ => pts_nil)
        (fun _ _ _ _ _ => pe_callB (id := "sum") (r := rSum K) (cr_sum rfl) (by rfl) T.sum (by decide +kernel) (pa_cons
          (pe_lc (own := [("low", 5)]) (g := gName 5) (tt := tYes) (te := tIn K) (by rfl) scMult.nd (pi_range1 (by rfl) T.range (pa_cons (pe_op op_add (pv 4) pe_int) pa_nil))
            (blkOk_by (own := [("low", 5)]) (N := nMult) (sc := relS (lcScope (retE ((defBody sMult).getD 1 (.Pass ⟨0, 0, 0, 0⟩)))) (defScope sMult)) (by decide +kernel))
            (fun _ _ _ _ _ => pg_name (i := 5) scMult.nd rfl (Or.inl rfl)) (fun _ _ _ _ _ => pts_nil)
            (fun _ _ _ _ _ => pe_op op_mulW (pe_ix ix_list (pv 2) (pv 5) (fun _ _ => rfl)) (pe_ix ix_list (pv 3) (pe_op op_sub (pv 4) (pv 5)) (fun _ _ => rfl))))
          pa_nil))))), ?_⟩
    -- first
    refine ⟨_, rfl, a, _, rfl, ha, fun l1 h1 => ?_⟩
    have s1 : Same H (upd H l1 (.lst (r.map V.int))) := sNew (Same.refl H) h1
    refine ⟨(by show 1 ≤ sizeLine; decide), fun l2 h2 => ?_⟩
    have s2 := sNew (o := .lst [V.int 0]) s1 h2
    refine ⟨_, rfl, b, _, rfl, hb.same s2, l2, _, _, rfl, rfl, upd_same, by omega, by rw [List.length_map]; omega, by rw [Int.toNat_natCast, List.length_map]; exact le_line (by show 1 * _ ≤ _; omega), fun l3 h3 => ?_⟩
    rw [Int.toNat_natCast, rep_flat, List.length_map]
    have s3 := sNew (o := .lst ((List.replicate q.length (0 : Int)).map V.int)) s2 h3
    refine ⟨l1, l3, r.map V.int, _, rfl, rfl, old (old upd_same h2) h3, upd_same, le_line (by simp only [List.length_map, List.length_replicate]; omega), fun l4 h4 => ?_⟩
    rw [← List.map_append]
    have s4 := sNew (o := .lst ((r ++ List.replicate q.length (0 : Int)).map V.int)) s3 h4
    -- second
    refine ⟨_, rfl, b, _, rfl, hb.same s4, fun m1 g1 => ?_⟩
    have t1 := sNew (o := .lst (q.map V.int)) s4 g1
    refine ⟨(by show 1 ≤ sizeLine; decide), fun m2 g2 => ?_⟩
    have t2 := sNew (o := .lst [V.int 0]) t1 g2
    refine ⟨_, rfl, a, _, rfl, ha.same t2, m2, _, _, rfl, rfl, upd_same, by omega, by rw [List.length_map]; omega, by rw [Int.toNat_natCast, List.length_map]; exact le_line (by show 1 * _ ≤ _; omega), fun m3 g3 => ?_⟩
    rw [Int.toNat_natCast, rep_flat, List.length_map]
    have t3 := sNew (o := .lst ((List.replicate r.length (0 : Int)).map V.int)) t2 g3
    refine ⟨m1, m3, q.map V.int, _, rfl, rfl, old (old upd_same g2) g3, upd_same, le_line (by simp only [List.length_map, List.length_replicate]; omega), fun m4 g4 => ?_⟩
    rw [← List.map_append]
    have t4 := sNew (o := .lst ((q ++ List.replicate r.length (0 : Int)).map V.int)) t3 g4
    refine ⟨(by show 2 ≤ sizeLine; decide), fun tt htt => ?_⟩
    have t5 := sNew (o := .tup [V.ref l4, V.ref m4]) t4 htt
    refine ⟨tt, _, rfl, .inl (.inl upd_same), rfl, _, _, rfl, _, _, rfl, rfl, ?_⟩
    generalize hH4 : upd (upd (upd (upd (upd (upd (upd (upd (upd H l1 (HO.lst (r.map V.int))) l2 _) l3 _) l4 _) m1 _) m2 _) m3 _) m4 _) tt _ = H4 at t5 ⊢
    have hL4 : SqL K H4 l4 ((r ++ List.replicate q.length (0 : Int)).map V.int) := by
      rw [← hH4]; exact SqL.of (old (old (old (old (old upd_same g1) g2) g3) g4) htt)
    have hM4 : SqL K H4 m4 ((q ++ List.replicate r.length (0 : Int)).map V.int) := by
      rw [← hH4]; exact SqL.of (old upd_same htt)
    clear hH4
    have hlen : ((r ++ List.replicate q.length (0 : Int)).map V.int).length = r.length + q.length := by simp
    refine ⟨_, rfl, l4, _, rfl, .inl hL4, _, rfl, by rw [hlen]; omega, by rw [hlen]; omega, fun D hD => ?_⟩
    rw [hlen, Int.toNat_natCast]
    refine lc_it (walk_range (lo := 0) (n := r.length + q.length)) (fun i H' => Same H4 H' ∧ H' D = some (.lst (((mulR r q).take i).map V.int))) ⟨sNew (Same.refl H4) hD, upd_same⟩ (fun _ _ _ _ => trivial) ?_ ?_
    · rintro i x _ H' hi ⟨u1, w1⟩ ⟨rfl, rfl⟩
      have hi' : ((0 : Int) + (i : Nat)) = ((i : Nat) : Int) := by omega
      refine ⟨rfl, _, rfl, _, _, rfl, rfl, _, rfl, by omega, by omega, fun D2 hD2 => ?_⟩
      have hn2 : ((0 : Int) + (i : Nat) + 1).toNat = i + 1 := by omega
      rw [hn2]
      refine lc_it (walk_range (lo := 0) (n := i + 1)) (fun j H'' => Same H' H'' ∧ H'' D2 = some (.lst ((((List.range (i + 1)).map fun low => r.getD low 0 * q.getD (i - low) 0).take j).map V.int))) ⟨sNew (Same.refl H') hD2, upd_same⟩ (fun _ _ _ _ => trivial) ?_ ?_
      · rintro j x _ H'' hj ⟨u2, w2⟩ ⟨rfl, rfl⟩
        refine ⟨rfl, _, rfl, _, rfl, l4, _, _, _, rfl, rfl, (Same.trans u1 u2).seq hL4, at_of (j := j) (by omega) (by rw [List.getElem?_map, getD_pad (by omega)]; rfl), ?_⟩
        refine ⟨_, rfl, _, rfl, _, rfl, _, _, rfl, rfl, m4, _, _, _, rfl, rfl, (Same.trans u1 u2).seq hM4, at_of (j := i - j) (by omega) (by rw [List.getElem?_map, getD_pad (by omega)]; rfl), ?_⟩
        refine ⟨_, _, rfl, rfl, wide_mul (a := n + 1) (b := m + 1) (Nat.lt_of_lt_of_le (br.getD j) (pow_mono (by omega))) (Nat.lt_of_lt_of_le (bq.getD _) (pow_mono (by omega))) (by omega) (by omega) (by omega), _, w2, ?_, sPut u2 hD2, ?_⟩
        · simp only [List.length_map, List.length_take, List.length_range]
          exact lt_line (by omega)
        · rw [upd_same]
          congr 2
          refine take_succ_map (f := V.int) ?_
          rw [List.getElem?_map, List.getElem?_range (by omega)]; rfl
      · rintro H'' ⟨u2, w2⟩
        rw [List.take_of_length_le (by simp)] at w2
        refine ⟨D2, _, rfl, SqL.of w2, _, u2 _ _ w1, ?_, sPut (Same.trans u1 u2) hD, ?_⟩
        · simp only [List.length_map, List.length_take, len_mulR]
          exact lt_line (by omega)
        · rw [upd_same]
          congr 2
          refine take_succ_map (f := V.int) ?_
          unfold mulR conv
          rw [List.getElem?_map, List.getElem?_range (by omega)]; rfl
    · rintro H' ⟨u1, w1⟩
      refine k H' D (Same.trans t5 u1) (t5.free hD) ?_
      rw [w1, List.take_of_length_le (by rw [len_mulR]; exact Nat.le_refl _)]
end
end S70

namespace S70
open PySem L2 SR RA TXM
/-! ### data -/
def dRow (r : List Int) : PyData := .list (r.map .int)
def dTup (r : List Int) : PyData := .tuple (r.map .int)
theorem lay_ints (r : List Int) : PyData.canLayAll0 (r.map .int) = true := by
  induction r with
  | nil => rfl
  | cons a r ih => show (true && PyData.canLayAll0 (r.map .int)) = true; rw [ih]; rfl
theorem depth_ints (r : List Int) : PyData.depthAll (r.map .int) = 0 := by
  induction r with
  | nil => rfl
  | cons a r ih => show max 0 (PyData.depthAll (r.map .int)) = 0; rw [ih]; rfl
theorem sh_row (r : List Int) : SeqAt.shaped (dRow r) = true := by
  show (PyData.canLayAll0 (r.map .int) && decide (PyData.depthAll (r.map .int) + 1 ≤ 64)) = true
  rw [lay_ints, depth_ints]; rfl
theorem sh_tup (r : List Int) : SeqAt.shaped (dTup r) = true := by
  show (PyData.canLayAll0 (r.map .int) && decide (PyData.depthAll (r.map .int) + 1 ≤ 64)) = true
  rw [lay_ints, depth_ints]; rfl
theorem dp_ints {K : PySem.W.Frag} {H : Hp} : ∀ r : List Int, DpAll K H (r.map V.int) (r.map .int)
  | [] => .nil
  | a :: r => .cons (.int a) (dp_ints r)
theorem dp_row {K : PySem.W.Frag} {H : Hp} {a : Addr} {r : List Int} (h : SqL K H a (r.map V.int)) : Dp K H (.ref a) (dRow r) := .lst h (dp_ints r)
theorem dp_tup {K : PySem.W.Frag} {H : Hp} {a : Addr} {r : List Int} (h : SqT K H a (r.map V.int)) : Dp K H (.ref a) (dTup r) := .tup h (dp_ints r)
theorem row_nil (r : List Int) : PyData.eqv (dRow r) (dRow []) = decide (r = []) := by
  cases r with
  | nil => rfl
  | cons a r => rfl
theorem tup_nil (r : List Int) : PyData.eqv (dTup r) (dTup []) = decide (r = []) := by
  cases r with
  | nil => rfl
  | cons a r => rfl
/-! ### instances -/
abbrev oRow : Str := "own_row"
def PolyAt (C : Addr) (H : Hp) (p : Addr) (r : List Int) : Prop := ∃ dx t, H p = some (.ins C dx [(oRow, .ref t)]) ∧ H t = some (.tup (r.map V.int))
theorem PolyAt.same {C : Addr} {H H' : Hp} {p : Addr} {r : List Int} (s : Same H H') (h : PolyAt C H p r) : PolyAt C H' p r := by
  obtain ⟨dx, t, h1, h2⟩ := h
  exact ⟨dx, t, s _ _ h1, s _ _ h2⟩
structure Pc (K : PySem.W.Frag) (mg : Str → Option Value) (R C : Addr) : Prop where
  cl : Cls K C
  nR : NoAttr K C oRow
  mgC : mg "Polynomial" = some (.ref C)
  ic : PySem.W.findIn K (.ref C) "__class__" = some (some (.builtin "object.__class__"))
  gt : PySem.W.specialIn K (.builtin "object.__class__") "__get__" = some (some (.builtin "getset_descriptor.__get__"))
  tk : PySem.W.takesIn K (.builtin "object.__class__") = some true
  mo : PySem.W.mroIn K C (.type "object") = some true
  sf : PySem.W.selfFirst K C = true
  ik : PySem.W.kitOne K (.type "int") (.ref C) = some false
  rk : PySem.W.kitOne K (.ref R) (.ref C) = some false
  si : PySem.W.subIn K (.type "int") (.ref C) = some false
  ss : PySem.W.subIn K (.type "str") (.ref C) = some false
  rs : PySem.W.subIn K (.ref R) (.ref C) = some false
  oc : OddC K C
theorem atI_lastV (xs : List V) (v : V) : atI (xs ++ [v]) (-1) = some v := atI_last xs v
section
variable {P : Program} {w : World} {K : PySem.W.Frag} {mg : Str → Option Value} {base : Heap}
/-! ### Polynomial.__init__ -/
def spPInit (K : PySem.W.Frag) (C : Addr) : Sp := fun vs H Q _ => ∃ (x dx t : Addr) (r : List Int), vs = [.ref x, .ref t] ∧ H x = some (.ins C dx []) ∧ SqT K H t (r.map V.int) ∧ r.length ≤ 1000 ∧
  ∀ (H' : Hp) (c : List Int) (k : Nat) (u : Addr), r = c ++ List.replicate k 0 → Canon c → SameX x H H' → H' x = some (.ins C dx [(oRow, .ref u)]) → H' u = some (.tup (c.map V.int)) → Q .non H'
abbrev nPInit : List Str := ["self", "coefficients", "one", "found"]
theorem scPInit : FnScope nPInit (([("self" : Str)] : List Str) ++ [("coefficients" : Str)]) (defScope sPInit) := ⟨rfl, rfl, rfl, by decide +kernel, rfl, by decide +kernel, by decide +kernel⟩
theorem ok_pinit {f R C : Addr} {fd : FuncData} (F : Fun K "__init__" "Polynomial.__init__" sPInit f fd) (T : Bn mg) (N : Pc K mg R C) (DI : Df P w K mg base "is_integer" ["value"] 1 (spIsInt R)) :
    FnR P w K mg base CX0 2 f (fun vs H Q E => ∃ ws rest, vs = ws ++ rest ∧ ws.length = (["self"] : List Str).length ∧ rest.length ≤ sizeLine ∧ ∀ p, H p = Option.none → spPInit K C (ws ++ [V.ref p]) (upd H p (.tup rest)) Q E) := by
  obtain ⟨oc, od, kV, doc, pm, an, cdv, ct, osl, rfl, lk, hcd⟩ := F.ex
  refine StX.fn_star (ps := ["self"]) (pv := "coefficients") lk hcd scPInit StX.cxUp_none (fun us rest hl => ?_) (fun A outer s H vs Q E hr h => ?_)
  · match us, rest, hl with
    | [u], [], _ => rfl
    | [u], a :: b, _ => rfl
  · obtain ⟨x, dx, t, r, rfl, hx, ht, hlen, k⟩ := h
    refine ⟨_, PSs.nox (pss_cons (ps_for PassesOwn.never rfl (pi_tup (pv 1)) (pg_name (i := 2) scPInit.nd rfl (Or.inl rfl)) (pss_one (ps_if (pt_not (pt_val (pe_df DI hr (by rfl) (pa_cons (pv 2) pa_nil)))) (pss_one ps_never) pss_nil)))
      (pss_cons (ps_set (i := 3) scPInit.nd rfl (Or.inl rfl) (pe_callTy call_list_of (by rfl) T.list (by decide +kernel) (pa_cons (pv 1) pa_nil)))
      (pss_cons (ps_while PassesOwn.never (PW.pt (pw_and (pt_cmpR (op_neD hr.units) (pv 3) (pe_lst pa_nil) (nomark _)) (pw_and1 (pt_cmpR op_eq (pe_ix ix_list (pv 3) (pe_un un_neg pe_int) (fun _ _ => rfl)) pe_int (nomark _)))))
        (pss_one (ps_expr (pe_bm0 PySem.F.plainAttrs_list PySem.F.slot_list_pop PySem.F.type_list_pop mt_pop (pv 3)))))
      (pss_one (ps_fld (pv 0) (pe_callTy call_tuple_of (by rfl) T.tuple (by decide +kernel) (pa_cons (pv 3) pa_nil)) rfl))))), ?_⟩
    refine ⟨_, rfl, t, rfl, ⟨_, ht⟩, for_it (walk_tup (K := K) (a := t) (xs := r.map V.int)) (fun i σ H' => H = H' ∧ ∃ v, σ = [some (.ref x), some (.ref t), v, none]) ⟨rfl, none, rfl⟩ (fun i σ H' _ h => h.1 ▸ ht) ?_ ?_⟩
    · rintro i y σ _ _ hi ⟨rfl, v, rfl⟩ ⟨rfl, hy⟩
      obtain ⟨z, hz, rfl⟩ := map_get hy
      refine ⟨_, rfl, .inl ⟨z, rfl, true, rfl, ?_⟩⟩
      exact ⟨rfl, _, rfl⟩
    · rintro σ _ ⟨rfl, v, rfl⟩
      refine ⟨_, rfl, t, _, rfl, .inr ht, fun l hl => ?_⟩
      have hxl : x ≠ l := ne_of_none hx hl
      refine ⟨fun m σ H' => ∃ c : List Int, m = c.length ∧ σ = [some (.ref x), some (.ref t), v, some (.ref l)] ∧ (∃ k, r = c ++ List.replicate k 0) ∧ Same H H' ∧ H' l = some (.lst (c.map V.int)), ⟨r.length, r, rfl, rfl, ⟨0, by simp⟩, sNew (Same.refl H) hl, upd_same⟩, ?_⟩
      rintro m σ H1 ⟨c, rfl, rfl, ⟨k0, hk0⟩, s1, h1⟩
      refine ⟨_, rfl, Nat.zero_le _, fun l2 hl2 => ?_⟩
      have s2 := sNew (o := .lst []) s1 hl2
      refine ⟨dRow c, dRow [], dp_row (SqL.of (old h1 hl2)), dp_row (r := []) (SqL.of upd_same), sh_row _, sh_row _, _, rfl, ?_⟩
      rw [row_nil]
      by_cases hc : c = []
      · subst hc
        refine iteF ?_
        refine ⟨_, rfl, l, _, rfl, .inl ⟨SqL.of (old h1 hl2), fun u hu => ?_⟩⟩
        refine ⟨_, rfl, x, C, dx, [], rfl, old (s2 _ _ hx) hu, N.cl, N.nR, (by show 0 < 1000; decide), ?_⟩
        refine k _ [] k0 u hk0 (by simp [Canon]) (fun b o hb e => ?_) upd_same ?_
        · rw [upd_ne hb]; exact old (s2 _ _ e) hu
        · rw [upd_ne (fun (e : u = x) => ?_), upd_same]
          rw [e, s2 _ _ hx] at hu; cases hu
      · rw [decide_eq_false hc]
        refine iteT ?_
        obtain ⟨d, z, rfl⟩ : ∃ d z, c = d ++ [z] := ⟨c.dropLast, c.getLast hc, (List.dropLast_concat_getLast hc).symm⟩
        have h1' : H1 l = some (.lst (d.map V.int ++ [V.int z])) := by rw [h1]; simp
        refine ⟨_, rfl, _, rfl, l, _, _, _, rfl, rfl, SqL.of (old h1' hl2), atI_lastV _ _, rfl, _, rfl, ?_⟩
        by_cases hz : z = 0
        · subst hz
          rw [decide_eq_true rfl]
          refine iteT ?_
          refine ⟨fun σ' H' => ∃ c : List Int, c.length < (d ++ [(0 : Int)]).length ∧ σ' = [some (.ref x), some (.ref t), v, some (.ref l)] ∧ (∃ k, r = c ++ List.replicate k 0) ∧ Same H H' ∧ H' l = some (.lst (c.map V.int)), fun σ' H' ⟨c, h2, h3, h4, h5, h6⟩ => ⟨_, h2, c, rfl, h3, h4, h5, h6⟩, ?_⟩
          refine ⟨_, rfl, .inl ⟨rfl, _, SqL.of (old h1' hl2)⟩, l, _, V.int 0, rfl, rfl, old h1' hl2, (by simp), ?_⟩
          refine ⟨d, by simp, rfl, ⟨k0 + 1, ?_⟩, sPut s2 hl, ?_⟩
          · rw [hk0, List.append_assoc, List.replicate_succ]; rfl
          · rw [upd_same, List.dropLast_concat]
        · rw [decide_eq_false (fun e => hz (V.int.inj e))]
          refine iteF ?_
          refine ⟨_, rfl, l, _, rfl, .inl ⟨SqL.of ((old h1 hl2)), fun u hu => ?_⟩⟩
          refine ⟨_, rfl, x, C, dx, [], rfl, old (s2 _ _ hx) hu, N.cl, N.nR, (by show 0 < 1000; decide), ?_⟩
          refine k _ (d ++ [z]) k0 u hk0 (by simp [Canon, hz]) (fun b o hb e => ?_) upd_same ?_
          · rw [upd_ne hb]; exact old (s2 _ _ e) hu
          · rw [upd_ne (fun (e : u = x) => ?_), upd_same]
            rw [e, s2 _ _ hx] at hu; cases hu
end
end S70

namespace S70
open PySem L2 SR RA TXM
theorem sgn_int (x : Int) : ((if decide (x > 0) = true then 1 else 0) - (if decide (x < 0) = true then 1 else 0) : Int) = sgn x := by
  unfold sgn
  by_cases h : x > 0
  · have h2 : ¬ x < 0 := by omega
    simp [h, h2]
  · by_cases h2 : x < 0
    · simp [h, h2]
    · simp [h, h2]
section
variable {P : Program} {w : World} {K : PySem.W.Frag} {mg : Str → Option Value} {base : Heap}
/-! ### a polynomial is made -/
def spStar (K : PySem.W.Frag) (C : Addr) : Sp := fun vs H Q E => ∃ ws rest, vs = ws ++ rest ∧ ws.length = (["self"] : List Str).length ∧ rest.length ≤ sizeLine ∧ ∀ p, H p = Option.none → spPInit K C (ws ++ [V.ref p]) (upd H p (.tup rest)) Q E
def Made (C : Addr) (H1 : Hp) (r : List Int) (Q : VK) : Prop := r.length ≤ 1000 ∧ ∀ (H' : Hp) (p : Addr) (c : List Int) (k : Nat), Same H1 H' → H1 p = none → PolyAt C H' p c → r = c ++ List.replicate k 0 → Canon c → Q (.ref p) H'
theorem made_sp {C : Addr} {H1 : Hp} {r : List Int} {Q : VK} {E : XK} (h : Made C H1 r Q) (x dx : Addr) (hx : H1 x = none) (hdx : H1 dx = none) (ne : dx ≠ x) :
    spStar K C (V.ref x :: r.map V.int) (upd (upd H1 dx (.own x)) x (.ins C dx [])) (fun v H2 => v = .non ∧ Q (.ref x) H2) E := by
  obtain ⟨hl, k⟩ := h
  refine ⟨[.ref x], r.map V.int, rfl, rfl, le_line (by rw [List.length_map]; omega), fun p hp => ?_⟩
  have npx : p ≠ x := fun e => by rw [e, upd_same] at hp; cases hp
  have npd : p ≠ dx := fun e => by rw [e, upd_ne ne, upd_same] at hp; cases hp
  have hp0 : H1 p = none := by rw [upd_ne npx, upd_ne npd] at hp; exact hp
  refine ⟨x, dx, p, r, rfl, ?_, .inl (.inl upd_same), hl, fun H' c k' u hr hc sx hx' hu => ⟨rfl, ?_⟩⟩
  · rw [upd_ne npx.symm, upd_same]
  · refine k H' x c k' (fun b o e => ?_) hx ⟨dx, u, hx', hu⟩ hr hc
    have nbx : b ≠ x := ne_of_none e hx
    have nbd : b ≠ dx := ne_of_none e hdx
    have nbp : b ≠ p := ne_of_none e hp0
    exact sx b o nbx (by rw [upd_ne nbp, upd_ne nbx, upd_ne nbd]; exact e)
/-- Polynomial(e, ..) -/
def tPoly (C : Addr) (t : TA) : TE := fun σ H Q => t σ H fun vs H1 => ∃ r : List Int, vs = r.map V.int ∧ Made C H1 r Q
/-- Polynomial(*e) -/
def tPolyS (K : PySem.W.Frag) (C : Addr) (te : TE) : TE := fun σ H Q => te σ H fun y H1 => ∃ a r, y = V.ref a ∧ SqL K H1 a (r.map V.int) ∧ Made C H1 r Q
structure PMk (P : Program) (w : World) (K : PySem.W.Frag) (mg : Str → Option Value) (base : Heap) (R C : Addr) : Prop where
  pc : Pc K mg R C
  ex : ∃ f, Mk K C f ∧ FnR P w K mg base CX0 2 f (spStar K C)
section
variable {X : Cx} {R C : Addr} {e : Expr} {es : List Expr} {t : TA} {te : TE} {p pos sp_ : Pos}
theorem mono_TA {X : Cx} {es : List Expr} {t : TA} (h : PA X es t) : PA X es t := h
theorem pe_poly0 (M : PMk X.prog X.w X.K X.mg X.base R C) (hr : Room 3 X.A) (hg : Gl X "Polynomial") : PE X (.Call (.Name "Polynomial" p) [] [] pos) (fun _ H Q => Made C H [] Q) := by
  obtain ⟨f, mk, F⟩ := M.ex
  refine PE.imp (pe_makeR0 (E := E0) mk F hr hg M.pc.mgC pass0) fun σ H Q h => ?_
  exact fun x dx hx hdx ne => made_sp (r := []) h x dx hx hdx ne
theorem pe_polyS (M : PMk X.prog X.w X.K X.mg X.base R C) (hr : Room 3 X.A) (hg : Gl X "Polynomial") (he : PE X e te) (hm : ∀ σ H Q Q', (∀ y H1, Q y H1 → Q' y H1) → te σ H Q → te σ H Q')
    (hst : starEach [.Starred e sp_] X.env = [(true, eval e X.env)] := by rfl) : PE X (.Call (.Name "Polynomial" p) [.Starred e sp_] [] pos) (tPolyS X.K C te) := by
  obtain ⟨f, mk, F⟩ := M.ex
  refine PE.imp (pe_makeS (E := E0) mk F hr hg M.pc.mgC pass0 he (by decide) hst) fun σ H Q h => ?_
  refine hm σ H _ _ (fun y H1 q => ?_) h
  obtain ⟨a, r, rfl, hr, hq⟩ := q
  exact ⟨a, _, rfl, .inr hr, fun x dx hx hdx ne => made_sp hq x dx hx hdx ne⟩
theorem pe_poly (M : PMk X.prog X.w X.K X.mg X.base R C) (hr : Room 3 X.A) (hg : Gl X "Polynomial") (ha : PA X (e :: es) t) (hm : ∀ σ H Q Q', (∀ y H1, Q y H1 → Q' y H1) → t σ H Q → t σ H Q')
    (he : starEach (e :: es) X.env = (false, eval e X.env) :: starEach es X.env := by rfl) (hpl : (backTo pos (starEach es X.env)).any (·.1) = false := by rfl) : PE X (.Call (.Name "Polynomial" p) (e :: es) [] pos) (tPoly C t) := by
  obtain ⟨f, mk, F⟩ := M.ex
  refine PE.imp (StX.pe_makeR (E := E0) mk F hr hg M.pc.mgC pass0 ha (by decide) he hpl) fun σ H Q h => ?_
  refine hm σ H _ _ (fun y H1 q => ?_) h
  obtain ⟨r, rfl, hq⟩ := q
  exact fun x dx hx hdx ne => made_sp hq x dx hx hdx ne
end
/-! ### its small methods -/
def spCoef (C : Addr) : Sp := fun vs H Q _ => ∃ (p : Addr) (r : List Int), vs = [.ref p] ∧ PolyAt C H p r ∧ ∀ t, H t = some (.tup (r.map V.int)) → Q (.ref t) H
theorem scCoef : FnScope ["self"] ["self"] (defScope sPCoef) := ⟨rfl, rfl, rfl, by decide +kernel, rfl, by decide +kernel, by decide +kernel⟩
theorem ok_coef {f R C : Addr} {fd : FuncData} (F : Fun K "coefficients" "Polynomial.coefficients" sPCoef f fd) (N : Pc K mg R C) : FnOk P w K mg base CX0 1 f fd ["self"] (spCoef C) := by
  refine F.ok scCoef (fun vs H Q E h => ?_) (fun cdv A outer s H vs Q E hr h => ?_)
  · obtain ⟨p, r, rfl, _⟩ := h
    rfl
  · obtain ⟨p, r, rfl, ⟨dx, t, h1, h2⟩, q⟩ := h
    refine ⟨_, pss_one (ps_ret (pe_fld (pv 0) rfl)), ?_⟩
    exact ⟨_, rfl, p, C, dx, _, _, rfl, h1, N.cl, N.nR, rfl, q t h2⟩
def spDeg (C : Addr) : Sp := fun vs H Q _ => ∃ (p : Addr) (r : List Int), vs = [.ref p] ∧ PolyAt C H p r ∧ Q (.int ((r.length : Int) - 1)) H
theorem scDeg : FnScope ["self"] ["self"] (defScope sPDeg) := ⟨rfl, rfl, rfl, by decide +kernel, rfl, by decide +kernel, by decide +kernel⟩
theorem ok_deg {f R C : Addr} {fd : FuncData} (F : Fun K "degree" "Polynomial.degree" sPDeg f fd) (T : Bn mg) (N : Pc K mg R C) : FnOk P w K mg base CX0 1 f fd ["self"] (spDeg C) := by
  refine F.ok scDeg (fun vs H Q E h => ?_) (fun cdv A outer s H vs Q E hr h => ?_)
  · obtain ⟨p, r, rfl, _⟩ := h
    rfl
  · obtain ⟨p, r, rfl, ⟨dx, t, h1, h2⟩, q⟩ := h
    refine ⟨_, pss_one (ps_ret (pe_op op_sub (pe_callB call_len_seq (by rfl) T.len PySem.boot_len (pa_cons (pe_fld (pv 0) rfl) pa_nil)) pe_int)), ?_⟩
    refine ⟨_, rfl, p, C, dx, _, _, rfl, h1, N.cl, N.nR, rfl, t, _, rfl, .inr (.inl (.inl h2)), _, _, rfl, rfl, ?_⟩
    rw [List.length_map]
    exact q
/-! ### at -/
def spAt (C : Addr) : Sp := fun vs H Q _ => ∃ (p : Addr) (r : List Int) (d : Int) (n m : Nat), vs = [.ref p, .int d] ∧ PolyAt C H p r ∧ Bd n r ∧ d.natAbs < 2 ^ m ∧ r.length ≤ 20 ∧ n ≤ 2000 ∧ m ≤ 2000 ∧ ∀ H', Same H H' → Q (.int (ev r d)) H'
abbrev nAt : List Str := ["self", "d", "found", "one"]
theorem scAt : FnScope nAt ["self", "d"] (defScope sPAt) := ⟨rfl, rfl, rfl, by decide +kernel, rfl, by decide +kernel, by decide +kernel⟩
theorem ev_drop {r : List Int} {i : Nat} {a x : Int} (h : r.reverse[i]? = some a) : ev (r.drop (r.length - (i + 1))) x = ev (r.drop (r.length - i)) x * x + a := by
  have hi : i < r.length := by
    have := (List.getElem?_eq_some_iff.mp h).1
    simpa using this
  rw [List.getElem?_reverse hi] at h
  have e : r.length - (i + 1) = r.length - 1 - i := by omega
  rw [e]
  obtain ⟨hj, e2⟩ := List.getElem?_eq_some_iff.mp h
  rw [List.drop_eq_getElem_cons hj, e2]
  show a + x * ev (r.drop (r.length - 1 - i + 1)) x = _
  rw [show r.length - 1 - i + 1 = r.length - i by omega, Int.mul_comm x, Int.add_comm]
theorem ok_at {f R C : Addr} {fd : FuncData} (F : Fun K "at" "Polynomial.at" sPAt f fd) (T : Bn mg) (N : Pc K mg R C) (DI : Df P w K mg base "is_integer" ["value"] 1 (spIsInt R)) : FnOk P w K mg base CX0 2 f fd ["self", "d"] (spAt C) := by
  refine F.ok scAt (fun vs H Q E h => ?_) (fun cdv A outer s H vs Q E hr h => ?_)
  · obtain ⟨p, r, d, n, m, rfl, _⟩ := h
    rfl
  · obtain ⟨p, r, d, n, m, rfl, ⟨dx, t, h1, h2⟩, hn, hm, hl, ln, lm, q⟩ := h
    refine ⟨_, pss_cons (ps_if (pt_not (pt_val (pe_df DI hr (by rfl) (pa_cons (pv 1) pa_nil)))) (pss_one ps_never) pss_nil)
      (pss_cons (ps_set (i := 2) scAt.nd rfl (Or.inl rfl) pe_int)
      (pss_cons (ps_for PassesOwn.never rfl (pi_tup (pe_revT (pe_fld (pv 0) rfl))) (pg_name (i := 3) scAt.nd rfl (Or.inl rfl)) (pss_one (ps_set (i := 2) scAt.nd rfl (Or.inl rfl) (pe_op op_add (pe_op op_mulW (pv 2) (pv 1)) (pv 3)))))
      (pss_one (ps_ret (pv 2))))), ?_⟩
    refine ⟨_, rfl, .inl ⟨d, rfl, true, rfl, ?_⟩⟩
    refine ⟨_, rfl, p, C, dx, _, _, rfl, h1, N.cl, N.nR, rfl, t, _, rfl, .inl (.inl h2), fun u hu => ?_⟩
    have s1 := sNew (o := .tup (r.map V.int).reverse) (Same.refl H) hu
    refine ⟨u, rfl, ⟨_, .inl (.inl upd_same)⟩, for_it (walk_tup (K := K) (a := u) (xs := (r.map V.int).reverse)) (fun i σ H' => upd H u (.tup (r.map V.int).reverse) = H' ∧ ∃ v, σ = [some (.ref p), some (.int d), some (.int (ev (r.drop (r.length - i)) d)), v]) ⟨rfl, none, ?_⟩ (fun i σ H' _ h => h.1 ▸ .inl (.inl upd_same)) ?_ ?_⟩
    · rw [Nat.sub_zero, List.drop_length]; rfl
    · rintro i y σ _ _ hi ⟨rfl, v, rfl⟩ ⟨rfl, hy⟩
      rw [← List.map_reverse] at hy
      obtain ⟨z, hz, rfl⟩ := map_get hy
      have hb : Bd n (r.drop (r.length - i)) := fun a ha => hn a (List.mem_of_mem_drop ha)
      have hbd := ev_bd hm hb
      have hi' : i < r.length := by simpa using hi
      refine ⟨_, rfl, _, rfl, _, _, rfl, rfl, wide_mul (a := 50000) (b := 3000) (Nat.lt_of_lt_of_le hbd (pow_mono ?_)) (Nat.lt_of_lt_of_le hm (pow_mono (by omega))) (by omega) (by omega) (by omega), _, rfl, _, _, rfl, rfl, ?_⟩
      · rw [List.length_drop]
        have h3 : (r.length - (r.length - i)) * (m + 1) ≤ 20 * 2001 := Nat.mul_le_mul (by omega) (by omega)
        omega
      · refine ⟨rfl, some (.int z), ?_⟩
        rw [ev_drop hz]; rfl
    · rintro σ _ ⟨rfl, v, rfl⟩
      refine ⟨_, rfl, ?_⟩
      have e : r.length - (r.map V.int).reverse.length = 0 := by simp
      rw [e, List.drop_zero]
      exact q _ s1
end
end S70

namespace S70
open PySem L2 SR RA TXM
section
variable {P : Program} {w : World} {K : PySem.W.Frag} {mg : Str → Option Value} {base : Heap}
structure PCl (P : Program) (w : World) (K : PySem.W.Frag) (mg : Str → Option Value) (base : Heap) (R C : Addr) : Prop where
  pm : PMk P w K mg base R C
  coef : ∃ f fd, Meth K C "coefficients" f ∧ Binds K fd ["self"] [] ∧ FnOk P w K mg base CX0 1 f fd ["self"] (spCoef C)
  at_ : ∃ f fd, Meth K C "at" f ∧ Binds K fd ["self", "d"] [] ∧ FnOk P w K mg base CX0 2 f fd ["self", "d"] (spAt C)
  deg : ∃ p g fd, PropOf K C "degree" p g ∧ Binds K fd ["self"] [] ∧ FnOk P w K mg base CX0 1 g fd ["self"] (spDeg C)
/-! ### row_of -/
theorem scRowOf : FnScope ["value"] ["value"] (defScope sRowOf) := ⟨rfl, rfl, rfl, by decide +kernel, rfl, by decide +kernel, by decide +kernel⟩
theorem ok_rowOf {f R C : Addr} {fd : FuncData} (F : Fun K "row_of" "row_of" sRowOf f fd) (T : Bn mg) (N : PCl P w K mg base R C) : FnOk P w K mg base CX0 2 f fd ["value"] (spCoef C) := by
  refine F.ok scRowOf (fun vs H Q E h => ?_) (fun cdv A outer s H vs Q E hr h => ?_)
  · obtain ⟨p, r, rfl, _⟩ := h
    rfl
  · obtain ⟨p, r, rfl, hp, q⟩ := h
    obtain ⟨g, gd, gm, gb, G⟩ := N.coef
    obtain ⟨dx, t, h1, h2⟩ := id hp
    refine ⟨_, pss_cons (ps_if (pt_not (pt_val (pe_callB call_isi (by rfl) T.isi (by decide +kernel) (pa_cons (pv 0) (pa_cons (pe_glob (v := .ref C) (by rfl) N.pm.pc.mgC rfl) pa_nil))))) (pss_one ps_never) pss_nil)
      (pss_one (ps_ret (pe_meth0 (pv 0) N.pm.pc.cl gm G hr gb .nil pass0))), ?_⟩
    refine ⟨_, rfl, _, _, _, _, true, rfl, .own C, .base (.ins h1 N.pm.pc.cl N.pm.pc.ic N.pm.pc.gt N.pm.pc.tk N.pm.pc.mo), kit_self, true, rfl, ?_⟩
    exact ⟨_, rfl, p, dx, _, rfl, h1, rfl, p, r, rfl, hp, q⟩
/-! ### the operators -/
def spBin (C : Addr) (g : List Int → List Int → List Int) (pre : List Int → List Int → Prop) : Sp := fun vs H Q _ => ∃ (a b : Addr) (r q : List Int), vs = [.ref a, .ref b] ∧ PolyAt C H a r ∧ PolyAt C H b q ∧ r.length ≤ 100 ∧ q.length ≤ 100 ∧ pre r q ∧
  ∀ (H' : Hp) (p : Addr) (c : List Int) (k : Nat), Same H H' → H p = none → PolyAt C H' p c → g r q = c ++ List.replicate k 0 → Canon c → Q (.ref p) H'
def preM (r q : List Int) : Prop := ∃ n m, Bd n r ∧ Bd m q ∧ n ≤ 2000 ∧ m ≤ 2000
abbrev nOp : List Str := ["self", "other", "found"]
theorem scAdd : FnScope nOp ["self", "other"] (defScope sPAdd) := ⟨rfl, rfl, rfl, by decide +kernel, rfl, by decide +kernel, by decide +kernel⟩
theorem scSub : FnScope nOp ["self", "other"] (defScope sPSub) := ⟨rfl, rfl, rfl, by decide +kernel, rfl, by decide +kernel, by decide +kernel⟩
theorem scMul : FnScope nOp ["self", "other"] (defScope sPMul) := ⟨rfl, rfl, rfl, by decide +kernel, rfl, by decide +kernel, by decide +kernel⟩
theorem tVar_mono {i : Nat} (σ : St) (H : Hp) (Q Q' : VK) (h : ∀ y H1, Q y H1 → Q' y H1) (q : tVar i σ H Q) : tVar i σ H Q' := by
  obtain ⟨v, e, q⟩ := q
  exact ⟨v, e, h _ _ q⟩
theorem ok_add {f R C : Addr} {fd : FuncData} (F : Fun K "__add__" "Polynomial.__add__" sPAdd f fd) (T : Bn mg) (N : PMk P w K mg base R C) (DA : Df P w K mg base "added_rows" ["one", "other"] 1 (spAdded K)) (DR : Df P w K mg base "row_of" ["value"] 2 (spCoef C)) :
    FnOk P w K mg base CX0 4 f fd ["self", "other"] (spBin C addR fun _ _ => True) := by
  refine F.ok scAdd (fun vs H Q E h => ?_) (fun cdv A outer s H vs Q E hr h => ?_)
  · obtain ⟨a, b, r, q, rfl, _⟩ := h
    rfl
  · obtain ⟨a, b, r, q, rfl, ha, hb, lr, lq, _, k⟩ := h
    obtain ⟨dx, t, h1, h2⟩ := id ha
    refine ⟨_, pss_cons (ps_set (i := 2) scAdd.nd rfl (Or.inl rfl) (pe_df DA (hr.mono (by decide)) (by rfl) (pa_cons (pe_fld (pv 0) rfl) (pa_cons (pe_df DR (hr.mono (by decide)) (by rfl) (pa_cons (pv 1) pa_nil)) pa_nil))))
      (pss_one (ps_ret (pe_polyS N hr (by rfl) (pv 2) tVar_mono))), ?_⟩
    refine ⟨_, rfl, a, C, dx, _, _, rfl, h1, N.pc.cl, N.pc.nR, rfl, _, rfl, b, q, rfl, hb, fun u hu => ?_⟩
    refine ⟨t, u, r, q, rfl, .inr (.inl (.inl h2)), .inr (.inl (.inl hu)), lr, lq, fun H' p s' hp hp' => ?_⟩
    refine ⟨_, rfl, p, _, rfl, SqL.of hp', ?_, fun H2 p2 c j s2 hn hc he hcan => ?_⟩
    · rw [len_addR]; omega
    · exact k H2 p2 c j (Same.trans s' s2) (s'.free hn) hc he hcan
theorem ok_sub {f R C : Addr} {fd : FuncData} (F : Fun K "__sub__" "Polynomial.__sub__" sPSub f fd) (T : Bn mg) (N : PMk P w K mg base R C) (DA : Df P w K mg base "added_rows" ["one", "other"] 1 (spAdded K)) (DR : Df P w K mg base "row_of" ["value"] 2 (spCoef C))
    (DO : Df P w K mg base "opposite_row" ["row"] 1 (spOpp K)) : FnOk P w K mg base CX0 4 f fd ["self", "other"] (spBin C (fun r q => addR r (oppR q)) fun _ _ => True) := by
  refine F.ok scSub (fun vs H Q E h => ?_) (fun cdv A outer s H vs Q E hr h => ?_)
  · obtain ⟨a, b, r, q, rfl, _⟩ := h
    rfl
  · obtain ⟨a, b, r, q, rfl, ha, hb, lr, lq, _, k⟩ := h
    obtain ⟨dx, t, h1, h2⟩ := id ha
    refine ⟨_, pss_cons (ps_set (i := 2) scSub.nd rfl (Or.inl rfl) (pe_df DA (hr.mono (by decide)) (by rfl) (pa_cons (pe_fld (pv 0) rfl) (pa_cons (pe_df DO (hr.mono (by decide)) (by rfl) (pa_cons (pe_df DR (hr.mono (by decide)) (by rfl) (pa_cons (pv 1) pa_nil)) pa_nil)) pa_nil))))
      (pss_one (ps_ret (pe_polyS N hr (by rfl) (pv 2) tVar_mono))), ?_⟩
    refine ⟨_, rfl, a, C, dx, _, _, rfl, h1, N.pc.cl, N.pc.nR, rfl, _, rfl, b, q, rfl, hb, fun u hu => ?_⟩
    refine ⟨u, q, rfl, .inl (.inl hu), by omega, fun H0 o s0 ho ho' => ?_⟩
    refine ⟨t, o, r, oppR q, rfl, .inr (.inl (.inl (s0 _ _ h2))), .inl (SqL.of ho'), lr, by unfold oppR; rw [List.length_map]; exact lq, fun H' p s' hp hp' => ?_⟩
    refine ⟨_, rfl, p, _, rfl, SqL.of hp', ?_, fun H2 p2 c j s2 hn hc he hcan => ?_⟩
    · rw [len_addR]; unfold oppR; rw [List.length_map]; omega
    · exact k H2 p2 c j (Same.trans s0 (Same.trans s' s2)) (s0.free (s'.free hn)) hc he hcan
theorem ok_mul {f R C : Addr} {fd : FuncData} (F : Fun K "__mul__" "Polynomial.__mul__" sPMul f fd) (T : Bn mg) (N : PMk P w K mg base R C) (DM : Df P w K mg base "multiplied_rows" ["one", "other"] 1 (spMult K)) (DR : Df P w K mg base "row_of" ["value"] 2 (spCoef C)) :
    FnOk P w K mg base CX0 4 f fd ["self", "other"] (spBin C mulR preM) := by
  refine F.ok scMul (fun vs H Q E h => ?_) (fun cdv A outer s H vs Q E hr h => ?_)
  · obtain ⟨a, b, r, q, rfl, _⟩ := h
    rfl
  · obtain ⟨a, b, r, q, rfl, ha, hb, lr, lq, ⟨n, m, bn, bm, ln, lm⟩, k⟩ := h
    obtain ⟨dx, t, h1, h2⟩ := id ha
    refine ⟨_, pss_cons (ps_set (i := 2) scMul.nd rfl (Or.inl rfl) (pe_df DM (hr.mono (by decide)) (by rfl) (pa_cons (pe_fld (pv 0) rfl) (pa_cons (pe_df DR (hr.mono (by decide)) (by rfl) (pa_cons (pv 1) pa_nil)) pa_nil))))
      (pss_one (ps_ret (pe_polyS N hr (by rfl) (pv 2) tVar_mono))), ?_⟩
    refine ⟨_, rfl, a, C, dx, _, _, rfl, h1, N.pc.cl, N.pc.nR, rfl, _, rfl, b, q, rfl, hb, fun u hu => ?_⟩
    refine ⟨t, u, r, q, n, m, rfl, .inr (.inl (.inl h2)), .inr (.inl (.inl hu)), lr, lq, bn, bm, ln, lm, fun H' p s' hp hp' => ?_⟩
    refine ⟨_, rfl, p, _, rfl, SqL.of hp', ?_, fun H2 p2 c j s2 hn hc he hcan => ?_⟩
    · rw [len_mulR]; omega
    · exact k H2 p2 c j (Same.trans s' s2) (s'.free hn) hc he hcan
def spNeg (C : Addr) : Sp := fun vs H Q _ => ∃ (a : Addr) (r : List Int), vs = [.ref a] ∧ PolyAt C H a r ∧ r.length ≤ 100 ∧
  ∀ (H' : Hp) (p : Addr) (c : List Int) (k : Nat), Same H H' → H p = none → PolyAt C H' p c → oppR r = c ++ List.replicate k 0 → Canon c → Q (.ref p) H'
theorem scNeg : FnScope ["self", "found"] ["self"] (defScope sPNeg) := ⟨rfl, rfl, rfl, by decide +kernel, rfl, by decide +kernel, by decide +kernel⟩
theorem ok_neg {f R C : Addr} {fd : FuncData} (F : Fun K "__neg__" "Polynomial.__neg__" sPNeg f fd) (T : Bn mg) (N : PMk P w K mg base R C) (DO : Df P w K mg base "opposite_row" ["row"] 1 (spOpp K)) : FnOk P w K mg base CX0 4 f fd ["self"] (spNeg C) := by
  refine F.ok scNeg (fun vs H Q E h => ?_) (fun cdv A outer s H vs Q E hr h => ?_)
  · obtain ⟨a, r, rfl, _⟩ := h
    rfl
  · obtain ⟨a, r, rfl, ha, lr, k⟩ := h
    obtain ⟨dx, t, h1, h2⟩ := id ha
    refine ⟨_, pss_cons (ps_set (i := 1) scNeg.nd rfl (Or.inl rfl) (pe_df DO (hr.mono (by decide)) (by rfl) (pa_cons (pe_fld (pv 0) rfl) pa_nil)))
      (pss_one (ps_ret (pe_polyS N hr (by rfl) (pv 1) tVar_mono))), ?_⟩
    refine ⟨_, rfl, a, C, dx, _, _, rfl, h1, N.pc.cl, N.pc.nR, rfl, t, r, rfl, .inl (.inl h2), by omega, fun H' p s' hp hp' => ?_⟩
    refine ⟨_, rfl, p, _, rfl, SqL.of hp', ?_, fun H2 p2 c j s2 hn hc he hcan => ?_⟩
    · unfold oppR; rw [List.length_map]; omega
    · exact k H2 p2 c j (Same.trans s' s2) (s'.free hn) hc he hcan
/-! ### operators as rules -/
structure POp (P : Program) (w : World) (K : PySem.W.Frag) (mg : Str → Option Value) (base : Heap) (R C : Addr) : Prop where
  pl : PCl P w K mg base R C
  mul : ∃ g, PySem.W.findIn K (.ref C) "__mul__" = some (some (.ref g)) ∧ PySem.W.isFn K (.ref g) = true ∧ FnR P w K mg base CX0 4 g (spBin C mulR preM)
  add : ∃ g, PySem.W.findIn K (.ref C) "__add__" = some (some (.ref g)) ∧ PySem.W.isFn K (.ref g) = true ∧ FnR P w K mg base CX0 4 g (spBin C addR fun _ _ => True)
  sub : ∃ g, PySem.W.findIn K (.ref C) "__sub__" = some (some (.ref g)) ∧ PySem.W.isFn K (.ref g) = true ∧ FnR P w K mg base CX0 4 g (spBin C (fun r q => addR r (oppR q)) fun _ _ => True)
  neg : ∃ g, PySem.W.findIn K (.ref C) "__neg__" = some (some (.ref g)) ∧ PySem.W.isFn K (.ref g) = true ∧ FnR P w K mg base CX0 4 g (spNeg C)
def rPol (C : Addr) (g : List Int → List Int → List Int) (pre : List Int → List Int → Prop) : R2 := fun x y H Q => ∃ (a b : Addr) (r q : List Int), x = .ref a ∧ y = .ref b ∧ PolyAt C H a r ∧ PolyAt C H b q ∧ r.length ≤ 100 ∧ q.length ≤ 100 ∧ pre r q ∧
  ∀ (H' : Hp) (p : Addr) (c : List Int) (k : Nat), Same H H' → H p = none → PolyAt C H' p c → g r q = c ++ List.replicate k 0 → Canon c → Q (.ref p) H'
theorem pol_own {C : Addr} {g : List Int → List Int → List Int} {pre : List Int → List Int → Prop} {E : XK} (x y : V) (H : Hp) (Q : VK) (h : rPol C g pre x y H Q) : rOwnB C (spBin C g pre) E x y H Q := by
  obtain ⟨a, b, r, q, rfl, rfl, ha, hb, l1, l2, hp, k⟩ := h
  obtain ⟨dx, t, h1, h2⟩ := id ha
  obtain ⟨dy, u, g1, g2⟩ := id hb
  exact ⟨a, dx, _, b, dy, _, rfl, rfl, h1, g1, a, b, r, q, rfl, ha, hb, l1, l2, hp, k⟩
theorem op_pmul {X : Cx} {R C : Addr} (N : POp X.prog X.w X.K X.mg X.base R C) (hr : Room 4 X.A) : OpR X (binaryOp .Mult) (rPol C mulR preM) := by
  obtain ⟨g, h1, h2, h3⟩ := N.mul
  exact OpR.imp (op_ownB (op := .Mult) (E := E0) N.pl.pm.pc.sf h1 h2 h3 hr pass0) pol_own
theorem op_padd {X : Cx} {R C : Addr} (N : POp X.prog X.w X.K X.mg X.base R C) (hr : Room 4 X.A) : OpR X (binaryOp .Add) (rPol C addR fun _ _ => True) := by
  obtain ⟨g, h1, h2, h3⟩ := N.add
  exact OpR.imp (op_ownB (op := .Add) (E := E0) N.pl.pm.pc.sf h1 h2 h3 hr pass0) pol_own
theorem op_psub {X : Cx} {R C : Addr} (N : POp X.prog X.w X.K X.mg X.base R C) (hr : Room 4 X.A) : OpR X (binaryOp .Sub) (rPol C (fun r q => addR r (oppR q)) fun _ _ => True) := by
  obtain ⟨g, h1, h2, h3⟩ := N.sub
  exact OpR.imp (op_ownB (op := .Sub) (E := E0) N.pl.pm.pc.sf h1 h2 h3 hr pass0) pol_own
def rPneg (C : Addr) : V → Hp → VK → Prop := fun x H Q => ∃ (a : Addr) (r : List Int), x = .ref a ∧ PolyAt C H a r ∧ r.length ≤ 100 ∧
  ∀ (H' : Hp) (p : Addr) (c : List Int) (k : Nat), Same H H' → H p = none → PolyAt C H' p c → oppR r = c ++ List.replicate k 0 → Canon c → Q (.ref p) H'
theorem un_pneg {X : Cx} {R C : Addr} (N : POp X.prog X.w X.K X.mg X.base R C) (hr : Room 4 X.A) : UnR X (unaryOp .USub) (rPneg C) := by
  obtain ⟨g, h1, h2, h3⟩ := N.neg
  intro pins s σ H x v Q I rx h
  obtain ⟨a, r, rfl, ha, l, k⟩ := h
  obtain ⟨dx, t, g1, g2⟩ := id ha
  exact un_own (E := E0) h1 h2 h3 hr pass0 pins s σ H _ v Q I rx ⟨a, dx, _, rfl, g1, a, r, rfl, ha, l, k⟩
theorem tCons1_mono {i : Nat} (σ : St) (H : Hp) (Q Q' : List V → Hp → Prop) (h : ∀ y H1, Q y H1 → Q' y H1) (q : tCons (tVar i) tNil σ H Q) : tCons (tVar i) tNil σ H Q' := by
  obtain ⟨v, e, q⟩ := q
  exact ⟨v, e, h _ _ q⟩
theorem tConst2_mono {a b : V} (σ : St) (H : Hp) (Q Q' : List V → Hp → Prop) (h : ∀ y H1, Q y H1 → Q' y H1) (q : tCons (tC a) (tCons (tC b) tNil) σ H Q) : tCons (tC a) (tCons (tC b) tNil) σ H Q' := h _ _ q
/-- of g r q = c ++ zeros -/
theorem row_ev {r c : List Int} {k : Nat} (e : r = c ++ List.replicate k 0) (x : Int) : ev c x = ev r x := by rw [e, ev_append_zeros]
theorem row_bd {r c : List Int} {k n : Nat} (e : r = c ++ List.replicate k 0) (h : Bd n r) : Bd n c := by rw [e] at h; exact h.append
end
end S70

namespace S70
open PySem L2 SR RA TXM
theorem eqv_ints : ∀ r q : List Int, PyData.eqvAll (r.map .int) (q.map .int) = decide (r = q)
  | [], [] => rfl
  | [], b :: q => by simp [PyData.eqvAll]
  | a :: r, [] => by simp [PyData.eqvAll]
  | a :: r, b :: q => by
    show (a == b && PyData.eqvAll (r.map .int) (q.map .int)) = _
    rw [eqv_ints r q, Bool.eq_iff_iff]
    simp
theorem eqv_tups (r q : List Int) : PyData.eqv (dTup r) (dTup q) = decide (r = q) := eqv_ints r q
theorem eqv_rows (r q : List Int) : PyData.eqv (dRow r) (dRow q) = decide (r = q) := eqv_ints r q
def dTx (fs : List Str) : PyData := .list (fs.map .str)
theorem dp_txs {K : PySem.W.Frag} {H : Hp} : ∀ r : List Str, DpAll K H (r.map V.str) (r.map .str)
  | [] => .nil
  | a :: r => .cons (.str a) (dp_txs r)
theorem dp_tx {K : PySem.W.Frag} {H : Hp} {a : Addr} {r : List Str} (h : SqL K H a (r.map V.str)) : Dp K H (.ref a) (dTx r) := .lst h (dp_txs r)
theorem lay_txs : ∀ (r : List Str), (∀ x ∈ r, Low x) → PyData.canLayAll0 (r.map .str) = true
  | [], _ => rfl
  | a :: r, h => by
    show (PyData.strOk a && PyData.canLayAll0 (r.map .str)) = true
    rw [lay_txs r (fun x hx => h x (by simp [hx])), Bool.and_true]
    unfold PyData.strOk
    rw [Array.all_eq_true_iff_forall_mem]
    intro c hc
    have := h a (by simp) c (Array.mem_toList_iff.mpr hc)
    simp only [decide_eq_true_eq]
    omega
theorem depth_txs (r : List Str) : PyData.depthAll (r.map .str) = 0 := by
  induction r with
  | nil => rfl
  | cons a r ih => show max 0 (PyData.depthAll (r.map .str)) = 0; rw [ih]; rfl
theorem sh_tx {r : List Str} (h : ∀ x ∈ r, Low x) : SeqAt.shaped (dTx r) = true := by
  show (PyData.canLayAll0 (r.map .str) && decide (PyData.depthAll (r.map .str) + 1 ≤ 64)) = true
  rw [lay_txs r h, depth_txs]; rfl
theorem tx_nil (r : List Str) : PyData.eqv (dTx r) (dTx []) = decide (r = []) := by
  cases r with
  | nil => rfl
  | cons a r => rfl
section
variable {P : Program} {w : World} {K : PySem.W.Frag} {mg : Str → Option Value} {base : Heap}
/-! ### __eq__ -/
def spEqP (C : Addr) : Sp := fun vs H Q _ => ∃ (a : Addr) (y : V) (r : List Int), vs = [.ref a, y] ∧ PolyAt C H a r ∧ ((∃ b q, y = .ref b ∧ PolyAt C H b q ∧ Q (.bl (decide (r = q))) H) ∨ ((∃ n, y = .int n) ∧ Q (.bl false) H) ∨ ((∃ T, OddV H y T) ∧ Q (.bl false) H))
theorem scPEq : FnScope ["self", "other"] ["self", "other"] (defScope sPEq) := ⟨rfl, rfl, rfl, by decide +kernel, rfl, by decide +kernel, by decide +kernel⟩
theorem ok_peq {f R C : Addr} {fd : FuncData} (F : Fun K "__eq__" "Polynomial.__eq__" sPEq f fd) (T : Bn mg) (N : Pc K mg R C) : FnOk P w K mg base CX0 1 f fd ["self", "other"] (spEqP C) := by
  refine F.ok scPEq (fun vs H Q E h => ?_) (fun cdv A outer s H vs Q E hr h => ?_)
  · obtain ⟨a, y, r, rfl, _⟩ := h
    rfl
  · obtain ⟨a, y, r, rfl, ⟨dx, t, h1, h2⟩, h⟩ := h
    refine ⟨_, pss_one (ps_ret (pe_and (pe_callB call_isi (by rfl) T.isi (by decide +kernel) (pa_cons (pv 1) (pa_cons (pe_glob (v := .ref C) (by rfl) N.mgC rfl) pa_nil)))
      (pe_one (pe_cmpR (op_eqD hr.units) (pe_fld (pv 0) rfl) (pe_fld (pv 1) rfl) (nomark _))))), ?_⟩
    rcases h with ⟨b, q, rfl, ⟨dy, u, g1, g2⟩, k⟩ | ⟨⟨n, rfl⟩, k⟩ | ⟨⟨T, od⟩, k⟩
    · refine ⟨_, rfl, _, _, _, _, true, rfl, .own C, .base (.ins g1 N.cl N.ic N.gt N.tk N.mo), kit_self, true, rfl, iteT ?_⟩
      refine ⟨_, rfl, a, C, dx, _, _, rfl, h1, N.cl, N.nR, rfl, _, rfl, b, C, dy, _, _, rfl, g1, N.cl, N.nR, rfl, ?_⟩
      refine ⟨dTup r, dTup q, dp_tup (.inl (.inl h2)), dp_tup (.inl (.inl g2)), sh_tup _, sh_tup _, ?_⟩
      rw [eqv_tups]
      exact k
    · exact ⟨_, rfl, _, _, _, _, false, rfl, .own C, .base (.int n), N.ik, false, rfl, iteF k⟩
    · exact ⟨_, rfl, _, _, _, _, false, rfl, .own C, od.ty, (od.tyc N.oc).kit, false, rfl, iteF k⟩
/-! ### power_text, piece_text -/
theorem d1_len : (("d^" : Str)).length = 2 := rfl
theorem sp1_len : ((" " : Str)).length = 1 := rfl
def spPow : Sp := fun vs H Q _ => ∃ e : Nat, vs = [.int e] ∧ (e : Int).natAbs < 2 ^ 1900 ∧ Q (.str (powT e)) H
theorem scPow : FnScope ["exponent"] ["exponent"] (defScope sPowT) := ⟨rfl, rfl, rfl, by decide +kernel, rfl, by decide +kernel, by decide +kernel⟩
theorem ok_pow {f : Addr} {fd : FuncData} (F : Fun K "power_text" "power_text" sPowT f fd) : FnOk P w K mg base CX0 1 f fd ["exponent"] spPow := by
  refine F.ok scPow (fun vs H Q E h => ?_) (fun cdv A outer s H vs Q E hr h => ?_)
  · obtain ⟨e, rfl, _⟩ := h
    rfl
  · obtain ⟨e, rfl, he, q⟩ := h
    refine ⟨_, pss_one (ps_ret (pe_ifExp (pt_cmpR op_eq (pv 0) pe_int (nomark _)) pe_str (pe_joined (PJ.cons pe_str (PJ.cons (pe_fmt (pv 0)) PJ.nil))))), ?_⟩
    refine ⟨_, rfl, rfl, _, rfl, ?_⟩
    unfold powT at q
    have sl : sizeLine = 16777216 := sizeLine_eq
    by_cases h1 : e = 1
    · rw [if_pos h1] at q
      rw [decide_eq_true (congrArg V.int (by omega))]
      exact iteT q
    · rw [if_neg h1] at q
      rw [decide_eq_false (fun z => h1 (by have := V.int.inj z; omega))]
      refine iteF ?_
      have l1 := len_tx he
      refine ⟨_, rfl, ?_, _, rfl, .inr ⟨_, rfl, log_ok he, _, rfl, ?_, ?_⟩⟩
      · rw [strLen_append, e_len, d1_len, sl]; decide
      · show (Str.empty ++ ("d^" : Str) ++ tx e).length ≤ _
        rw [strLen_append, strLen_append, e_len, d1_len]; omega
      · show Q (.str (Str.empty ++ ("d^" : Str) ++ tx e)) H
        rw [Str.empty_append]
        exact q
def spPiece : Sp := fun vs H Q _ => ∃ (c : Int) (e : Nat), vs = [.int c.natAbs, .int e] ∧ (e : Int).natAbs < 2 ^ 1900 ∧ ((c.natAbs : Nat) : Int).natAbs < 2 ^ 1900 ∧ Q (.str (pieceT c e)) H
theorem scPiece : FnScope ["size", "exponent"] ["size", "exponent"] (defScope sPieceT) := ⟨rfl, rfl, rfl, by decide +kernel, rfl, by decide +kernel, by decide +kernel⟩
theorem ok_piece {f : Addr} {fd : FuncData} (F : Fun K "piece_text" "piece_text" sPieceT f fd) (T : Bn mg) (DP : Df P w K mg base "power_text" ["exponent"] 1 spPow) : FnOk P w K mg base CX0 2 f fd ["size", "exponent"] spPiece := by
  refine F.ok scPiece (fun vs H Q E h => ?_) (fun cdv A outer s H vs Q E hr h => ?_)
  · obtain ⟨c, e, rfl, _⟩ := h
    rfl
  · obtain ⟨c, e, rfl, he, hc, q⟩ := h
    refine ⟨_, pss_cons (ps_if (pt_cmpR op_eq (pv 1) pe_int (nomark _)) (pss_one (ps_ret (pe_callTy call_str_int (by rfl) T.str (by decide +kernel) (pa_cons (pv 0) pa_nil)))) pss_nil)
      (pss_one (ps_ret (pe_ifExp (pt_cmpR op_eq (pv 0) pe_int (nomark _)) (pe_df DP hr (by rfl) (pa_cons (pv 1) pa_nil)) (pe_joined (PJ.cons (pe_fmt (pv 0)) (PJ.cons pe_str (PJ.cons (pe_fmt (pe_df DP hr (by rfl) (pa_cons (pv 1) pa_nil))) PJ.nil))))))), ?_⟩
    have sl : sizeLine = 16777216 := sizeLine_eq
    refine ⟨_, rfl, rfl, _, rfl, ?_⟩
    unfold pieceT at q
    by_cases h0 : e = 0
    · rw [if_pos h0] at q
      rw [decide_eq_true (congrArg V.int (by omega))]
      refine iteT ?_
      exact ⟨_, rfl, _, rfl, log_ok hc, q⟩
    · rw [if_neg h0] at q
      rw [decide_eq_false (fun z => h0 (by have := V.int.inj z; omega))]
      refine iteF ?_
      refine ⟨_, rfl, rfl, _, rfl, ?_⟩
      by_cases h1 : c.natAbs = 1
      · rw [if_pos h1] at q
        rw [decide_eq_true (congrArg V.int (by omega))]
        refine iteT ?_
        exact ⟨_, rfl, e, rfl, he, q⟩
      · rw [if_neg h1] at q
        rw [decide_eq_false (fun z => h1 (by have := V.int.inj z; omega))]
        refine iteF ?_
        have l1 := len_tx he
        have l2 := len_tx hc
        have l3 := pow_len l1
        refine ⟨_, rfl, .inr ⟨_, rfl, log_ok hc, _, rfl, ?_, _, rfl, ?_, _, rfl, e, rfl, he, .inl ⟨_, rfl, by omega, _, rfl, ?_, ?_⟩⟩⟩
        · show (Str.empty ++ tx c.natAbs).length ≤ _
          rw [strLen_append, e_len]; omega
        · show (Str.empty ++ tx c.natAbs ++ (" " : Str)).length ≤ _
          rw [strLen_append, strLen_append, e_len, sp1_len]; omega
        · show (Str.empty ++ tx c.natAbs ++ (" " : Str) ++ powT e).length ≤ _
          rw [strLen_append, strLen_append, strLen_append, e_len, sp1_len]; omega
        · show Q (.str (Str.empty ++ tx c.natAbs ++ (" " : Str) ++ powT e)) H
          rw [Str.empty_append]
          exact q
end
end S70

namespace S70
open PySem L2 SR RA TXM
/-! ### the terms from the highest on -/
def topT (r : List Int) (i : Nat) : List (Int × Nat) := (r.zipIdx.reverse.take i).filter fun p => decide (p.1 ≠ 0)
theorem zr_get {r : List Int} {i : Nat} {c : Int} (hi : i < r.length) (h : r[r.length - 1 - i]? = some c) : r.zipIdx.reverse[i]? = some (c, r.length - 1 - i) := by
  rw [List.getElem?_reverse (by rw [List.length_zipIdx]; exact hi), List.length_zipIdx, List.getElem?_zipIdx, h]
  simp
theorem topT_succ {r : List Int} {i : Nat} {c : Int} (hi : i < r.length) (h : r[r.length - 1 - i]? = some c) : topT r (i + 1) = topT r i ++ if c ≠ 0 then [(c, r.length - 1 - i)] else [] := by
  unfold topT
  rw [List.take_add_one, zr_get hi h, Option.toList_some, List.filter_append]
  congr 1
  by_cases hc : c = 0
  · rw [if_neg (by simp [hc])]; simp [hc]
  · rw [if_pos hc]; simp [hc]
theorem topT_all {r : List Int} {i : Nat} (h : r.length ≤ i) : topT r i = (terms r).reverse := by
  unfold topT terms
  rw [List.take_of_length_le (by rw [List.length_reverse, List.length_zipIdx]; exact h), List.filter_reverse]
theorem terms_bd {n : Nat} {r : List Int} (hb : Bd n r) (hl : r.length ≤ 2 ^ n) : ∀ p ∈ terms r, p.1.natAbs < 2 ^ n ∧ p.2 < 2 ^ n := fun p hp => by
  obtain ⟨hp, _⟩ := List.mem_filter.mp hp
  obtain ⟨c, e⟩ := p
  rw [List.mem_zipIdx_iff_getElem?] at hp
  have h1 := List.mem_of_getElem? hp
  have h2 := (List.getElem?_eq_some_iff.mp hp).1
  exact ⟨hb _ h1, Nat.lt_of_lt_of_le h2 hl⟩
theorem nat_abs (n : Nat) : ((n : Nat) : Int).natAbs = n := Int.natAbs_natCast n
theorem big1900 {n : Nat} (h : n ≤ 1000) : n < 2 ^ 1900 := Nat.lt_of_lt_of_le (Nat.lt_of_le_of_lt h (Nat.lt_two_pow_self (n := 1000))) (Nat.pow_le_pow_right (by decide) (by decide))
theorem zero_cps : Low ("0" : Str) := by unfold Low; decide +kernel
/-- what text_pieces keeps -/
structure PcsAt (r : List Int) (i : Nat) (fs : List Str) : Prop where
  txt : Txt.join Str.empty fs = goT Str.empty (topT r i)
  nil : fs = [] ↔ topT r i = []
  low : ∀ x ∈ fs, Low x
  len : (fs.map (·.length)).sum ≤ 5000 * i
  num : fs.length ≤ i
theorem PcsAt.start (r : List Int) : PcsAt r 0 [] := by
  exact ⟨by simp [topT]; rfl, by simp [topT], fun x hx => (by cases hx), Nat.le_refl _, Nat.le_refl _⟩
theorem PcsAt.skip {r : List Int} {i : Nat} {fs : List Str} (h : PcsAt r i fs) (hi : i < r.length) (e : r[r.length - 1 - i]? = some 0) : PcsAt r (i + 1) fs := by
  have hs := topT_succ hi e
  rw [if_neg (by simp), List.append_nil] at hs
  exact ⟨by rw [hs]; exact h.txt, by rw [hs]; exact h.nil, h.low, Nat.le_trans h.len (by omega), by have := h.num; omega⟩
theorem PcsAt.put {r : List Int} {i : Nat} {fs : List Str} {c : Int} (h : PcsAt r i fs) (hi : i < r.length) (e : r[r.length - 1 - i]? = some c) (hc : c ≠ 0) (l1 : (tx (r.length - 1 - i : Nat)).length ≤ 2000) (l2 : (tx c.natAbs).length ≤ 2000) :
    PcsAt r (i + 1) (fs ++ [frontT (decide (fs = [])) c ++ pieceT c (r.length - 1 - i)]) := by
  have hs := topT_succ hi e
  rw [if_pos hc] at hs
  refine ⟨?_, ?_, fun x hx => ?_, ?_, ?_⟩
  · rw [join_snoc, hs, goT_snoc, h.txt, app_assoc]
    have e1 : decide (goT Str.empty (topT r i) = Str.empty) = decide (fs = []) := by
      rw [decide_eq_decide, goT_empty]
      exact h.nil.symm
    rw [e1]
  · rw [hs]; simp
  · rcases List.mem_append.mp hx with hx | hx
    · exact h.low x hx
    · rw [List.mem_singleton.mp hx]
      exact (low_front _ _).app (low_piece _ _)
  · have h1 := h.len
    have h2 := front_len (decide (fs = [])) c
    have h3 := piece_len (c := c) l1 l2
    rw [List.map_append, List.sum_append]
    simp only [List.map_cons, List.map_nil, List.sum_cons, List.sum_nil]
    rw [strLen_append]
    omega
  · rw [List.length_append]
    have := h.num
    simp only [List.length_cons, List.length_nil]
    omega
theorem if_neg_str {i : Nat} {σ : St} {H : Hp} {Q : VK} {c : Int} {a b : Str} (h3 : σ[i]? = some (some (.int c))) (q : Q (.str (if c < 0 then a else b)) H) :
    tIf (tTest (tOp (rI0 fun i j => V.bl (decide (i < j))) (tVar i) (tC (V.int 0)))) (tC (V.str a)) (tC (V.str b)) σ H Q := by
  refine ⟨_, h3, _, _, rfl, rfl, _, rfl, ?_⟩
  by_cases hc : c < 0
  · rw [decide_eq_true hc]
    rw [if_pos hc] at q
    exact iteT q
  · rw [decide_eq_false hc]
    rw [if_neg hc] at q
    exact iteF q
theorem front_true (c : Int) : frontT true c = if c < 0 then ("-" : Str) else ("" : Str) := rfl
theorem front_false (c : Int) : frontT false c = if c < 0 then (" - " : Str) else (" + " : Str) := rfl
section
variable {P : Program} {w : World} {K : PySem.W.Frag} {mg : Str → Option Value} {base : Heap}
/-! ### text_pieces -/
def spPieces (K : PySem.W.Frag) : Sp := fun vs H Q _ => ∃ (a : Addr) (r : List Int), vs = [.ref a] ∧ SqT K H a (r.map V.int) ∧ Bd 1900 r ∧ r.length ≤ 100 ∧
  ∀ (H' : Hp) (p : Addr) (fs : List Str), Same H H' → H' p = some (.lst (fs.map V.str)) → Txt.join Str.empty fs = textT r → (fs.map (·.length)).sum ≤ 1000000 → fs.length ≤ 1000 → Q (.ref p) H'
abbrev nPieces : List Str := ["row", "found", "exponent", "one", "front"]
theorem scPieces : FnScope nPieces ["row"] (defScope sPieces) := ⟨rfl, rfl, rfl, by decide +kernel, rfl, by decide +kernel, by decide +kernel⟩
theorem ok_pieces {f : Addr} {fd : FuncData} (F : Fun K "text_pieces" "text_pieces" sPieces f fd) (T : Bn mg) (DP : Df P w K mg base "piece_text" ["size", "exponent"] 2 spPiece) : FnOk P w K mg base CX0 3 f fd ["row"] (spPieces K) := by
  refine F.ok scPieces (fun vs H Q E h => ?_) (fun cdv A outer s H vs Q E hr h => ?_)
  · obtain ⟨a, r, rfl, _⟩ := h
    rfl
  · obtain ⟨a, r, rfl, ha, hb, hl, q⟩ := h
    have sl : sizeLine = 16777216 := sizeLine_eq
    refine ⟨_, pss_cons (ps_set (i := 1) scPieces.nd rfl (Or.inl rfl) (pe_lst pa_nil))
      (pss_cons (ps_for PassesOwn.never rfl (pi_range3 (by rfl) T.range (pa_cons (pe_op op_sub (pe_callB call_len_seq (by rfl) T.len PySem.boot_len (pa_cons (pv 0) pa_nil)) pe_int) (pa_cons (pe_un un_neg pe_int) (pa_cons (pe_un un_neg pe_int) pa_nil)))) (pg_name (i := 2) scPieces.nd rfl (Or.inl rfl))
        (pss_cons (ps_set (i := 3) scPieces.nd rfl (Or.inl rfl) (pe_ix ix_tup (pv 0) (pv 2) (fun _ _ => rfl)))
        (pss_one (ps_if (pt_cmpR op_ne (pv 3) pe_int (nomark _))
          (pss_cons (ps_set (i := 4) scPieces.nd rfl (Or.inl rfl) (pe_ifExp (pt_cmpR op_lt (pv 3) pe_int (nomark _)) pe_str pe_str))
          (pss_cons (ps_if (pt_cmpR (op_neD hr.units) (pv 1) (pe_lst pa_nil) (nomark _)) (pss_one (ps_set (i := 4) scPieces.nd rfl (Or.inl rfl) (pe_ifExp (pt_cmpR op_lt (pv 3) pe_int (nomark _)) pe_str pe_str))) pss_nil)
          (pss_one (ps_expr (pe_bm PySem.F.plainAttrs_list PySem.F.slot_list_append PySem.F.type_list_append mt_append (pv 1) (pa_cons (pe_joined (PJ.cons (pe_fmt (pv 4)) (PJ.cons (pe_fmt (pe_df DP hr (by rfl) (pa_cons (pe_callB call_abs (by rfl) T.abs (by decide +kernel) (pa_cons (pv 3) pa_nil)) (pa_cons (pv 2) pa_nil)))) PJ.nil))) pa_nil))))))
          pss_nil))))
      (pss_one (ps_ret (pe_ifExp (pt_cmpR (op_neD hr.units) (pv 1) (pe_lst pa_nil) (nomark _)) (pv 1) (pe_lst (pa_cons pe_str pa_nil)))))), ?_⟩
    refine ⟨Nat.zero_le _, fun l hl0 => ?_⟩
    have s0 := sNew (o := .lst []) (Same.refl H) hl0
    refine ⟨_, rfl, a, _, rfl, .inr (sTup s0 ha), _, _, rfl, rfl, _, rfl, _, rfl, _, _, _, _, rfl, RgC.neg ?_ ?_ (by decide) (by decide), ?_⟩
    · rw [List.length_map]; omega
    · rw [List.length_map]; omega
    have en : (((r.map V.int).length : Nat) - 1 - -1 : Int).toNat = r.length := by rw [List.length_map]; omega
    rw [en]
    refine for_it (walk_rangeC (lo := ((r.map V.int).length : Nat) - 1) (c := -1) (n := r.length)) (fun i σ H' => Same H H' ∧ ∃ fs u v x, PcsAt r i fs ∧ H' l = some (.lst (fs.map V.str)) ∧ σ = [some (.ref a), some (.ref l), u, v, x]) ⟨s0, [], none, none, none, PcsAt.start r, upd_same, rfl⟩ (fun _ _ _ _ _ => trivial) ?_ ?_
    · rintro i y σ _ H1 hi ⟨s1, fs, u, v, x, pc, hl1, rfl⟩ ⟨rfl, rfl⟩
      have ei : ((((r.map V.int).length : Nat) : Int) - 1 + (i : Nat) * -1) = ((r.length - 1 - i : Nat) : Int) := by rw [List.length_map]; omega
      obtain ⟨c, hc⟩ : ∃ c, r[r.length - 1 - i]? = some c := ⟨_, List.getElem?_eq_getElem (by omega)⟩
      show gName 2 (V.int ((((r.map V.int).length : Nat) : Int) - 1 + (i : Nat) * -1)) _ _ _
      rw [ei]
      refine ⟨_, rfl, _, rfl, a, _, _, V.int c, rfl, rfl, sTup s1 ha, at_of (j := r.length - 1 - i) rfl (by rw [List.getElem?_map, hc]; rfl), ?_⟩
      refine ⟨_, rfl, rfl, _, rfl, ?_⟩
      by_cases h0 : c = 0
      · subst h0
        rw [decide_eq_true rfl]
        refine iteF ?_
        exact ⟨s1, fs, _, _, _, pc.skip hi hc, hl1, rfl⟩
      · rw [decide_eq_false (fun z => h0 (V.int.inj z))]
        refine iteT ?_
        have bc : c.natAbs < 2 ^ 1900 := hb _ (List.mem_of_getElem? hc)
        have bc2 : ((c.natAbs : Nat) : Int).natAbs < 2 ^ 1900 := by rw [nat_abs]; exact bc
        have be : ((r.length - 1 - i : Nat) : Int).natAbs < 2 ^ 1900 := by rw [nat_abs]; exact big1900 (by omega)
        have l1 := len_tx be
        have lx := len_tx bc2
        have lp := piece_len (c := c) l1 lx
        have be' : ((r.length - 1 - i : Nat) : Int).natAbs < 2 ^ 1900 := be
        have lf := front_len (decide (fs = [])) c
        refine if_neg_str rfl ?_
        refine ⟨_, rfl, Nat.zero_le _, fun l2 hl2 => ?_⟩
        have s2 := sNew (o := .lst []) (Same.refl H1) hl2
        have hlx := s2 _ _ hl1
        refine ⟨dTx fs, dTx [], dp_tx (SqL.of hlx), dp_tx (r := []) (SqL.of upd_same), sh_tx pc.low, sh_tx (fun x hx => by cases hx), _, rfl, ?_⟩
        rw [tx_nil]
        have ab := abs_nat c
        have nx := pc.put hi hc h0 l1 lx
        generalize upd H1 l2 (.lst []) = H2 at s2 hlx ⊢
        have sx : Same H (upd H2 l (.lst (fs.map V.str ++ [V.str (frontT (decide (fs = [])) c ++ pieceT c (r.length - 1 - i))]))) := sPut (Same.trans s1 s2) hl0
        have ls : (fs.map V.str ++ [V.str (frontT (decide (fs = [])) c ++ pieceT c (r.length - 1 - i))]) = (fs ++ [frontT (decide (fs = [])) c ++ pieceT c (r.length - 1 - i)]).map V.str := by simp
        have num : (fs.map V.str).length < sizeLine := by
          rw [List.length_map]
          have := pc.num
          omega
        by_cases hf : fs = []
        · rw [decide_eq_true hf]
          refine iteF ?_
          have ef : (if c < 0 then ("-" : Str) else ("" : Str)) = frontT (decide (fs = [])) c := by rw [decide_eq_true hf]; rfl
          refine ⟨_, rfl, .inl ⟨rfl, _, SqL.of hlx⟩, _, rfl, .inl ⟨_, rfl, ?_, _, rfl, ?_, _, rfl, _, rfl, _, rfl, c, r.length - 1 - i, ?_, be, bc2, .inl ⟨_, rfl, ?_, _, rfl, ?_, ?_⟩⟩⟩
          · rw [ef]; omega
          · rw [ef, strLen_append, e_len]; omega
          · rw [ab]; rfl
          · omega
          · rw [ef, strLen_append, strLen_append, e_len]; omega
          · refine ⟨l, _, _, rfl, rfl, hlx, num, ?_⟩
            rw [ef, Str.empty_append]
            exact ⟨sx, _, _, _, _, nx, by rw [upd_same, ls], rfl⟩
        · rw [decide_eq_false hf]
          refine iteT ?_
          refine if_neg_str rfl ?_
          have ef : (if c < 0 then (" - " : Str) else (" + " : Str)) = frontT (decide (fs = [])) c := by rw [decide_eq_false hf]; rfl
          refine ⟨_, rfl, .inl ⟨rfl, _, SqL.of hlx⟩, _, rfl, .inl ⟨_, rfl, ?_, _, rfl, ?_, _, rfl, _, rfl, _, rfl, c, r.length - 1 - i, ?_, be, bc2, .inl ⟨_, rfl, ?_, _, rfl, ?_, ?_⟩⟩⟩
          · rw [ef]; omega
          · rw [ef, strLen_append, e_len]; omega
          · rw [ab]; rfl
          · omega
          · rw [ef, strLen_append, strLen_append, e_len]; omega
          · refine ⟨l, _, _, rfl, rfl, hlx, num, ?_⟩
            rw [ef, Str.empty_append]
            exact ⟨sx, _, _, _, _, nx, by rw [upd_same, ls], rfl⟩
    · rintro σ H1 ⟨s1, fs, u, v, x, pc, hl1, rfl⟩
      refine ⟨_, rfl, Nat.zero_le _, fun l2 hl2 => ?_⟩
      have s2 := sNew (o := .lst []) (Same.refl H1) hl2
      refine ⟨dTx fs, dTx [], dp_tx (SqL.of (old hl1 hl2)), dp_tx (r := []) (SqL.of upd_same), sh_tx pc.low, sh_tx (fun x hx => by cases hx), _, rfl, ?_⟩
      rw [tx_nil]
      have ea := topT_all (r := r) (Nat.le_refl _)
      have e1 := pc.nil
      have e2 := pc.txt
      rw [ea] at e1 e2
      have hlen := pc.len
      have hnum := pc.num
      by_cases hf : fs = []
      · rw [decide_eq_true hf]
        refine iteF ?_
        refine ⟨(by show 1 ≤ sizeLine; decide), fun l3 hl3 => ?_⟩
        have s3 := sNew (o := .lst [V.str "0"]) (Same.trans s1 s2) hl3
        refine q _ l3 [("0" : Str)] s3 upd_same ?_ (by decide +kernel) (by decide)
        unfold textT
        rw [if_pos (List.reverse_eq_nil_iff.mp (e1.mp hf))]
        rfl
      · rw [decide_eq_false hf]
        refine iteT ?_
        refine ⟨_, rfl, q _ l fs (Same.trans s1 s2) (old hl1 hl2) ?_ (by omega) (by omega)⟩
        unfold textT
        rw [if_neg (fun z => hf (e1.mpr (by rw [z]; rfl)))]
        exact e2
end
end S70

namespace S70
open PySem L2 SR RA TXM
def shownP (r : List Int) : Str := ("Polynomial(" : Str) ++ Txt.join (", " : Str) (r.map tx) ++ (")" : Str)
theorem low_fold (sep : Str) (hs : Low sep) : ∀ (l : List Str) (acc : Array Nat), Low ⟨acc⟩ → (∀ x ∈ l, Low x) → Low ⟨l.foldl (fun acc p => acc ++ sep.cps ++ p.cps) acc⟩
  | [], acc, h, _ => h
  | a :: l, acc, h, hl => by
    rw [List.foldl_cons]
    refine low_fold sep hs l _ ?_ fun x hx => hl x (by simp [hx])
    exact ((h.app hs).app (hl a (by simp)))
theorem low_join {sep : Str} (hs : Low sep) {l : List Str} (hl : ∀ x ∈ l, Low x) : Low (Txt.join sep l) := by
  cases l with
  | nil => exact low_empty
  | cons a l => exact low_fold sep hs l a.cps (hl a (by simp)) fun x hx => hl x (by simp [hx])
theorem sum_tx {r : List Int} (h : Bd 1900 r) : ((r.map tx).map (·.length)).sum ≤ 2000 * r.length := by
  induction r with
  | nil => exact Nat.le_refl _
  | cons a r ih =>
    have h1 := len_tx (h a (by simp))
    have h2 := ih fun b hb => h b (by simp [hb])
    simp only [List.map_cons, List.sum_cons, List.length_cons]
    omega
theorem pn_len : (("Polynomial(" : Str)).length = 11 := rfl
theorem join_len {r : List Int} (h : Bd 1900 r) : (Txt.join (", " : Str) (r.map tx)).length ≤ 2002 * r.length := by
  show (PySem.Builtin.Str.glued (", " : Str) (r.map tx)).length ≤ _
  rw [size_glued]
  have h1 := sum_tx h
  have h2 : (r.map tx).length - 1 ≤ r.length := by rw [List.length_map]; omega
  have h3 : ((r.map tx).length - 1) * ((", " : Str)).length ≤ r.length * 2 := Nat.mul_le_mul h2 (Nat.le_refl _)
  omega
theorem low_shown {r : List Int} : Low (shownP r) := by
  unfold shownP
  refine (Low.app ?_ (low_join ?_ ?_)).app ?_
  · unfold Low; decide +kernel
  · unfold Low; decide +kernel
  · intro x hx
    obtain ⟨a, _, rfl⟩ := List.mem_map.mp hx
    exact (ink_tx a).low
  · unfold Low; decide +kernel
theorem shown_len {r : List Int} (h : Bd 1900 r) : (shownP r).length ≤ 12 + 2002 * r.length := by
  unfold shownP
  rw [strLen_append, strLen_append, pn_len, p_len]
  have := join_len h
  omega
theorem text_len {r : List Int} (h : Bd 1900 r) (hl : r.length ≤ 100) : (textT r).length ≤ 1 + 4006 * r.length := by
  unfold textT
  split
  · exact Nat.le_trans (m := 1) (by decide +kernel) (by omega)
  · have h1 := goT_len (terms r).reverse Str.empty fun p hp => by
      have hb := terms_bd h (Nat.le_of_lt (big1900 (by omega))) p (List.mem_reverse.mp hp)
      exact ⟨len_tx (by rw [nat_abs]; exact hb.2), len_tx (by rw [nat_abs]; exact hb.1)⟩
    have h2 : (terms r).reverse.length ≤ r.length := by
      rw [List.length_reverse]
      unfold terms
      exact Nat.le_trans (List.length_filter_le ..) (by rw [List.length_zipIdx]; exact Nat.le_refl _)
    rw [e_len] at h1
    have h3 : 4006 * (terms r).reverse.length ≤ 4006 * r.length := Nat.mul_le_mul (Nat.le_refl _) h2
    omega
section
variable {P : Program} {w : World} {K : PySem.W.Frag} {mg : Str → Option Value} {base : Heap}
/-! ### __str__, __repr__ -/
def spPTxt (C : Addr) (f : List Int → Str) : Sp := fun vs H Q _ => ∃ (a : Addr) (r : List Int), vs = [.ref a] ∧ PolyAt C H a r ∧ Bd 1900 r ∧ r.length ≤ 100 ∧ ∀ H', Same H H' → Q (.str (f r)) H'
theorem scPStr : FnScope ["self"] ["self"] (defScope sPStr) := ⟨rfl, rfl, rfl, by decide +kernel, rfl, by decide +kernel, by decide +kernel⟩
theorem ok_pstr {f R C : Addr} {fd : FuncData} (F : Fun K "__str__" "Polynomial.__str__" sPStr f fd) (N : Pc K mg R C) (DP : Df P w K mg base "text_pieces" ["row"] 3 (spPieces K)) : FnOk P w K mg base CX0 4 f fd ["self"] (spPTxt C textT) := by
  refine F.ok scPStr (fun vs H Q E h => ?_) (fun cdv A outer s H vs Q E hr h => ?_)
  · obtain ⟨a, r, rfl, _⟩ := h
    rfl
  · obtain ⟨a, r, rfl, ⟨dx, t, h1, h2⟩, hb, hl, q⟩ := h
    refine ⟨_, pss_one (ps_ret (pe_join pe_str (pe_df DP hr (by rfl) (pa_cons (pe_fld (pv 0) rfl) pa_nil)))), ?_⟩
    refine ⟨⟨_, rfl⟩, _, rfl, a, C, dx, _, _, rfl, h1, N.cl, N.nR, rfl, t, r, rfl, .inl (.inl h2), hb, hl, fun H' p fs s' hp e hsum hn => ?_⟩
    refine ⟨_, p, fs, rfl, rfl, .inl (SqL.of hp), ?_, ?_⟩
    · have : ((("" : String) : Str)).length = 0 := rfl
      rw [this]; omega
    · have e2 : Txt.join (("" : String) : Str) fs = textT r := e
      rw [e2]
      exact q H' s'
abbrev nPRepr : List Str := ["self", "inner", "one"]
theorem scPRepr : FnScope nPRepr ["self"] (defScope sPRepr) := ⟨rfl, rfl, rfl, by decide +kernel, rfl, by decide +kernel, by decide +kernel⟩
theorem ok_prepr {f R C : Addr} {fd : FuncData} (F : Fun K "__repr__" "Polynomial.__repr__" sPRepr f fd) (T : Bn mg) (N : Pc K mg R C) : FnOk P w K mg base CX0 4 f fd ["self"] (spPTxt C shownP) := by
  refine F.ok scPRepr (fun vs H Q E h => ?_) (fun cdv A outer s H vs Q E hr h => ?_)
  · obtain ⟨a, r, rfl, _⟩ := h
    rfl
  · obtain ⟨a, r, rfl, ⟨dx, t, h1, h2⟩, hb, hl, q⟩ := h
    have sl : sizeLine = 16777216 := sizeLine_eq
    refine ⟨_, pss_cons (ps_set (i := 1) scPRepr.nd rfl (Or.inl rfl) (pe_join pe_str (pe_lc (own := [("one", 2)]) (g := gName 2) (tt := tYes) (by rfl) scPRepr.nd (pi_tup (pe_fld (pv 0) rfl)) (blkOk_by (own := [("one", 2)]) (N := nPRepr) (sc := defScope sPRepr) (by decide +kernel))
        (fun _ _ _ _ _ => pg_name (i := 2) scPRepr.nd rfl (Or.inl rfl)) (fun _ _ _ _ _ => pts_nil) (fun _ _ _ _ _ => pe_callTy call_str_int (by rfl) T.str (by decide +kernel) (pa_cons (pv 2) pa_nil)))))
      (pss_one (ps_ret (pe_joined (PJ.cons pe_str (PJ.cons (pe_fmt (pv 1)) (PJ.cons pe_str PJ.nil)))))), ?_⟩
    refine ⟨⟨_, rfl⟩, _, rfl, a, C, dx, _, _, rfl, h1, N.cl, N.nR, rfl, t, rfl, ⟨_, .inl (.inl h2)⟩, fun D hD => ?_⟩
    refine lc_it (walk_tup (K := K) (a := t) (xs := r.map V.int)) (fun i H' => Same H H' ∧ H' D = some (.lst (((r.map tx).take i).map V.str))) ⟨sNew (Same.refl H) hD, upd_same⟩ (fun i H' _ h => .inl (.inl (h.1 _ _ h2))) ?_ ?_
    · rintro i x H' _ hi ⟨s1, g1⟩ ⟨rfl, hx⟩
      obtain ⟨z, hz, rfl⟩ := map_get hx
      refine ⟨rfl, _, rfl, _, rfl, log_ok (hb z (List.mem_of_getElem? hz)), _, g1, ?_, sPut s1 hD, ?_⟩
      · have : i < r.length := by simpa using hi
        simp only [List.length_map, List.length_take]
        exact lt_line (by omega)
      · rw [upd_same]
        congr 2
        exact take_succ_map (f := V.str) (a := tx z) (by rw [List.getElem?_map, hz]; rfl)
    · rintro H' ⟨s1, g1⟩
      rw [List.take_of_length_le (by simp)] at g1
      have hs := sum_tx hb
      refine ⟨_, D, r.map tx, rfl, rfl, .inl (SqL.of g1), ?_, ?_⟩
      · have : (((", " : String) : Str)).length = 2 := rfl
        rw [this, List.length_map]; omega
      have hj := join_len hb
      refine ⟨_, rfl, ?_, _, rfl, .inl ⟨_, rfl, by omega, _, rfl, ?_, _, rfl, ?_, ?_⟩⟩
      · rw [strLen_append, e_len, pn_len, sl]; decide
      · rw [strLen_append, strLen_append, e_len, pn_len]; omega
      · rw [strLen_append, strLen_append, strLen_append, e_len, pn_len, p_len]; omega
      · rw [Str.empty_append]
        exact q H' s1
end
end S70

namespace S70
open PySem L2 SR RA TXM
/-! ### values that are no polynomials, and how they are shown -/
inductive OddT (R : Addr) (H : Hp) : V → Str → Prop where
  | non : OddT R H .non "None"
  | bl (b : Bool) : OddT R H (.bl b) (if b then "True" else "False")
  | str {x : Str} (h : x = ("1" : Str) ∨ x = ("" : Str) ∨ x = ("d" : Str)) : OddT R H (.str x) (reprText x)
  | int {i : Int} (h : i.natAbs < 2 ^ 1900) : OddT R H (.int i) (tx i)
  | rat {a : Addr} {p : Int × Int} (r : RatAt R H a p) (bp : Bt 1900 p) : OddT R H (.ref a) (reprT p)
  | nil {a : Addr} (e : H a = some (.lst [])) : OddT R H (.ref a) "[]"
  | one {a : Addr} (e : H a = some (.lst [.int 1])) : OddT R H (.ref a) (listText [tx 1])
  | tup1 {a : Addr} (e : H a = some (.tup [.int 1])) : OddT R H (.ref a) (tupleText [tx 1])
  | tup2 {a : Addr} (e : H a = some (.tup [.int 1, .int 2])) : OddT R H (.ref a) (tupleText [tx 1, tx 2])
  | d0 {a : Addr} (e : H a = some (.dK [])) : OddT R H (.ref a) (dictText [])
/-- none of the integers -/
def OddN (R : Addr) (H : Hp) (v : V) : Prop := (∃ T, OddV H v T) ∨ ∃ a dx fs, v = .ref a ∧ H a = some (.ins R dx fs)
theorem OddT.kind {R : Addr} {H : Hp} {v : V} {t : Str} (h : OddT R H v t) : (∃ i, v = .int i) ∨ OddN R H v := by
  cases h with
  | non => exact .inr (.inl ⟨_, .non⟩)
  | bl b => exact .inr (.inl ⟨_, .bl b⟩)
  | str h => exact .inr (.inl ⟨_, .str _⟩)
  | int h => exact .inl ⟨_, rfl⟩
  | rat r bp => obtain ⟨dx, e⟩ := r; exact .inr (.inr ⟨_, dx, _, rfl, e⟩)
  | nil e => exact .inr (.inl ⟨_, .lst e⟩)
  | one e => exact .inr (.inl ⟨_, .lst e⟩)
  | tup1 e => exact .inr (.inl ⟨_, .tup e⟩)
  | tup2 e => exact .inr (.inl ⟨_, .tup e⟩)
  | d0 e => exact .inr (.inl ⟨_, .dK e⟩)
theorem OddN.same {R : Addr} {H H' : Hp} {v : V} (s : Same H H') (h : OddN R H v) : OddN R H' v := h.imp (fun ⟨T, o⟩ => ⟨T, o.same s⟩) fun ⟨a, dx, fs, e, h⟩ => ⟨a, dx, fs, e, s _ _ h⟩
theorem OddT.same {R : Addr} {H H' : Hp} {v : V} {t : Str} (s : Same H H') (h : OddT R H v t) : OddT R H' v t := by
  cases h with
  | non => exact .non
  | bl b => exact .bl b
  | str h => exact .str h
  | int h => exact .int h
  | rat r bp => exact .rat (r.same s) bp
  | nil e => exact .nil (s _ _ e)
  | one e => exact .one (s _ _ e)
  | tup1 e => exact .tup1 (s _ _ e)
  | tup2 e => exact .tup2 (s _ _ e)
  | d0 e => exact .d0 (s _ _ e)
theorem OddT.len {R : Addr} {H : Hp} {v : V} {t : Str} (h : OddT R H v t) : t.length ≤ 6000 := by
  cases h with
  | non => decide
  | bl b => cases b <;> decide
  | str h => rcases h with rfl | rfl | rfl <;> decide +kernel
  | int h => have := len_tx h; omega
  | rat r bp => have := len_reprT bp; omega
  | nil e => decide +kernel
  | one e => decide +kernel
  | tup1 e => decide +kernel
  | tup2 e => decide +kernel
  | d0 e => decide +kernel
def isAt (v : V) (c : Addr) : Prop := v = .ref c
/-- Ratio, as far as it is needed -/
structure RRp (P : Program) (w : World) (K : PySem.W.Frag) (mg : Str → Option Value) (base : Heap) (R : Addr) : Prop where
  rm : RMk P w K mg base R
  repr : ∃ g, PySem.W.findIn K (.ref R) "__repr__" = some (some (.ref g)) ∧ PySem.W.isFn K (.ref g) = true ∧ FnR P w K mg base CX0 5 g (spTxt R reprT)
theorem OddT.sg {X : Cx} {R : Addr} {H : Hp} {v : V} {t : Str} (N : RRp X.prog X.w X.K X.mg X.base R) (h : OddT R H v t) : Sg X 6 (fun H' => H' = H) (isAt v) v t := by
  cases h with
  | non => exact sg_non
  | bl b => exact sg_bl
  | str h => exact sg_str (by rcases h with rfl | rfl | rfl <;> decide +kernel)
  | int h => exact sg_int (log_ok h)
  | @rat a p r bp =>
    obtain ⟨g, h1, h2, h3⟩ := N.repr
    obtain ⟨dx, e2⟩ := id r
    exact (sg_own (k := 5) (B := isAt (.ref a)) h1 h2 h3 (fun H' j => ⟨dx, rf p, by rw [j]; exact e2⟩) fun H' j => ⟨a, p, rfl, by rw [j]; exact r, bp, rfl, j⟩).mono (by decide) (fun _ z => z)
  | nil e => exact sg_nil (fun H' j => by rw [j]; exact e)
  | @one a e =>
    refine (sg_list (k := 5) (B := fun _ => False) (xs := [.int 1]) (ts := [tx 1]) (fun H' j => by rw [j]; exact e) (by simp) id rfl fun i v hv => ?_).mono (Nat.le_refl _) (fun c hc => by rcases hc with rfl | z; exact rfl; exact z.elim)
    match i, hv with
    | 0, hv =>
      obtain rfl : V.int 1 = v := by simpa using hv
      exact ⟨_, rfl, sg_int (by decide)⟩
    | n + 1, hv => simp at hv
  | @tup1 a e => exact (sg_tup (k := 5) (B := fun _ => False) (fun H' j => by rw [j]; exact e) id (.cons (sg_int (by decide)) .nil)).mono (Nat.le_refl _) (fun c hc => by rcases hc with rfl | z; exact rfl; exact z.elim)
  | @tup2 a e => exact (sg_tup (k := 5) (B := fun _ => False) (fun H' j => by rw [j]; exact e) id (.cons (sg_int (by decide)) (.cons (sg_int (by decide)) .nil))).mono (Nat.le_refl _) (fun c hc => by rcases hc with rfl | z; exact rfl; exact z.elim)
  | @d0 a e => exact sg_d0 (k := 5) (fun H' j => by rw [j]; exact e) rfl
abbrev veTail : List Value := [.type "ValueError", .type "Exception", .type "BaseException", .type "object"]
abbrev fV : Str := "value"
/-- a def with __class__ captured -/
abbrev fnC (name qual : Str) (params : Arguments) (body : List Stmt) (scope : Scope) (dV kV doc pm : Value) (an : Option Addr) (cdv ct : Value) (cc : Addr) : FuncData :=
  { name, qualname := qual, params, body := .stmts body, scope, globals := mainGlobals, closure := [(("__class__" : Str), cc)], defaults := dV, kwdefaults := kV, doc, pyModule := pm, annotations := an, code := cdv, closureTuple := ct, builtins := builtinsNs }
section
variable {P : Program} {w : World} {K : PySem.W.Frag} {mg : Str → Option Value} {base : Heap}
def spIN (R D : Addr) : Sp := fun vs H Q _ => ∃ (a : Addr) (v : V) (t : Str), vs = [.ref a, v] ∧ H a = some (exo a D none) ∧ OddT R H v t ∧
  ∀ dx, H dx = none → dx ≠ a → Q .non (upd (upd H dx (exd dx [(fV, v)])) a (exo a D (some dx)))
/-! ### InvalidNumber.__init__ -/
def inArg : Arg := ((defArgs sINInit).posonlyargs ++ (defArgs sINInit).args).headD (Arg.mk "" none ⟨0, 0, 0, 0⟩)
theorem in_len : (("not a number: " : Str)).length = 14 := rfl
theorem ok_in {f R D cc : Addr} {cd1 : Option Addr} {sl1 : Array (Option Value)} {kV doc pm cdv ct : Value} {an : Option Addr} (hcd : PySem.W.codeIn K cdv "InvalidNumber.__init__" = true) (hcc : K.lookup cc = some ⟨.type "cell", cd1, .cell (some (.ref D)), sl1⟩)
    (T : SupK "ValueError" "ValueError.__new__" "ValueError.__init__" veTail P K mg D f (fnC "__init__" "InvalidNumber.__init__" (defArgs sINInit) (defBody sINInit) (defScope sINInit) .none kV doc pm an cdv ct cc) inArg)
    (N : RRp P w K mg base R) (O : OexC K D) (hno : PySem.W.findIn K (.ref D) "value" = some none) :
    FnG P w K mg base CX0 7 f (fnC "__init__" "InvalidNumber.__init__" (defArgs sINInit) (defBody sINInit) (defScope sINInit) .none kV doc pm an cdv ct cc) ["self", "value"] (spIN R D) := by
  refine fn_sup (k := 6) (N := ["self", "value"]) ⟨rfl, rfl, rfl, by decide, rfl, by show ∀ x ∈ [("self" : Str), "value"], (defScope sINInit).names.lookup x = some .local; decide +kernel, by show ∀ y ∈ (defScope sINInit).names, y.2 ≠ .cell; decide +kernel, by show ∀ y ∈ (defScope sINInit).names, y.2 = .free → y.1 = ("__class__" : Str); decide +kernel, rfl, rfl, rfl, rfl, rfl⟩ hcc F.excBase_ValueError PySem.W.kxs_ValueError T rfl hcd rfl (fun vs H Q E h => ?_) (fun env => rfl) (fun env => rfl) (fun L => rfl) (fun L => rfl) (fun A outer s H vs Q E gd hr h => ?_)
  · obtain ⟨a, v, t, rfl, _⟩ := h
    rfl
  · obtain ⟨a, v, t, rfl, ha, od, q⟩ := h
    refine ⟨a, _, _, rfl, ha, pa_cons (pe_joined (PJ.cons pe_str (PJ.cons (pe_fmtG (k := 6) (deeper_guards.trans gd) hr (pv 1)) PJ.nil))) pa_nil, pss_one (ps_ost (pv 0) (pv 1)), ?_⟩
    have sl : sizeLine = 16777216 := sizeLine_eq
    have hl := od.len
    refine ⟨_, rfl, ?_, _, rfl, t, fun H' => H' = H, isAt v, rfl, od.sg (X := cxS CX0 P w K mg base ["self", "value"] _ f A outer s H E) N, by omega, fun H' j => ?_⟩
    · rw [strLen_append, e_len, in_len, sl]; decide
    subst j
    refine ⟨_, rfl, ?_, by show 1 ≤ 1000; decide, ha, ?_⟩
    · show (Str.empty ++ ("not a number: " : Str) ++ t).length ≤ _
      rw [strLen_append, strLen_append, e_len, in_len]; omega
    refine ⟨_, rfl, _, rfl, a, D, rfl, O, hno, .inl ⟨ha, q⟩⟩
/-! ### InvalidPolynomial.__init__ -/
def ipArg : Arg := ((defArgs sIPInit).posonlyargs ++ (defArgs sIPInit).args).headD (Arg.mk "" none ⟨0, 0, 0, 0⟩)
theorem ip_len : (("not a polynomial: " : Str)).length = 18 := rfl
theorem ok_ip {f R D cc : Addr} {cd1 : Option Addr} {sl1 : Array (Option Value)} {kV doc pm cdv ct : Value} {an : Option Addr} (hcd : PySem.W.codeIn K cdv "InvalidPolynomial.__init__" = true) (hcc : K.lookup cc = some ⟨.type "cell", cd1, .cell (some (.ref D)), sl1⟩)
    (T : SupK "ValueError" "ValueError.__new__" "ValueError.__init__" veTail P K mg D f (fnC "__init__" "InvalidPolynomial.__init__" (defArgs sIPInit) (defBody sIPInit) (defScope sIPInit) .none kV doc pm an cdv ct cc) ipArg)
    (N : RRp P w K mg base R) (O : OexC K D) (hno : PySem.W.findIn K (.ref D) "value" = some none) :
    FnG P w K mg base CX0 7 f (fnC "__init__" "InvalidPolynomial.__init__" (defArgs sIPInit) (defBody sIPInit) (defScope sIPInit) .none kV doc pm an cdv ct cc) ["self", "value"] (spIN R D) := by
  refine fn_sup (k := 6) (N := ["self", "value"]) ⟨rfl, rfl, rfl, by decide, rfl, by show ∀ x ∈ [("self" : Str), "value"], (defScope sIPInit).names.lookup x = some .local; decide +kernel, by show ∀ y ∈ (defScope sIPInit).names, y.2 ≠ .cell; decide +kernel, by show ∀ y ∈ (defScope sIPInit).names, y.2 = .free → y.1 = ("__class__" : Str); decide +kernel, rfl, rfl, rfl, rfl, rfl⟩ hcc F.excBase_ValueError PySem.W.kxs_ValueError T rfl hcd rfl (fun vs H Q E h => ?_) (fun env => rfl) (fun env => rfl) (fun L => rfl) (fun L => rfl) (fun A outer s H vs Q E gd hr h => ?_)
  · obtain ⟨a, v, t, rfl, _⟩ := h
    rfl
  · obtain ⟨a, v, t, rfl, ha, od, q⟩ := h
    refine ⟨a, _, _, rfl, ha, pa_cons (pe_joined (PJ.cons pe_str (PJ.cons (pe_fmtG (k := 6) (deeper_guards.trans gd) hr (pv 1)) PJ.nil))) pa_nil, pss_one (ps_ost (pv 0) (pv 1)), ?_⟩
    have sl : sizeLine = 16777216 := sizeLine_eq
    have hl := od.len
    refine ⟨_, rfl, ?_, _, rfl, t, fun H' => H' = H, isAt v, rfl, od.sg (X := cxS CX0 P w K mg base ["self", "value"] _ f A outer s H E) N, by omega, fun H' j => ?_⟩
    · rw [strLen_append, e_len, ip_len, sl]; decide
    subst j
    refine ⟨_, rfl, ?_, by show 1 ≤ 1000; decide, ha, ?_⟩
    · show (Str.empty ++ ("not a polynomial: " : Str) ++ t).length ≤ _
      rw [strLen_append, strLen_append, e_len, ip_len]; omega
    refine ⟨_, rfl, _, rfl, a, D, rfl, O, hno, .inl ⟨ha, q⟩⟩
end
end S70

namespace S70
open PySem L2 SR RA TXM
/-- what is known of an error class with a value -/
structure Err (nm : Str) (P : Program) (w : World) (K : PySem.W.Frag) (mg : Str → Option Value) (base : Heap) (R D S : Addr) : Prop where
  cl : OexC K D
  mgD : mg nm = some (.ref D)
  ex : ∃ fI fd, PySem.W.findIn K (.ref D) "__init__" = some (some (.ref fI)) ∧ PySem.W.typeIn K (.ref fI) = some (.type "function") ∧ Binds K fd ["self", "value"] [] ∧ FnG P w K mg base CX0 7 fI fd ["self", "value"] (spIN R D)
  me : PySem.W.exmOne K (.ref D) (.ref D) = some true
  xf : XfC K D
  no : PySem.W.findIn K (.ref D) "value" = some none
  ec : ExcC K D
  mgS : mg "SlotsumsError" = some (.ref S)
  ks : PySem.W.kitOne K (.ref D) (.ref S) = some true
theorem pmk_err {X : Cx} {nm : Str} {R D S : Addr} {e : Expr} {es : List Expr} {ta : TA} {p pos : Pos} (Z : Err nm X.prog X.w X.K X.mg X.base R D S) (gd : X.A.guards = some []) (hr : Room 8 X.A) (hg : Gl X nm) (ha : PA X (e :: es) ta) (hdb : (nm == ("__debug__" : Str)) = false := by decide)
    (he : starEach (e :: es) X.env = (false, eval e X.env) :: starEach es X.env := by rfl) (hpl : (backTo pos (starEach es X.env)).any (·.1) = false := by rfl) : L2.PMk X (.Call (.Name nm p) (e :: es) [] pos) (tMkO D (spIN R D) [] ta) := by
  obtain ⟨fI, fd, h1, h2, h3, h4⟩ := Z.ex
  exact pmk_oexG (CX := CX0) Z.cl h1 h2 h4 gd hr h3 .nil pass0 hg Z.mgD ha hdb he hpl
/-- what is let out -/
def XW (D : Addr) (v : V) (H : Hp) (E : XK) : Prop := ∀ (H' : Hp) (d : Addr), Same H H' → H d = none → H' d = some (.xd [(fV, v)]) → E (.ref D) (some d) H'
theorem XW.same {D : Addr} {v : V} {H H' : Hp} {E : XK} (s : Same H H') (h : XW D v H E) : XW D v H' E := fun H2 d s2 hn e => h H2 d (Same.trans s s2) (s.free hn) e
theorem raised {R D : Addr} {v : V} {t : Str} {H H1 : Hp} {E : XK} (s1 : Same H H1) (od : OddT R H v t) (x : XW D v H E) : [v].length ≤ 1000 ∧ ∀ a, H1 a = none → spIN R D (.ref a :: ([v] ++ [])) (upd H1 a (exo a D none))
  (fun r H2 => r = .non ∧ ∃ (d : Addr) (fs : List (Str × V)), H2 a = some (exo a D (some d)) ∧ H2 d = some (exd d fs) ∧ H1 d = none ∧ E (.ref D) (some d) (upd (del H2 a) d (.xd fs))) (fun _ _ _ => False) := by
  refine ⟨by show 1 ≤ 1000; decide, fun a ha => ⟨a, v, t, rfl, upd_same, od.same (sNew s1 ha), fun dx hdx ne => ⟨rfl, dx, [(fV, v)], upd_same, ?_, ?_, ?_⟩⟩⟩
  · rw [upd_ne ne]; exact upd_same
  · rw [upd_ne ne] at hdx; exact hdx
  · rw [upd_ne ne] at hdx
    refine x _ dx (fun b o hb => ?_) (s1.free hdx) upd_same
    have hb1 := s1 _ _ hb
    have n1 : b ≠ a := ne_of_none hb1 ha
    have n2 : b ≠ dx := ne_of_none hb1 hdx
    rw [upd_ne n2, del_ne n1, upd_ne n1, upd_ne n2, upd_ne n1]
    exact hb1
section
variable {P : Program} {w : World} {K : PySem.W.Frag} {mg : Str → Option Value} {base : Heap}
theorem isint_odd {R : Addr} {H : Hp} {v : V} {Q : VK} {E : XK} (h : OddN R H v) (q : Q (.bl false) H) : spIsInt R [v] H Q E := by
  rcases h with ⟨T, od⟩ | ⟨a, dx, fs, rfl, e⟩
  · exact .inr (.inr ⟨v, T, rfl, od, q⟩)
  · exact .inr (.inl ⟨a, dx, fs, rfl, e, q⟩)
/-! ### Polynomial.__init__, where it raises -/
def spInitX (R D : Addr) : Sp := fun vs H _ E => ∃ (x t : Addr) (v : V) (tt : Str), vs = [.ref x, .ref t] ∧ H t = some (.tup [.int 1, v, .non]) ∧ OddT R H v tt ∧ OddN R H v ∧ XW D v H E
def spStarX (R D : Addr) : Sp := fun vs H Q E => ∃ ws more, vs = ws ++ more ∧ ws.length = (["self"] : List Str).length ∧ more.length ≤ sizeLine ∧ ∀ p, H p = Option.none → spInitX R D (ws ++ [V.ref p]) (upd H p (.tup more)) Q E
theorem ok_pinitX {f R D S : Addr} {fd : FuncData} (F : Fun K "__init__" "Polynomial.__init__" sPInit f fd) (Z : Err "InvalidNumber" P w K mg base R D S) (DI : Df P w K mg base "is_integer" ["value"] 1 (spIsInt R)) :
    FnRG P w K mg base (L2.CX P w) 9 f (spStarX R D) := by
  obtain ⟨oc, od, kV, doc, pm, an, cdv, ct, osl, rfl, lk, hcd⟩ := F.ex
  refine fn_starG (ps := ["self"]) (pv := "coefficients") lk hcd scPInit StX.cxUp (fun us rest hl => ?_) (fun A outer s H vs Q E gd hr h => ?_)
  · match us, rest, hl with
    | [u], [], _ => rfl
    | [u], a :: b, _ => rfl
  · obtain ⟨x, t, v, tt, rfl, ht, od, on, xw⟩ := h
    refine ⟨_, pss_cons (ps_for (passes_of rfl) rfl (pi_tup (pv 1)) (pg_name (i := 2) scPInit.nd rfl (Or.inl rfl)) (pss_one (ps_if (pt_not (pt_val (pe_df DI (hr.mono (by decide)) (by rfl) (pa_cons (pv 2) pa_nil)))) (pss_one (ps_raise (by rfl) (takes_of (E := E) rfl rfl rfl rfl) (pmk_err Z (deeper_guards.trans gd) hr (by rfl) (pa_cons (pv 2) pa_nil)))) pss_nil)))
      (pss_cons ps_never (pss_cons ps_never (pss_one ps_never))), ?_⟩
    refine ⟨_, rfl, t, rfl, ⟨_, .inl (.inl ht)⟩, for_it (walk_tup (K := K) (a := t) (xs := [.int 1, v, .non])) (fun i σ H' => H = H' ∧ i ≤ 1 ∧ ∃ u, σ = [some (.ref x), some (.ref t), u, none]) ⟨rfl, by decide, none, rfl⟩ (fun i σ H' _ h => h.1 ▸ .inl (.inl ht)) ?_ ?_⟩
    · rintro i y σ _ _ hi ⟨rfl, hi1, u, rfl⟩ ⟨rfl, hy⟩
      by_cases h0 : i = 0
      · subst h0
        obtain rfl : V.int 1 = y := Option.some.inj hy
        refine ⟨_, rfl, .inl ⟨1, rfl, true, rfl, ?_⟩⟩
        exact ⟨rfl, by decide, _, rfl⟩
      · obtain rfl : i = 1 := by omega
        obtain rfl : v = y := Option.some.inj hy
        rcases on with ⟨T, ov⟩ | ⟨b, dy, gs, rfl, e⟩
        · exact ⟨_, rfl, .inr (.inr ⟨_, T, rfl, ov, false, rfl, iteT ⟨_, rfl, raised (Same.refl _) od xw⟩⟩)⟩
        · exact ⟨_, rfl, .inr (.inl ⟨b, dy, gs, rfl, e, false, rfl, iteT ⟨_, rfl, raised (Same.refl _) od xw⟩⟩)⟩
    · rintro σ H' ⟨rfl, hi2, _⟩
      exact absurd hi2 (by show ¬ 3 ≤ 1; decide)
/-! ### at, where it raises -/
def spAtX (R D : Addr) : Sp := fun vs H _ E => ∃ (a : Addr) (v : V) (t : Str), vs = [.ref a, v] ∧ OddT R H v t ∧ OddN R H v ∧ XW D v H E
theorem ok_atX {f R D S : Addr} {fd : FuncData} (F : Fun K "at" "Polynomial.at" sPAt f fd) (Z : Err "InvalidNumber" P w K mg base R D S) (DI : Df P w K mg base "is_integer" ["value"] 1 (spIsInt R)) : FnG P w K mg base (L2.CX P w) 9 f fd ["self", "d"] (spAtX R D) := by
  obtain ⟨oc, od, kV, doc, pm, an, cdv, ct, osl, rfl, lk, hcd⟩ := F.ex
  refine fn_ofG lk hcd scAt (fun vs H Q E h => ?_) fun A outer s H vs Q E gd hr h => ?_
  · obtain ⟨a, v, t, rfl, _⟩ := h
    rfl
  · obtain ⟨a, v, t, rfl, od, on, xw⟩ := h
    refine ⟨_, pss_cons (ps_if (pt_not (pt_val (pe_df DI (hr.mono (by decide)) (by rfl) (pa_cons (pv 1) pa_nil)))) (pss_one (ps_raise (by rfl) (takes_of (E := E) rfl rfl rfl rfl) (pmk_err Z (deeper_guards.trans gd) hr (by rfl) (pa_cons (pv 1) pa_nil)))) pss_nil)
      (pss_cons ps_never (pss_cons ps_never (pss_one ps_never))), ?_⟩
    rcases on with ⟨T, ov⟩ | ⟨b, dy, gs, rfl, e⟩
    · exact ⟨_, rfl, .inr (.inr ⟨_, T, rfl, ov, false, rfl, iteT ⟨_, rfl, raised (Same.refl _) od xw⟩⟩)⟩
    · exact ⟨_, rfl, .inr (.inl ⟨b, dy, gs, rfl, e, false, rfl, iteT ⟨_, rfl, raised (Same.refl _) od xw⟩⟩)⟩
/-! ### row_of, where it raises -/
def spRowX (R D : Addr) : Sp := fun vs H _ E => ∃ (v : V) (t : Str), vs = [v] ∧ OddT R H v t ∧ XW D v H E
theorem ok_rowX {f R C D S : Addr} {fd : FuncData} (F : Fun K "row_of" "row_of" sRowOf f fd) (B : Bn mg) (M : Rc K mg R) (N : Pc K mg R C) (Z : Err "InvalidPolynomial" P w K mg base R D S) : FnG P w K mg base (L2.CX P w) 9 f fd ["value"] (spRowX R D) := by
  obtain ⟨oc, od, kV, doc, pm, an, cdv, ct, osl, rfl, lk, hcd⟩ := F.ex
  refine fn_ofG lk hcd scRowOf (fun vs H Q E h => ?_) fun A outer s H vs Q E gd hr h => ?_
  · obtain ⟨v, t, rfl, _⟩ := h
    rfl
  · obtain ⟨v, t, rfl, od, xw⟩ := h
    refine ⟨_, pss_cons (ps_if (pt_not (pt_val (pe_callB call_isi (by rfl) B.isi (by decide +kernel) (pa_cons (pv 0) (pa_cons (pe_glob (v := .ref C) (by rfl) N.mgC rfl) pa_nil))))) (pss_one (ps_raise (by rfl) (takes_of (E := E) rfl rfl rfl rfl) (pmk_err Z (deeper_guards.trans gd) hr (by rfl) (pa_cons (pv 0) pa_nil)))) pss_nil)
      (pss_one ps_never), ?_⟩
    rcases od.kind with ⟨i, rfl⟩ | ⟨T, ov⟩ | ⟨a, dx, fs, rfl, e⟩
    · refine ⟨_, rfl, _, _, _, _, false, rfl, .own C, .base (.int i), N.ik, false, rfl, ?_⟩
      exact iteT ⟨_, rfl, raised (Same.refl H) od xw⟩
    · refine ⟨_, rfl, _, _, _, _, false, rfl, .own C, ov.ty, (ov.tyc N.oc).kit, false, rfl, ?_⟩
      exact iteT ⟨_, rfl, raised (Same.refl H) od xw⟩
    · refine ⟨_, rfl, _, _, _, _, false, rfl, .own C, .base (.ins e M.cl M.ic M.gt M.tk M.mo), N.rk, false, rfl, ?_⟩
      exact iteT ⟨_, rfl, raised (Same.refl H) od xw⟩
structure RwX (P : Program) (w : World) (K : PySem.W.Frag) (mg : Str → Option Value) (base : Heap) (R D : Addr) : Prop where
  ex : ∃ f fd, mg "row_of" = some (.ref f) ∧ PySem.W.keepIn K (.ref f) = true ∧ Binds K fd ["value"] [] ∧ FnG P w K mg base (L2.CX P w) 9 f fd ["value"] (spRowX R D)
/-! ### the operators, where the right side is no polynomial -/
def spOpX (R C D : Addr) : Sp := fun vs H _ E => ∃ (a : Addr) (r : List Int) (v : V) (t : Str), vs = [.ref a, v] ∧ PolyAt C H a r ∧ OddT R H v t ∧ XW D v H E
end
theorem pe_rowX {X : Cx} {R D : Addr} {E : XK} {e : Expr} {es : List Expr} {t : TA} {p pos : Pos} (W : RwX X.prog X.w X.K X.mg X.base R D) (gd : X.A.guards = some []) (hr : Room 9 X.A) (hg : Gl X "row_of") (hx : Passes (L2.CX X.prog X.w) X E) (ha : PA X (e :: es) t)
    (hst : starEach (e :: es) X.env = (false, eval e X.env) :: starEach es X.env := by rfl) (hpl : (backTo pos (starEach es X.env)).any (·.1) = false := by rfl) :
    PE X (.Call (.Name "row_of" p) (e :: es) [] pos) (tCall (spRowX R D) [] E t) := by
  obtain ⟨f, fd, hm, kp, b, F⟩ := W.ex
  exact pe_callG F gd hr hg hm kp b .nil hx ha (by decide) hst hpl
section
variable {P : Program} {w : World} {K : PySem.W.Frag} {mg : Str → Option Value} {base : Heap}
theorem ok_addX {f R C D : Addr} {fd : FuncData} (F : Fun K "__add__" "Polynomial.__add__" sPAdd f fd) (N : Pc K mg R C) (W : RwX P w K mg base R D) (DA : Df P w K mg base "added_rows" ["one", "other"] 1 (spAdded K)) : FnG P w K mg base (L2.CX P w) 10 f fd ["self", "other"] (spOpX R C D) := by
  obtain ⟨oc, od, kV, doc, pm, an, cdv, ct, osl, rfl, lk, hcd⟩ := F.ex
  refine fn_ofG lk hcd scAdd (fun vs H Q E h => ?_) fun A outer s H vs Q E gd hr h => ?_
  · obtain ⟨a, r, v, t, rfl, _⟩ := h
    rfl
  · obtain ⟨a, r, v, t, rfl, ⟨dx, u, h1, h2⟩, od, x⟩ := h
    refine ⟨_, pss_cons (ps_set (i := 2) scAdd.nd rfl (Or.inl rfl) (pe_df DA (hr.mono (by decide)) (by rfl) (pa_cons (pe_fld (pv 0) rfl) (pa_cons (pe_rowX W (deeper_guards.trans gd) hr (by rfl) (passes_call (takes_of (E := E) rfl rfl rfl rfl) fun _ _ _ _ z => z) (pa_cons (pv 1) pa_nil)) pa_nil)))) (pss_one ps_never), ?_⟩
    exact ⟨_, rfl, a, C, dx, _, _, rfl, h1, N.cl, N.nR, rfl, _, rfl, v, t, rfl, od, x⟩
theorem ok_subX {f R C D : Addr} {fd : FuncData} (F : Fun K "__sub__" "Polynomial.__sub__" sPSub f fd) (N : Pc K mg R C) (W : RwX P w K mg base R D) (DA : Df P w K mg base "added_rows" ["one", "other"] 1 (spAdded K)) (DO : Df P w K mg base "opposite_row" ["row"] 1 (spOpp K)) : FnG P w K mg base (L2.CX P w) 10 f fd ["self", "other"] (spOpX R C D) := by
  obtain ⟨oc, od, kV, doc, pm, an, cdv, ct, osl, rfl, lk, hcd⟩ := F.ex
  refine fn_ofG lk hcd scSub (fun vs H Q E h => ?_) fun A outer s H vs Q E gd hr h => ?_
  · obtain ⟨a, r, v, t, rfl, _⟩ := h
    rfl
  · obtain ⟨a, r, v, t, rfl, ⟨dx, u, h1, h2⟩, od, x⟩ := h
    refine ⟨_, pss_cons (ps_set (i := 2) scSub.nd rfl (Or.inl rfl) (pe_df DA (hr.mono (by decide)) (by rfl) (pa_cons (pe_fld (pv 0) rfl) (pa_cons (pe_df DO (hr.mono (by decide)) (by rfl) (pa_cons (pe_rowX W (deeper_guards.trans gd) hr (by rfl) (passes_call (takes_of (E := E) rfl rfl rfl rfl) fun _ _ _ _ z => z) (pa_cons (pv 1) pa_nil)) pa_nil)) pa_nil)))) (pss_one ps_never), ?_⟩
    exact ⟨_, rfl, a, C, dx, _, _, rfl, h1, N.cl, N.nR, rfl, _, rfl, v, t, rfl, od, x⟩
theorem ok_mulX {f R C D : Addr} {fd : FuncData} (F : Fun K "__mul__" "Polynomial.__mul__" sPMul f fd) (N : Pc K mg R C) (W : RwX P w K mg base R D) (DM : Df P w K mg base "multiplied_rows" ["one", "other"] 1 (spMult K)) : FnG P w K mg base (L2.CX P w) 10 f fd ["self", "other"] (spOpX R C D) := by
  obtain ⟨oc, od, kV, doc, pm, an, cdv, ct, osl, rfl, lk, hcd⟩ := F.ex
  refine fn_ofG lk hcd scMul (fun vs H Q E h => ?_) fun A outer s H vs Q E gd hr h => ?_
  · obtain ⟨a, r, v, t, rfl, _⟩ := h
    rfl
  · obtain ⟨a, r, v, t, rfl, ⟨dx, u, h1, h2⟩, od, x⟩ := h
    refine ⟨_, pss_cons (ps_set (i := 2) scMul.nd rfl (Or.inl rfl) (pe_df DM (hr.mono (by decide)) (by rfl) (pa_cons (pe_fld (pv 0) rfl) (pa_cons (pe_rowX W (deeper_guards.trans gd) hr (by rfl) (passes_call (takes_of (E := E) rfl rfl rfl rfl) fun _ _ _ _ z => z) (pa_cons (pv 1) pa_nil)) pa_nil)))) (pss_one ps_never), ?_⟩
    exact ⟨_, rfl, a, C, dx, _, _, rfl, h1, N.cl, N.nR, rfl, _, rfl, v, t, rfl, od, x⟩
/-- the operators that may raise -/
structure PX (P : Program) (w : World) (K : PySem.W.Frag) (mg : Str → Option Value) (base : Heap) (R C D : Addr) : Prop where
  ne : C ≠ R
  op : ∀ op : Operator, op = .Add ∨ op = .Sub ∨ op = .Mult → ∃ g fd, PySem.W.findIn K (.ref C) (PySem.dunder op.info.2) = some (some (.ref g)) ∧ PySem.W.isFn K (.ref g) = true ∧ PySem.W.findIn K (.ref C) (dunderR op.info.2) = some none ∧ Binds K fd ["self", "other"] [] ∧ FnG P w K mg base (L2.CX P w) 10 g fd ["self", "other"] (spOpX R C D)
  op2 : ∀ op : Operator, op = .Add ∨ op = .Sub ∨ op = .Mult → ∃ g, PySem.W.findIn K (.ref R) (PySem.dunder op.info.2) = some (some (.ref g)) ∧ PySem.W.findIn K (.ref R) (dunderR op.info.2) = some none
end
def tPX (R C D : Addr) (E : XK) (ta tb : TE) : TE := fun σ H Q => tBinX C (spOpX R C D) E ta tb σ H Q ∨ tBinY C R (spOpX R C D) E ta tb σ H Q ∨ tBinI C (spOpX R C D) E ta tb σ H Q
theorem pe_opX {X : Cx} {R C D : Addr} {E : XK} {a b : Expr} {ta tb : TE} {pos : Pos} {op : Operator} (ho : op = .Add ∨ op = .Sub ∨ op = .Mult) (M : Rc X.K X.mg R) (N : Pc X.K X.mg R C) (W : PX X.prog X.w X.K X.mg X.base R C D) (gd : X.A.guards = some []) (hr : Room 10 X.A) (hx : Passes (L2.CX X.prog X.w) X E) (ha : PE X a ta) (hb : PE X b tb) :
    PE X (.BinOp a op b pos) (tPX R C D E ta tb) := by
  obtain ⟨g, fd, h1, h2, h3, h4, F⟩ := W.op op ho
  obtain ⟨g2, k1, k2⟩ := W.op2 op ho
  have ti : ∃ fo ro, PySem.W.findIn X.K (.type "int") (PySem.dunder op.info.2) = some fo ∧ PySem.W.findIn X.K (.type "int") (dunderR op.info.2) = some ro := by
    rcases ho with rfl | rfl | rfl <;> exact ⟨_, _, rfl, rfl⟩
  obtain ⟨fo, ro, t1, t2⟩ := ti
  exact PE.or (pe_binX ho N.oc N.sf h1 h2 h3 F gd hr h4 hx ha hb) (PE.or (pe_binY W.ne N.sf M.sf h1 h2 h3 k1 k2 N.rs F gd hr h4 hx ha hb) (pe_binI N.sf h1 h2 h3 t1 t2 N.si F gd hr h4 hx ha hb))
/-- both sides are slots -/
theorem px_vars {R C D : Addr} {E : XK} {i j : Nat} {σ : St} {H : Hp} {Q : VK} {a : Addr} {r : List Int} {v : V} {t : Str} (hi : σ[i]? = some (some (.ref a))) (hj : σ[j]? = some (some v)) (hp : PolyAt C H a r) (od : OddT R H v t) (xw : XW D v H E) : tPX R C D E (tVar i) (tVar j) σ H Q := by
  have sp : spOpX R C D [.ref a, v] H Q E := ⟨a, r, v, t, rfl, hp, od, xw⟩
  obtain ⟨dx, u, h1, h2⟩ := id hp
  rcases od.kind with ⟨n, rfl⟩ | ⟨T, ov⟩ | ⟨b, dy, gs, rfl, e⟩
  · exact .inr (.inr ⟨_, hi, _, hj, a, dx, _, n, rfl, rfl, h1, sp⟩)
  · exact .inl ⟨_, hi, _, hj, a, dx, _, T, rfl, h1, ov, sp⟩
  · exact .inr (.inl ⟨_, hi, _, hj, a, dx, _, b, dy, gs, rfl, rfl, h1, e, sp⟩)
end S70

namespace S70
open PySem L2 SR RA TXM
/-- the two numbers that draw -/
def PotAt (H : Hp) (l : Addr) : Prop := ∃ x y : Int, H l = some (.lst [.int x, .int y]) ∧ 0 ≤ x ∧ 0 ≤ y ∧ y < 4294967296
theorem SameX.same {x : Addr} {H H' H2 : Hp} (a : SameX x H H') (b : Same H' H2) : SameX x H H2 := fun c o hc e => b c o (a c o hc e)
theorem SameX.trans {x : Addr} {H H' H2 : Hp} (a : SameX x H H') (b : SameX x H' H2) : SameX x H H2 := fun c o hc e => b c o hc (a c o hc e)
theorem SameX.of {x : Addr} {H H' : Hp} (a : Same H H') : SameX x H H' := fun c o _ e => a c o e
theorem SameX.put {x : Addr} {H H' : Hp} {o : HO} (a : SameX x H H') : SameX x H (upd H' x o) := fun c p hc e => by rw [upd_ne hc]; exact a c p hc e
theorem SameX.free {x : Addr} {H H' : Hp} (a : SameX x H H') {l : Addr} (hl : l ≠ x) (h : H' l = none) : H l = none := by
  cases e : H l with
  | none => rfl
  | some o => rw [a l o hl e] at h; cases h
theorem PotAt.same {H H' : Hp} {l : Addr} (s : Same H H') (h : PotAt H l) : PotAt H' l := by
  obtain ⟨x, y, e, r⟩ := h
  exact ⟨x, y, s _ _ e, r⟩
theorem PotAt.ne {H : Hp} {l t : Addr} (h : PotAt H l) (ht : H t = none) : t ≠ l := fun e => by
  obtain ⟨x, y, e1, _⟩ := h
  rw [e, e1] at ht
  cases ht
theorem PotAt.put {H : Hp} {l p : Addr} {o : HO} (h : PotAt H l) (n : l ≠ p) : PotAt (upd H p o) l := by
  obtain ⟨x, y, e, r⟩ := h
  exact ⟨x, y, by rw [upd_ne n]; exact e, r⟩
theorem SameX.new {x p : Addr} {H H' : Hp} {o : HO} (a : SameX x H H') (n : H p = none) : SameX x H (upd H' p o) := fun b u hb e => by
  rw [upd_ne (ne_of_none e n)]
  exact a b u hb e
section
variable {P : Program} {w : World} {K : PySem.W.Frag} {mg : Str → Option Value} {base : Heap}
/-! ### _law_rng -/
def spRng (K : PySem.W.Frag) : Sp := fun vs H Q _ => ∃ (a : Addr) (ns : List Int) (k : Nat), vs = [.ref a, .int k] ∧ SqL K H a (ns.map V.int) ∧ k < 4 ∧ ns.length ≤ 1000 ∧ ∀ H' l, Same H H' → H l = none → PotAt H' l → Q (.ref l) H'
abbrev nRng : List Str := ["_law_script", "_law_k", "_law_cell"]
theorem scRng : FnScope nRng ["_law_script", "_law_k"] (defScope sRng) := ⟨rfl, rfl, rfl, by decide +kernel, rfl, by decide +kernel, by decide +kernel⟩
theorem ok_rng {f : Addr} {fd : FuncData} (F : Fun K "_law_rng" "_law_rng" sRng f fd) (T : Bn mg) : FnOk P w K mg base CX0 1 f fd ["_law_script", "_law_k"] (spRng K) := by
  refine F.ok scRng (fun vs H Q E h => ?_) (fun cdv A outer s H vs Q E hr h => ?_)
  · obtain ⟨a, ns, k, rfl, _⟩ := h
    rfl
  · obtain ⟨a, ns, k, rfl, ha, hk, hl, q⟩ := h
    refine ⟨_, pss_cons (ps_set (i := 2) scRng.nd rfl (Or.inl rfl) (pe_op op_add (pe_op op_mul pe_int (pv 1)) pe_int))
      (pss_cons (ps_if (pt_cmpR op_lt (pv 1) (pe_callB call_len_seq (by rfl) T.len PySem.boot_len (pa_cons (pv 0) pa_nil)) (nomark _)) (pss_one (ps_set (i := 2) scRng.nd rfl (Or.inl rfl) (pe_ix ix_list (pv 0) (pv 1) (fun _ _ => rfl)))) pss_nil)
      (pss_one (ps_ret (pe_lst (pa_cons (pe_callB (call_max2 rfl) (by rfl) T.max (by decide +kernel) (pa_cons pe_int (pa_cons (pe_op op_sub (pe_callB call_abs (by rfl) T.abs (by decide +kernel) (pa_cons (pv 2) pa_nil)) (pe_op op_pow pe_int pe_int)) pa_nil)))
        (pa_cons (pe_op op_add (pe_op op_mod (pe_op op_mul (pe_callTy call_int1 (by rfl) T.int (by decide +kernel) (pa_cons (pe_op op_add (pe_op op_mod (pe_callTy call_int1 (by rfl) T.int (by decide +kernel) (pa_cons (pe_callB call_abs (by rfl) T.abs (by decide +kernel) (pa_cons (pv 2) pa_nil)) pa_nil)) pe_int) pe_int) pa_nil)) (pe_op op_pow (pe_op op_add (pe_op op_mul pe_int (pv 1)) pe_int) pe_int)) pe_int) pe_int) pa_nil)))))), ?_⟩
    refine ⟨_, rfl, _, _, rfl, rfl, .inl ⟨by decide, by decide⟩, _, _, rfl, rfl, ?_⟩
    refine ⟨_, rfl, _, rfl, a, _, rfl, .inl ha, _, _, rfl, rfl, _, rfl, ?_⟩
    by_cases hlt : ((k : Nat) : Int) < ((ns.map V.int).length : Nat)
    · rw [decide_eq_true hlt]
      refine iteT ?_
      have hk2 : k < ns.length := by
        rw [List.length_map] at hlt
        omega
      refine ⟨_, rfl, _, rfl, a, _, _, V.int ns[k], rfl, rfl, ha, at_of (j := k) rfl (by rw [List.getElem?_map, List.getElem?_eq_getElem hk2]; rfl), ?_⟩
      refine ⟨_, rfl, _, rfl, _, _, rfl, rfl, ⟨by decide, by decide, by decide⟩, _, _, rfl, rfl, _, _, rfl, ?_⟩
      have hm1 := Int.emod_nonneg (if ns[k] < 0 then -ns[k] else ns[k]) (b := 2147483489) (by omega)
      have hm2 := Int.emod_lt_of_pos (if ns[k] < 0 then -ns[k] else ns[k]) (b := 2147483489) (by omega)
      refine ⟨_, rfl, _, rfl, .inl ⟨_, rfl, _, _, rfl, rfl, (by show (0 : Int) < 2147483489; decide), _, _, rfl, rfl, .inl ⟨_, rfl, _, rfl, _, _, rfl, rfl, .inl ⟨by decide, by decide⟩, _, _, rfl, rfl, _, _, rfl, rfl, ⟨by decide, by decide, ?_⟩, _, _, rfl, rfl, .inl ⟨by omega, by omega⟩, _, _, rfl, rfl, (by show (0 : Int) < 2147483423; decide), _, _, rfl, rfl, ?_⟩⟩⟩
      · have : (2 * ((k : Nat) : Int) + 7).natAbs ≤ 100 := by omega
        exact Nat.lt_of_le_of_lt this (by decide)
      refine ⟨(by show 2 ≤ sizeLine; decide), fun l hl => q _ l (sNew (Same.refl H) hl) hl ⟨_, _, upd_same, ?_, ?_, ?_⟩⟩
      · split <;> omega
      · have := Int.emod_nonneg (((if ns[k] < 0 then -ns[k] else ns[k]) % 2147483489 + 1) * (2 * ((k : Nat) : Int) + 7) ^ (3 : Int).toNat) (b := 2147483423) (by omega)
        omega
      · have := Int.emod_lt_of_pos (((if ns[k] < 0 then -ns[k] else ns[k]) % 2147483489 + 1) * (2 * ((k : Nat) : Int) + 7) ^ (3 : Int).toNat) (b := 2147483423) (by omega)
        omega
    · rw [decide_eq_false hlt]
      refine iteF ?_
      refine ⟨_, rfl, _, rfl, _, _, rfl, rfl, ⟨by decide, by decide, by decide⟩, _, _, rfl, rfl, _, _, rfl, ?_⟩
      have hm1 := Int.emod_nonneg (if (17 * ((k : Nat) : Int) + 3) < 0 then -(17 * ((k : Nat) : Int) + 3) else (17 * ((k : Nat) : Int) + 3)) (b := 2147483489) (by omega)
      have hm2 := Int.emod_lt_of_pos (if (17 * ((k : Nat) : Int) + 3) < 0 then -(17 * ((k : Nat) : Int) + 3) else (17 * ((k : Nat) : Int) + 3)) (b := 2147483489) (by omega)
      refine ⟨_, rfl, _, rfl, .inl ⟨_, rfl, _, _, rfl, rfl, (by show (0 : Int) < 2147483489; decide), _, _, rfl, rfl, .inl ⟨_, rfl, _, rfl, _, _, rfl, rfl, .inl ⟨by decide, by decide⟩, _, _, rfl, rfl, _, _, rfl, rfl, ⟨by decide, by decide, ?_⟩, _, _, rfl, rfl, .inl ⟨by omega, by omega⟩, _, _, rfl, rfl, (by show (0 : Int) < 2147483423; decide), _, _, rfl, rfl, ?_⟩⟩⟩
      · have : (2 * ((k : Nat) : Int) + 7).natAbs ≤ 100 := by omega
        exact Nat.lt_of_le_of_lt this (by decide)
      refine ⟨(by show 2 ≤ sizeLine; decide), fun l hl => q _ l (sNew (Same.refl H) hl) hl ⟨_, _, upd_same, ?_, ?_, ?_⟩⟩
      · split <;> omega
      · have := Int.emod_nonneg (((if (17 * ((k : Nat) : Int) + 3) < 0 then -(17 * ((k : Nat) : Int) + 3) else (17 * ((k : Nat) : Int) + 3)) % 2147483489 + 1) * (2 * ((k : Nat) : Int) + 7) ^ (3 : Int).toNat) (b := 2147483423) (by omega)
        omega
      · have := Int.emod_lt_of_pos (((if (17 * ((k : Nat) : Int) + 3) < 0 then -(17 * ((k : Nat) : Int) + 3) else (17 * ((k : Nat) : Int) + 3)) % 2147483489 + 1) * (2 * ((k : Nat) : Int) + 7) ^ (3 : Int).toNat) (b := 2147483423) (by omega)
        omega
/-! ### _law_draw -/
def spDraw : Sp := fun vs H Q _ => ∃ (l : Addr) (many : Int), vs = [.ref l, .int many] ∧ PotAt H l ∧ 1 ≤ many ∧ many ≤ 100000000000000000000 ∧ ∀ (H' : Hp) (d : Int), SameX l H H' → PotAt H' l → 0 ≤ d → d < many → Q (.int d) H'
abbrev nDraw : List Str := ["_law_rng_here", "_law_many", "_law_digit"]
theorem scDraw : FnScope nDraw ["_law_rng_here", "_law_many"] (defScope sDraw) := ⟨rfl, rfl, rfl, by decide +kernel, rfl, by decide +kernel, by decide +kernel⟩
theorem log_many {m : Int} (h1 : 1 ≤ m) (h2 : m ≤ 100000000000000000000) : m.natAbs.log2 < 9000 := Nat.lt_of_lt_of_le (log_of (m := 67) (Nat.lt_of_le_of_lt (show m.natAbs ≤ 100000000000000000000 by omega) (by decide)) (by decide)) (by decide)
theorem ok_draw {f : Addr} {fd : FuncData} (F : Fun K "_law_draw" "_law_draw" sDraw f fd) (T : Bn mg) : FnOk P w K mg base CX0 1 f fd ["_law_rng_here", "_law_many"] spDraw := by
  refine F.ok scDraw (fun vs H Q E h => ?_) (fun cdv A outer s H vs Q E hr h => ?_)
  · obtain ⟨l, many, rfl, _⟩ := h
    rfl
  · obtain ⟨l, many, rfl, ⟨x, y, hl, hx, hy, hy2⟩, m1, m2, q⟩ := h
    refine ⟨_, pss_cons (ps_if (pt_cmpR op_gt (pe_ix ix_list (pv 0) pe_int (fun _ _ => rfl)) pe_int (nomark _))
        (pss_cons (ps_asg (pe_callB call_divmodW (by rfl) T.divmod (by decide +kernel) (pa_cons (pe_ix ix_list (pv 0) pe_int (fun _ _ => rfl)) (pa_cons (pv 1) pa_nil)))
          (pg_tup rfl (pgs_cons (pg_sub (pv 0) pe_int set_list) (pgs_cons (pg_name (i := 2) scDraw.nd rfl (Or.inl rfl)) pgs_nil))))
        (pss_one (ps_ret (pv 2)))) pss_nil)
      (pss_cons (ps_asg (pe_op op_mod (pe_callTy call_int1 (by rfl) T.int (by decide +kernel) (pa_cons (pe_op op_add (pe_op op_mul (pe_ix ix_list (pv 0) pe_int (fun _ _ => rfl)) pe_int) pe_int) pa_nil)) pe_int) (pg_sub (pv 0) pe_int set_list))
      (pss_one (ps_ret (pe_op op_mod (pe_op op_fdiv (pe_op op_mod (pe_callTy call_int1 (by rfl) T.int (by decide +kernel) (pa_cons (pe_op op_mul (pe_ix ix_list (pv 0) pe_int (fun _ _ => rfl)) (pe_ix ix_list (pv 0) pe_int (fun _ _ => rfl))) pa_nil)) pe_int) pe_int) (pv 1))))), ?_⟩
    refine ⟨_, rfl, l, _, _, V.int x, rfl, rfl, SqL.of hl, at_of (j := 0) rfl rfl, _, _, rfl, rfl, _, rfl, ?_⟩
    by_cases hp : x > 0
    · rw [decide_eq_true hp]
      refine iteT ?_
      refine ⟨_, rfl, l, _, _, V.int x, rfl, rfl, SqL.of hl, at_of (j := 0) rfl rfl, _, rfl, _, _, rfl, ⟨by omega, PyProof.noPylong_of_log2 (log_many m1 m2)⟩, fun t ht => ?_⟩
      have s1 := sNew (o := .tup [V.int (x / many), V.int (x % many)]) (Same.refl H) ht
      refine ⟨t, _, rfl, .inl (.inl upd_same), rfl, _, _, rfl, _, rfl, l, _, _, 0, rfl, rfl, old hl ht, rfl, _, _, rfl, rfl, _, rfl, ?_⟩
      have e1 := Int.emod_nonneg x (b := many) (by omega)
      have e2 := Int.emod_lt_of_pos x (b := many) (by omega)
      have e3 : 0 ≤ x / many := Int.ediv_nonneg hx (by omega)
      exact q _ _ (SameX.put (SameX.of s1)) ⟨x / many, y, upd_same, e3, hy, hy2⟩ e1 e2
    · rw [decide_eq_false hp]
      refine iteF ?_
      refine ⟨_, rfl, l, _, _, V.int y, rfl, rfl, SqL.of hl, at_of (j := 1) rfl rfl, _, _, rfl, rfl, .inl ⟨by omega, by omega⟩, _, _, rfl, rfl, .inl ⟨_, rfl, ?_⟩⟩
      refine ⟨_, _, rfl, rfl, (by show (0 : Int) < 2147483399; decide), ?_⟩
      refine ⟨_, rfl, l, _, _, 1, rfl, rfl, hl, rfl, ?_⟩
      have e1 := Int.emod_nonneg (y * 39373 + 28411) (b := 2147483399) (by omega)
      have e2 := Int.emod_lt_of_pos (y * 39373 + 28411) (b := 2147483399) (by omega)
      have h2 : upd H l (.lst ([V.int x, V.int y].set 1 (V.int ((y * 39373 + 28411) % 2147483399)))) l = some (.lst [V.int x, V.int ((y * 39373 + 28411) % 2147483399)]) := upd_same
      have sx : SameX l H (upd H l (.lst ([V.int x, V.int y].set 1 (V.int ((y * 39373 + 28411) % 2147483399))))) := SameX.put (SameX.of (Same.refl H))
      generalize upd H l (.lst ([V.int x, V.int y].set 1 (V.int ((y * 39373 + 28411) % 2147483399)))) = H2 at h2 sx ⊢
      generalize (y * 39373 + 28411) % 2147483399 = z at e1 e2 h2 ⊢
      refine ⟨_, rfl, l, _, _, V.int z, rfl, rfl, SqL.of h2, at_of (j := 1) rfl rfl, _, rfl, l, _, _, V.int z, rfl, rfl, SqL.of h2, at_of (j := 1) rfl rfl, _, _, rfl, rfl, .inl ⟨by omega, by omega⟩, .inl ⟨_, rfl, ?_⟩⟩
      refine ⟨_, _, rfl, rfl, (by show (0 : Int) < 2147483353; decide), _, _, rfl, rfl, ⟨by decide, by decide⟩, _, rfl, _, _, rfl, rfl, (by show (0 : Int) < many; omega), ?_⟩
      exact q _ _ sx ⟨x, z, h2, hx, e1, by omega⟩ (Int.emod_nonneg _ (by omega)) (Int.emod_lt_of_pos _ (by omega))
/-! ### _law_choice -/
def spChoice : Sp := fun vs H Q _ => ∃ (l s : Addr) (xs : List V), vs = [.ref l, .ref s] ∧ PotAt H l ∧ H s = some (.lst xs) ∧ s ≠ l ∧ 1 ≤ xs.length ∧ xs.length ≤ 1000 ∧ ∀ (H' : Hp) (v : V), SameX l H H' → PotAt H' l → v ∈ xs → Q v H'
theorem scChoice : FnScope ["_law_rng_here", "_law_some"] ["_law_rng_here", "_law_some"] (defScope sChoice) := ⟨rfl, rfl, rfl, by decide +kernel, rfl, by decide +kernel, by decide +kernel⟩
theorem ok_choice {f : Addr} {fd : FuncData} (F : Fun K "_law_choice" "_law_choice" sChoice f fd) (T : Bn mg) (DD : Df P w K mg base "_law_draw" ["_law_rng_here", "_law_many"] 1 spDraw) : FnOk P w K mg base CX0 2 f fd ["_law_rng_here", "_law_some"] spChoice := by
  refine F.ok scChoice (fun vs H Q E h => ?_) (fun cdv A outer s H vs Q E hr h => ?_)
  · obtain ⟨l, s, xs, rfl, _⟩ := h
    rfl
  · obtain ⟨l, s, xs, rfl, hp, hs, ne, h1, h2, q⟩ := h
    refine ⟨_, pss_one (ps_ret (pe_ix ix_list (pv 1) (pe_df DD hr (by rfl) (pa_cons (pv 0) (pa_cons (pe_callB call_len_seq (by rfl) T.len PySem.boot_len (pa_cons (pv 1) pa_nil)) pa_nil))) (fun _ _ => rfl))), ?_⟩
    refine ⟨_, rfl, _, rfl, _, rfl, s, _, rfl, .inl (SqL.of hs), l, _, rfl, hp, by omega, by omega, fun H' d sx hp' d0 d1 => ?_⟩
    have hd : d.toNat < xs.length := by omega
    refine ⟨s, xs, d, xs[d.toNat], rfl, rfl, SqL.of (sx _ _ ne hs), at_of (j := d.toNat) (by omega) (List.getElem?_eq_getElem hd), ?_⟩
    exact q H' _ sx hp' (List.getElem_mem hd)
/-! ### _law_coefficient -/
def spCoeff : Sp := fun vs H Q _ => ∃ l : Addr, vs = [.ref l] ∧ PotAt H l ∧ ∀ (H' : Hp) (n : Int), SameX l H H' → PotAt H' l → n.natAbs < 2 ^ 80 → Q (.int n) H'
abbrev nCoeff : List Str := ["_law_rng_here", "_law_small", "_law_great"]
theorem scCoeff : FnScope nCoeff ["_law_rng_here"] (defScope sCoeff) := ⟨rfl, rfl, rfl, by decide +kernel, rfl, by decide +kernel, by decide +kernel⟩
theorem ok_coeff {f : Addr} {fd : FuncData} (F : Fun K "_law_coefficient" "_law_coefficient" sCoeff f fd) (T : Bn mg) (DD : Df P w K mg base "_law_draw" ["_law_rng_here", "_law_many"] 1 spDraw) (DP : Df P w K mg base "_law_choice" ["_law_rng_here", "_law_some"] 2 spChoice) : FnOk P w K mg base CX0 3 f fd ["_law_rng_here"] spCoeff := by
  refine F.ok scCoeff (fun vs H Q E h => ?_) (fun cdv A outer s H vs Q E hr h => ?_)
  · obtain ⟨l, rfl, _⟩ := h
    rfl
  · obtain ⟨l, rfl, hp, q⟩ := h
    have h1 : Room 1 _ := hr.mono (by decide)
    refine ⟨_, pss_cons (ps_set (i := 1) scCoeff.nd rfl (Or.inl rfl) (pe_df DD h1 (by rfl) (pa_cons (pv 0) (pa_cons pe_int pa_nil))))
      (pss_cons (ps_set (i := 2) scCoeff.nd rfl (Or.inl rfl) (pe_op op_add (pe_op op_mul (pe_op op_pow pe_int pe_int) (pe_df DD h1 (by rfl) (pa_cons (pv 0) (pa_cons (pe_op op_pow pe_int pe_int) pa_nil)))) (pe_df DD h1 (by rfl) (pa_cons (pv 0) (pa_cons (pe_op op_pow pe_int pe_int) pa_nil)))))
      (pss_one (ps_ret (pe_df DP hr (by rfl) (pa_cons (pv 0) (pa_cons (pe_lst (pa_cons pe_int (pa_cons pe_int (pa_cons (pe_un un_neg pe_int) (pa_cons (pv 1) (pa_cons (pe_un un_neg (pv 1)) (pa_cons (pv 2) (pa_cons (pe_un un_neg (pv 2)) pa_nil)))))))) pa_nil)))))), ?_⟩
    refine ⟨_, rfl, l, _, rfl, hp, by decide, by decide, fun H1 d sx1 hp1 d0 d1 => ?_⟩
    refine ⟨_, _, rfl, rfl, ⟨by decide, by decide, by decide⟩, _, rfl, _, _, rfl, rfl, ⟨by decide, by decide, by decide⟩, l, _, rfl, hp1, by decide, by decide, fun H2 e sx2 hp2 e0 e1 => ?_⟩
    refine ⟨_, _, rfl, rfl, .inl ⟨by decide, by decide⟩, _, rfl, _, _, rfl, rfl, ⟨by decide, by decide, by decide⟩, l, _, rfl, hp2, by decide, by decide, fun H3 g sx3 hp3 g0 g1 => ?_⟩
    have z12 : (10 : Int) ^ (12 : Int).toNat = 1000000000000 := by decide
    rw [z12] at e1 g1
    refine ⟨_, _, rfl, rfl, ?_⟩
    rw [z12]
    refine ⟨_, rfl, _, rfl, _, rfl, _, rfl, _, rfl, _, rfl, _, rfl, _, rfl, (by show 7 ≤ sizeLine; decide), fun s0 hs0 => ?_⟩
    have s1 := sNew (o := .lst [V.int 0, .int 1, .int (-1), .int d, .int (-d), .int (1000000000000 * e + g), .int (-(1000000000000 * e + g))]) (Same.refl H3) hs0
    refine ⟨l, s0, _, rfl, hp3.same s1, upd_same, hp3.ne hs0, (by show 1 ≤ 7; decide), (by show 7 ≤ 1000; decide), fun H4 v sx4 hp4 hv => ?_⟩
    have sx : SameX l H H4 := SameX.trans sx1 (SameX.trans sx2 (SameX.trans sx3 (SameX.trans (SameX.of s1) sx4)))
    have big : (1000000000000 * e + g).natAbs < 2 ^ 80 := Nat.lt_of_lt_of_le (show (1000000000000 * e + g).natAbs < 1000000000000000000000000 by omega) (by decide)
    have sm : d.natAbs < 2 ^ 80 := Nat.lt_of_lt_of_le (show d.natAbs < 9 by omega) (by decide)
    simp only [List.mem_cons, List.not_mem_nil, or_false] at hv
    rcases hv with rfl | rfl | rfl | rfl | rfl | rfl | rfl
    · exact q H4 _ sx hp4 (by decide)
    · exact q H4 _ sx hp4 (by decide)
    · exact q H4 _ sx hp4 (by decide)
    · exact q H4 _ sx hp4 sm
    · exact q H4 _ sx hp4 (by rw [Int.natAbs_neg]; exact sm)
    · exact q H4 _ sx hp4 big
    · exact q H4 _ sx hp4 (by rw [Int.natAbs_neg]; exact big)
/-! ### _law_row -/
def spRow : Sp := fun vs H Q _ => ∃ l : Addr, vs = [.ref l] ∧ PotAt H l ∧ ∀ (H' : Hp) (p : Addr) (r : List Int), SameX l H H' → PotAt H' l → H p = none → p ≠ l → H' p = some (.lst (r.map V.int)) → Bd 80 r → r.length ≤ 9 → Q (.ref p) H'
abbrev nRow : List Str := ["_law_rng_here", "_law_found", "_law_turn"]
theorem scRow : FnScope nRow ["_law_rng_here"] (defScope sRow) := ⟨rfl, rfl, rfl, by decide +kernel, rfl, by decide +kernel, by decide +kernel⟩
def teRow : TE := tCall spCoeff [] E0 (tCons (tVar 0) tNil)
theorem ok_row {f : Addr} {fd : FuncData} (F : Fun K "_law_row" "_law_row" sRow f fd) (T : Bn mg) (DD : Df P w K mg base "_law_draw" ["_law_rng_here", "_law_many"] 1 spDraw) (DP : Df P w K mg base "_law_choice" ["_law_rng_here", "_law_some"] 2 spChoice) (DC : Df P w K mg base "_law_coefficient" ["_law_rng_here"] 3 spCoeff) : FnOk P w K mg base CX0 4 f fd ["_law_rng_here"] spRow := by
  refine F.ok scRow (fun vs H Q E h => ?_) (fun cdv A outer s H vs Q E hr h => ?_)
  · obtain ⟨l, rfl, _⟩ := h
    rfl
  · obtain ⟨l, rfl, hp, q⟩ := h
    have h1 : Room 1 _ := hr.mono (by decide)
    have h2 : Room 2 _ := hr.mono (by decide)
    refine ⟨_, pss_cons (ps_setLc (i := 1) (own := [("_law_turn", 2)]) (g := gName 2) (tt := tYes) (te := teRow) rfl scRow.nd rfl rfl (sw_true rfl rfl rfl (by decide +kernel))
        (pi_range1 (by rfl) T.range (pa_cons (pe_df DD h1 (by rfl) (pa_cons (pv 0) (pa_cons pe_int pa_nil))) pa_nil))
        (blkOk_by (own := [("_law_turn", 2)]) (N := nRow) (sc := defScope sRow) (by decide +kernel))
        (fun _ _ _ _ _ => pg_name (i := 2) scRow.nd rfl (Or.inl rfl)) (fun _ _ _ _ _ => pts_nil)
        (fun _ _ _ _ _ => pe_df DC hr (by rfl) (pa_cons (pv 0) pa_nil)))
      (pss_one (ps_ret (pe_op op_cat (pv 1) (pe_op op_rep (pe_lst (pa_cons pe_int pa_nil)) (pe_df DP h2 (by rfl) (pa_cons (pv 0) (pa_cons (pe_lst (pa_cons pe_int (pa_cons pe_int (pa_cons pe_int (pa_cons pe_int pa_nil))))) pa_nil))))))), ?_⟩
    refine ⟨_, rfl, l, _, rfl, hp, by decide, by decide, fun H1 d sx1 hp1 d0 d1 => ?_⟩
    refine ⟨d, rfl, by omega, by omega, fun D hD => ?_⟩
    have nD : D ≠ l := hp1.ne hD
    have hD0 : H D = none := sx1.free nD hD
    refine lc_it (walk_range (lo := 0) (n := d.toNat)) (fun i H' => SameX l H H' ∧ PotAt H' l ∧ ∃ r : List Int, r.length = i ∧ Bd 80 r ∧ H' D = some (.lst (r.map V.int))) ⟨SameX.new sx1 hD0, hp1.put nD.symm, [], rfl, (fun a ha => by cases ha), upd_same⟩ (fun _ _ _ _ => trivial) ?_ ?_
    · rintro i x _ H2 hi ⟨sx2, hp2, r, hr1, hb, hD2⟩ ⟨rfl, rfl⟩
      refine ⟨rfl, _, rfl, l, rfl, hp2, fun H3 n sx3 hp3 hn => ?_⟩
      refine ⟨_, sx3 _ _ nD hD2, ?_, SameX.new (SameX.trans sx2 sx3) hD0, hp3.put nD.symm, r ++ [n], by simp [hr1], fun a ha => ?_, by rw [upd_same]; simp⟩
      · rw [List.length_map]
        exact lt_line (by omega)
      · rcases List.mem_append.mp ha with ha | ha
        · exact hb a ha
        · rw [List.mem_singleton.mp ha]; exact hn
    · rintro H2 ⟨sx2, hp2, r, hr1, hb, hD2⟩
      refine ⟨_, rfl, (by show 1 ≤ sizeLine; decide), fun l2 hl2 => ?_⟩
      have s3 := sNew (o := .lst [V.int 0]) (Same.refl H2) hl2
      refine ⟨_, rfl, (by show 4 ≤ sizeLine; decide), fun l4 hl4 => ?_⟩
      have s4 := sNew (o := .lst [V.int 0, .int 0, .int 1, .int 3]) s3 hl4
      have hp4 := hp2.same s4
      have hp3 := hp2.same s3
      have n4 : l4 ≠ l := hp3.ne hl4
      have n2 : l2 ≠ l := hp2.ne hl2
      refine ⟨l, l4, _, rfl, hp4, upd_same, n4, (by show 1 ≤ 4; decide), (by show 4 ≤ 1000; decide), fun H5 v sx5 hp5 hv => ?_⟩
      have key : ∃ z : Nat, v = .int z ∧ z ≤ 3 := by
        simp only [List.mem_cons, List.not_mem_nil, or_false] at hv
        rcases hv with rfl | rfl | rfl | rfl
        · exact ⟨0, rfl, by decide⟩
        · exact ⟨0, rfl, by decide⟩
        · exact ⟨1, rfl, by decide⟩
        · exact ⟨3, rfl, by decide⟩
      obtain ⟨z, rfl, hz⟩ := key
      have e2 := sx5 _ _ n2 (old (upd_same (H := H2) (a := l2) (o := .lst [V.int 0])) hl4)
      have eD := sx5 _ _ nD (s4 _ _ hD2)
      refine ⟨l2, _, _, rfl, rfl, e2, by omega, by omega, by rw [Int.toNat_natCast]; exact le_line (by show 1 * _ ≤ _; omega), fun l6 hl6 => ?_⟩
      rw [Int.toNat_natCast, rep_flat]
      have s6 := sNew (o := .lst ((List.replicate z (0 : Int)).map V.int)) (Same.refl H5) hl6
      refine ⟨D, l6, _, _, rfl, rfl, s6 _ _ eD, upd_same, le_line (by simp only [List.length_map, List.length_replicate]; omega), fun l7 hl7 => ?_⟩
      have s7 := sNew (o := .lst (r.map V.int ++ (List.replicate z (0 : Int)).map V.int)) s6 hl7
      have hp7 := hp5.same s7
      have n7 : l7 ≠ l := (hp5.same s6).ne hl7
      have sx7 : SameX l H (upd (upd H5 l6 (.lst ((List.replicate z (0 : Int)).map V.int))) l7 (.lst (r.map V.int ++ (List.replicate z (0 : Int)).map V.int))) := SameX.same (SameX.trans (SameX.same sx2 s4) sx5) s7
      have f7 : H l7 = none := (SameX.trans (SameX.same sx2 s4) sx5).free n7 (s6.free hl7)
      refine q _ l7 (r ++ List.replicate z 0) sx7 hp7 f7 n7 (by rw [upd_same, List.map_append]) (fun a ha => ?_) (by rw [List.length_append, List.length_replicate, hr1]; omega)
      rcases List.mem_append.mp ha with ha | ha
      · exact hb a ha
      · rw [List.eq_of_mem_replicate ha]; decide
end
end S70

namespace S70
open PySem L2 SR RA TXM
/-! ### rows without zeros at the end -/
theorem drop_zeros : ∀ (k : Nat) (l : List Int), (∀ a, l.head? = some a → a ≠ 0) → (List.replicate k (0 : Int) ++ l).dropWhile (· == 0) = l
  | 0, l, h => by
    cases l with
    | nil => rfl
    | cons a l =>
      have := h a rfl
      show (a :: l).dropWhile (· == 0) = a :: l
      rw [List.dropWhile_cons, if_neg (by simpa using this)]
  | k + 1, l, h => by
    rw [List.replicate_succ, List.cons_append, List.dropWhile_cons, if_pos (by simp), drop_zeros k l h]
theorem trim_of {r c : List Int} {k : Nat} (e : r = c ++ List.replicate k 0) (h : Canon c) : c = trim r := by
  unfold trim
  rw [e, List.reverse_append, List.reverse_replicate, drop_zeros, List.reverse_reverse]
  intro a ha z
  rw [List.head?_reverse] at ha
  exact h (z ▸ ha)
theorem trim_ex (r : List Int) : (∃ k, r = trim r ++ List.replicate k 0) ∧ Canon (trim r) := by
  have key : ∀ l : List Int, (∃ k, l = List.replicate k 0 ++ l.dropWhile (· == 0)) ∧ (l.dropWhile (· == 0)).head? ≠ some 0 := by
    intro l
    induction l with
    | nil => exact ⟨⟨0, rfl⟩, by simp⟩
    | cons a l ih =>
      by_cases ha : a = 0
      · subst ha
        obtain ⟨⟨k, hk⟩, h2⟩ := ih
        rw [List.dropWhile_cons, if_pos (by simp)]
        exact ⟨⟨k + 1, by rw [List.replicate_succ, List.cons_append, ← hk]⟩, h2⟩
      · rw [List.dropWhile_cons, if_neg (by simpa using ha)]
        exact ⟨⟨0, rfl⟩, by simpa using ha⟩
  obtain ⟨⟨k, hk⟩, h2⟩ := key r.reverse
  refine ⟨⟨k, ?_⟩, ?_⟩
  · unfold trim
    have e := congrArg List.reverse hk
    rw [List.reverse_reverse, List.reverse_append, List.reverse_replicate] at e
    exact e
  · unfold Canon trim
    rw [List.getLast?_reverse]
    exact h2
theorem ev_trim (r : List Int) (x : Int) : ev (trim r) x = ev r x := by
  obtain ⟨⟨k, hk⟩, _⟩ := trim_ex r
  have e := ev_append_zeros (trim r) k x
  rw [← hk] at e
  exact e.symm
theorem trim_len (r : List Int) : (trim r).length ≤ r.length := by
  obtain ⟨⟨k, hk⟩, _⟩ := trim_ex r
  have := congrArg List.length hk
  rw [List.length_append] at this
  omega
theorem trim_bd {n : Nat} {r : List Int} (h : Bd n r) : Bd n (trim r) := by
  obtain ⟨⟨k, hk⟩, _⟩ := trim_ex r
  rw [hk] at h
  exact h.append
theorem trim_trim {r : List Int} (h : Canon r) : trim r = r := (trim_of (k := 0) (by simp) h).symm
theorem ev_inj : ∀ (c d : List Int) (N : Int), c.length = d.length → (∀ x, N ≤ x → ev c x = ev d x) → c = d
  | [], [], _, _, _ => rfl
  | [], b :: d, _, h, _ => by simp at h
  | a :: c, [], _, h, _ => by simp at h
  | a :: c, b :: d, N, hl, h => by
    have hab : a = b := by
      have h1 : a + (max N ((a - b).natAbs + 1)) * ev c (max N ((a - b).natAbs + 1)) = b + (max N ((a - b).natAbs + 1)) * ev d (max N ((a - b).natAbs + 1)) := h _ (Int.le_max_left ..)
      generalize hx : max N (((a - b).natAbs : Nat) + 1 : Int) = x at h1
      have hx2 : (((a - b).natAbs : Nat) : Int) + 1 ≤ x := by rw [← hx]; exact Int.le_max_right ..
      have e : a - b = x * (ev d x - ev c x) := by rw [Int.mul_sub]; omega
      generalize ev d x - ev c x = k at e
      by_cases hk : k = 0
      · rw [hk, Int.mul_zero] at e; omega
      · exfalso
        have h3 : (a - b).natAbs = x.natAbs * k.natAbs := by rw [e, Int.natAbs_mul]
        have h4 : x.natAbs * 1 ≤ x.natAbs * k.natAbs := Nat.mul_le_mul (Nat.le_refl _) (by omega)
        omega
    subst hab
    have ht : c = d := by
      refine ev_inj c d (max N 1) (by simpa using hl) fun x hx => ?_
      have h1 : a + x * ev c x = a + x * ev d x := h x (Int.le_trans (Int.le_max_left ..) hx)
      have hx1 : 1 ≤ x := Int.le_trans (Int.le_max_right ..) hx
      have h2 : x * ev c x = x * ev d x := by omega
      exact Int.eq_of_mul_eq_mul_left (by omega) h2
    rw [ht]
theorem trim_ev {r q : List Int} (h : ∀ x, ev r x = ev q x) : trim r = trim q := by
  have c1 := (trim_ex r).2
  have c2 := (trim_ex q).2
  have e : ∀ x, (0 : Int) ≤ x → ev (trim r) x = ev (trim q) x := fun x _ => by rw [ev_trim, ev_trim, h]
  have l1 := canon_len (N := 0) c1 e
  have l2 := canon_len (N := 0) c2 fun x hx => (e x hx).symm
  exact ev_inj _ _ 0 (by omega) e
theorem cut_to (xs : List V) (m : Nat) (h : m ≤ xs.length) : cutV xs none (some (m : Int)) = xs.take m := by
  unfold cutV
  have e1 : HT.sIx xs.length 0 none = 0 := rfl
  have e2 : HT.sIx xs.length xs.length (some (m : Int)) = m := by
    unfold HT.sIx
    simp only
    first | omega | (split <;> omega) | (simp; omega)
  rw [e1, e2]
  simp
section
variable {P : Program} {w : World} {K : PySem.W.Frag} {mg : Str → Option Value} {base : Heap}
/-! ### _law_plain -/
def spPlain (K : PySem.W.Frag) : Sp := fun vs H Q _ => ∃ (a : Addr) (r : List Int), vs = [.ref a] ∧ SqL K H a (r.map V.int) ∧ r.length ≤ 1000 ∧ ∀ (H' : Hp) (p : Addr), Same H H' → H p = none → H' p = some (.lst ((trim r).map V.int)) → Q (.ref p) H'
abbrev nPlain : List Str := ["_law_row_here", "_law_many"]
theorem scPlain : FnScope nPlain ["_law_row_here"] (defScope sPlain) := ⟨rfl, rfl, rfl, by decide +kernel, rfl, by decide +kernel, by decide +kernel⟩
theorem ok_plain {f : Addr} {fd : FuncData} (F : Fun K "_law_plain" "_law_plain" sPlain f fd) (T : Bn mg) : FnOk P w K mg base CX0 1 f fd ["_law_row_here"] (spPlain K) := by
  refine F.ok scPlain (fun vs H Q E h => ?_) (fun cdv A outer s H vs Q E hr h => ?_)
  · obtain ⟨a, r, rfl, _⟩ := h
    rfl
  · obtain ⟨a, r, rfl, ha, hl, q⟩ := h
    refine ⟨_, pss_cons (ps_set (i := 1) scPlain.nd rfl (Or.inl rfl) (pe_callB call_len_seq (by rfl) T.len PySem.boot_len (pa_cons (pv 0) pa_nil)))
      (pss_cons (ps_while PassesOwn.never (PW.pt (pw_and (pt_cmpR op_gt (pv 1) pe_int (nomark _)) (pw_and1 (pt_cmpR op_eq (pe_ix ix_list (pv 0) (pe_op op_sub (pv 1) pe_int) (fun _ _ => rfl)) pe_int (nomark _)))))
        (pss_one (ps_set (i := 1) scPlain.nd rfl (Or.inl rfl) (pe_op op_sub (pv 1) pe_int))))
      (pss_one (ps_ret (pe_slice sl_list (pv 0) po_none (po_some (pv 1)))))), ?_⟩
    refine ⟨_, rfl, a, _, rfl, .inl ha, ?_⟩
    rw [List.length_map]
    refine ⟨fun t σ H' => H = H' ∧ ∃ m : Nat, t = m ∧ σ = [some (.ref a), some (.int m)] ∧ m ≤ r.length ∧ r = r.take m ++ List.replicate (r.length - m) 0, ⟨_, rfl, r.length, rfl, rfl, Nat.le_refl _, by simp⟩, ?_⟩
    rintro m σ _ ⟨rfl, _, rfl, rfl, hm, e⟩
    refine ⟨_, rfl, _, _, rfl, rfl, _, rfl, ?_⟩
    by_cases h0 : ((m : Nat) : Int) > 0
    · rw [decide_eq_true h0]
      refine iteT ?_
      have hm1 : m - 1 < r.length := by omega
      refine ⟨_, rfl, _, rfl, _, _, rfl, rfl, a, _, _, V.int r[m - 1], rfl, rfl, ha, at_of (j := m - 1) (by omega) (by rw [List.getElem?_map, List.getElem?_eq_getElem hm1]; rfl), rfl, _, rfl, ?_⟩
      have et : r.take m = r.take (m - 1) ++ [r[m - 1]] := by
        have : r.take (m - 1 + 1) = r.take (m - 1) ++ [r[m - 1]] := by rw [List.take_add_one, List.getElem?_eq_getElem hm1]; rfl
        rw [show m - 1 + 1 = m by omega] at this
        exact this
      by_cases hz : r[m - 1] = 0
      · rw [decide_eq_true (congrArg V.int hz)]
        refine iteT ?_
        refine ⟨fun σ' H' => H = H' ∧ σ' = [some (.ref a), some (.int ((m - 1 : Nat) : Int))], fun σ' H' ⟨c0, c1⟩ => ⟨m - 1, by omega, c0, m - 1, rfl, c1, by omega, ?_⟩, ?_⟩
        · rw [et, hz, List.append_assoc] at e
          rw [show r.length - (m - 1) = (r.length - m) + 1 by omega, List.replicate_succ]
          exact e
        · refine ⟨_, rfl, _, _, rfl, rfl, rfl, ?_⟩
          show [some (V.ref a), some (V.int (((m : Nat) : Int) - 1))] = _
          rw [show ((m : Nat) : Int) - 1 = ((m - 1 : Nat) : Int) by omega]
      · rw [decide_eq_false (fun z => hz (V.int.inj z))]
        refine iteF ?_
        have hc : Canon (r.take m) := by
          rw [et]
          unfold Canon
          rw [List.getLast?_concat]
          exact fun z => hz (Option.some.inj z)
        refine ⟨_, rfl, _, rfl, _, rfl, _, _, rfl, ha, fun p hp => ?_⟩
        rw [cut_to _ _ (by rw [List.length_map]; exact hm), ← List.map_take, trim_of e hc]
        exact q _ p (sNew (Same.refl H) hp) hp upd_same
    · rw [decide_eq_false h0]
      refine iteF ?_
      have hm0 : m = 0 := by omega
      have hc : Canon (r.take m) := by
        rw [hm0]
        simp [Canon]
      refine ⟨_, rfl, _, rfl, _, rfl, _, _, rfl, ha, fun p hp => ?_⟩
      rw [cut_to _ _ (by rw [List.length_map]; exact hm), ← List.map_take, trim_of e hc]
      exact q _ p (sNew (Same.refl H) hp) hp upd_same
/-! ### _law_value -/
def spValue (K : PySem.W.Frag) : Sp := fun vs H Q _ => ∃ (a : Addr) (r : List Int) (d : Int), vs = [.ref a, .int d] ∧ SqL K H a (r.map V.int) ∧ Bd 80 r ∧ r.length ≤ 20 ∧ d.natAbs < 2 ^ 100 ∧ ∀ H', Same H H' → Q (.int (ev r d)) H'
abbrev nValue : List Str := ["_law_row_here", "_law_place", "_law_found", "_law_power", "_law_one"]
theorem scValue : FnScope nValue ["_law_row_here", "_law_place"] (defScope sValue) := ⟨rfl, rfl, rfl, by decide +kernel, rfl, by decide +kernel, by decide +kernel⟩
theorem ev_snoc : ∀ (r : List Int) (a x : Int), ev (r ++ [a]) x = ev r x + a * x ^ r.length
  | [], a, x => by show a + x * 0 = 0 + a * x ^ 0; rw [Int.pow_zero]; omega
  | b :: r, a, x => by
    show b + x * ev (r ++ [a]) x = b + x * ev r x + a * x ^ (r.length + 1)
    rw [ev_snoc r a x, Int.mul_add, Int.pow_succ]
    grind
theorem pow_abs {d : Int} {m : Nat} (h : d.natAbs < 2 ^ m) : ∀ i : Nat, (d ^ i).natAbs ≤ 2 ^ (m * i)
  | 0 => by simp
  | i + 1 => by
    rw [Int.pow_succ, Int.natAbs_mul, Nat.mul_succ, Nat.pow_add]
    exact Nat.mul_le_mul (pow_abs h i) (Nat.le_of_lt h)
theorem ok_value {f : Addr} {fd : FuncData} (F : Fun K "_law_value" "_law_value" sValue f fd) : FnOk P w K mg base CX0 1 f fd ["_law_row_here", "_law_place"] (spValue K) := by
  refine F.ok scValue (fun vs H Q E h => ?_) (fun cdv A outer s H vs Q E hr h => ?_)
  · obtain ⟨a, r, d, rfl, _⟩ := h
    rfl
  · obtain ⟨a, r, d, rfl, ha, hb, hl, hd, q⟩ := h
    refine ⟨_, pss_cons (ps_asg (pe_tup (pa_cons pe_int (pa_cons pe_int pa_nil))) (pg_tup rfl (pgs_cons (pg_name (i := 2) scValue.nd rfl (Or.inl rfl)) (pgs_cons (pg_name (i := 3) scValue.nd rfl (Or.inl rfl)) pgs_nil))))
      (pss_cons (ps_for PassesOwn.never rfl (pi_list (pv 0)) (pg_name (i := 4) scValue.nd rfl (Or.inl rfl))
        (pss_cons (ps_set (i := 2) scValue.nd rfl (Or.inl rfl) (pe_op op_add (pv 2) (pe_op op_mulW (pv 4) (pv 3))))
        (pss_one (ps_set (i := 3) scValue.nd rfl (Or.inl rfl) (pe_op op_mulW (pv 3) (pv 1))))))
      (pss_one (ps_ret (pv 2)))), ?_⟩
    refine ⟨(by show 2 ≤ sizeLine; decide), fun tp htp => ?_⟩
    have s0 := sNew (o := .tup [V.int 0, V.int 1]) (Same.refl H) htp
    refine ⟨tp, _, rfl, .inl (.inl upd_same), rfl, _, _, rfl, _, _, rfl, rfl, ?_⟩
    generalize upd H tp (.tup [V.int 0, V.int 1]) = H0 at s0 ⊢
    have ha0 := s0.seq ha
    refine ⟨_, rfl, a, rfl, ⟨_, ha0⟩, for_it (walk_list (K := K) (a := a) (xs := r.map V.int)) (fun i σ H' => H0 = H' ∧ i ≤ r.length ∧ ∃ u, σ = [some (.ref a), some (.int d), some (.int (ev (r.take i) d)), some (.int (d ^ i)), u]) ⟨rfl, Nat.zero_le _, none, ?_⟩ (fun i σ H' _ h => h.1 ▸ ha0) ?_ ?_⟩
    · show [some (V.ref a), some (V.int d), some (V.int 0), some (V.int 1), none] = _
      rw [List.take_zero, Int.pow_zero]; rfl
    · rintro i y σ _ _ hi ⟨rfl, hi1, u, rfl⟩ ⟨rfl, hy⟩
      obtain ⟨z, hz, rfl⟩ := map_get hy
      have hi' : i < r.length := by simpa using hi
      have hp : (d ^ i).natAbs < 2 ^ 2001 := Nat.lt_of_le_of_lt (pow_abs hd i) (Nat.pow_lt_pow_right (by decide) (by omega))
      refine ⟨_, rfl, _, rfl, _, rfl, _, _, rfl, rfl, wide_mul (a := 80) (b := 2001) (hb z (List.mem_of_getElem? hz)) hp (by omega) (by omega) (by omega), _, _, rfl, rfl, ?_⟩
      refine ⟨_, rfl, _, rfl, _, _, rfl, rfl, wide_mul (a := 2001) (b := 100) hp hd (by omega) (by omega) (by omega), rfl, by omega, some (.int z), ?_⟩
      rw [Int.pow_succ, List.take_add_one, hz, Option.toList_some, ev_snoc, List.length_take, Nat.min_eq_left (by omega)]
      rfl
    · rintro σ _ ⟨rfl, _, u, rfl⟩
      refine ⟨_, rfl, ?_⟩
      rw [List.take_of_length_le (by simp)]
      exact q _ s0
end
end S70

namespace S70
open PySem L2 SR RA TXM
def byR (b : Int) (q : List Int) : List Int := q.map fun a => b * a
theorem len_byR (b : Int) (q : List Int) : (byR b q).length = q.length := by simp [byR]
theorem pad_by (b : Int) (r q : List Int) : List.zipWith (fun x y => x + b * y) (r ++ List.replicate (max r.length q.length - r.length) 0) (q ++ List.replicate (max r.length q.length - q.length) 0) = addR r (byR b q) := by
  have e := pad_add r (byR b q)
  rw [len_byR] at e
  rw [← e]
  have e2 : byR b q ++ List.replicate (max r.length q.length - q.length) 0 = (q ++ List.replicate (max r.length q.length - q.length) 0).map fun a => b * a := by
    unfold byR
    rw [List.map_append, List.map_replicate, Int.mul_zero]
  rw [e2, List.zipWith_map_right]
theorem by_one (q : List Int) : byR 1 q = q := by
  unfold byR
  have : (fun a : Int => 1 * a) = id := by funext a; simp
  rw [this, List.map_id]
theorem by_neg (q : List Int) : byR (-1) q = oppR q := by
  unfold byR oppR
  congr 1
  funext a
  omega
section
variable {P : Program} {w : World} {K : PySem.W.Frag} {mg : Str → Option Value} {base : Heap}
/-! ### _law_sum -/
def spSum (K : PySem.W.Frag) : Sp := fun vs H Q _ => ∃ (a b : Addr) (r q : List Int) (c : Int), vs = [.ref a, .ref b, .int c] ∧ H a = some (.lst (r.map V.int)) ∧ H b = some (.lst (q.map V.int)) ∧ r.length ≤ 100 ∧ q.length ≤ 100 ∧ Bd 80 q ∧ c.natAbs < 2 ^ 10 ∧
  ∀ H' p, Same H H' → H p = none → H' p = some (.lst ((trim (addR r (byR c q))).map V.int)) → Q (.ref p) H'
abbrev nSum : List Str := ["_law_one", "_law_two", "_law_by", "_law_wide", "_law_first", "_law_second", "_law_left", "_law_right_here"]
theorem scSum : FnScope nSum ["_law_one", "_law_two", "_law_by"] (defScope sSum) := ⟨rfl, rfl, rfl, by decide +kernel, rfl, by decide +kernel, by decide +kernel⟩
def teSum : TE := tOp (rI0 fun i j => .int (i + j)) (tVar 6) (tOp (rI CMulW fun i j => .int (i * j)) (tVar 2) (tVar 7))
theorem ok_sum {f : Addr} {fd : FuncData} (F : Fun K "_law_sum" "_law_sum" sSum f fd) (T : Bn mg) (DP : Df P w K mg base "_law_plain" ["_law_row_here"] 1 (spPlain K)) : FnOk P w K mg base CX0 2 f fd ["_law_one", "_law_two", "_law_by"] (spSum K) := by
  refine F.ok scSum (fun vs H Q E h => ?_) (fun cdv A outer s H vs Q E hr h => ?_)
  · obtain ⟨a, b, r, q, c, rfl, _⟩ := h
    rfl
  · obtain ⟨a, b, r, q, c, rfl, ha, hb, lr, lq, bq, bc, k⟩ := h
    refine ⟨_, pss_cons (ps_set (i := 3) scSum.nd rfl (Or.inl rfl) (pe_callB (call_max2 rfl) (by rfl) T.max (by decide +kernel) (pa_cons (pe_callB call_len_seq (by rfl) T.len PySem.boot_len (pa_cons (pv 0) pa_nil))
        (pa_cons (pe_callB call_len_seq (by rfl) T.len PySem.boot_len (pa_cons (pv 1) pa_nil)) pa_nil))))
      (pss_cons (ps_par (i := 4) (j := 5) (by rfl) scSum.nd rfl rfl (by decide) rfl rfl
        (pa_cons (pe_op op_cat (pv 0) (pe_op op_rep (pe_lst (pa_cons pe_int pa_nil)) (pe_op op_sub (pv 3) (pe_callB call_len_seq (by rfl) T.len PySem.boot_len (pa_cons (pv 0) pa_nil)))))
        (pa_cons (pe_op op_cat (pv 1) (pe_op op_rep (pe_lst (pa_cons pe_int pa_nil)) (pe_op op_sub (pv 3) (pe_callB call_len_seq (by rfl) T.len PySem.boot_len (pa_cons (pv 1) pa_nil))))) pa_nil)) (by rfl))
      (pss_one (ps_ret (pe_df DP hr (by rfl) (pa_cons (pe_lc (own := [("_law_left", 6), ("_law_right_here", 7)]) (g := gTup K 2 (gCons (gName 6) (gCons (gName 7) gNil))) (tt := tYes) (te := teSum) (by rfl) scSum.nd (pi_zip (by rfl) T.zip (pa_cons (pv 4) (pa_cons (pv 5) pa_nil)))
        (blkOk_by (own := [("_law_left", 6), ("_law_right_here", 7)]) (N := nSum) (sc := defScope sSum) (by decide +kernel))
        (fun _ _ _ _ _ => pg_tup rfl (pgs_cons (pg_name (i := 6) scSum.nd rfl (Or.inl rfl)) (pgs_cons (pg_name (i := 7) scSum.nd rfl (Or.inl rfl)) pgs_nil))) (fun _ _ _ _ _ => pts_nil) (fun _ _ _ _ _ => pe_op op_add (pv 6) (pe_op op_mulW (pv 2) (pv 7)))) pa_nil))))), ?_⟩
    refine ⟨_, rfl, a, _, rfl, .inl (SqL.of ha), _, rfl, b, _, rfl, .inl (SqL.of hb), _, _, rfl, ?_⟩
    have hw : (if (((q.map V.int).length : Nat) : Int) > (((r.map V.int).length : Nat) : Int) then (((q.map V.int).length : Nat) : Int) else (((r.map V.int).length : Nat) : Int)) = ((max r.length q.length : Nat) : Int) := by
      simp only [List.length_map]; split <;> omega
    rw [hw]
    refine ⟨_, rfl, (by show 1 ≤ sizeLine; decide), fun l2 h2 => ?_⟩
    have s2 := sNew (o := .lst [V.int 0]) (Same.refl H) h2
    refine ⟨_, rfl, _, rfl, a, _, rfl, .inl (SqL.of (s2 _ _ ha)), _, _, rfl, rfl, ?_⟩
    have hk : (((max r.length q.length : Nat) : Int) - (((r.map V.int).length : Nat) : Int)) = ((max r.length q.length - r.length : Nat) : Int) := by rw [List.length_map]; omega
    refine ⟨l2, _, _, rfl, congrArg V.int hk, upd_same, by omega, by omega, by rw [Int.toNat_natCast]; exact le_line (by show 1 * _ ≤ _; omega), fun l3 h3 => ?_⟩
    rw [Int.toNat_natCast, rep_flat]
    have s3 := sNew (o := .lst ((List.replicate (max r.length q.length - r.length) (0 : Int)).map V.int)) s2 h3
    refine ⟨a, l3, r.map V.int, _, rfl, rfl, s3 _ _ ha, upd_same, le_line (by simp only [List.length_map, List.length_replicate]; omega), fun l4 h4 => ?_⟩
    rw [← List.map_append]
    have s4 := sNew (o := .lst ((r ++ List.replicate (max r.length q.length - r.length) (0 : Int)).map V.int)) s3 h4
    refine ⟨_, rfl, (by show 1 ≤ sizeLine; decide), fun m2 g2 => ?_⟩
    have t2 := sNew (o := .lst [V.int 0]) s4 g2
    refine ⟨_, rfl, _, rfl, b, _, rfl, .inl (SqL.of (t2 _ _ hb)), _, _, rfl, rfl, ?_⟩
    have hk2 : (((max r.length q.length : Nat) : Int) - (((q.map V.int).length : Nat) : Int)) = ((max r.length q.length - q.length : Nat) : Int) := by rw [List.length_map]; omega
    refine ⟨m2, _, _, rfl, congrArg V.int hk2, upd_same, by omega, by omega, by rw [Int.toNat_natCast]; exact le_line (by show 1 * _ ≤ _; omega), fun m3 g3 => ?_⟩
    rw [Int.toNat_natCast, rep_flat]
    have t3 := sNew (o := .lst ((List.replicate (max r.length q.length - q.length) (0 : Int)).map V.int)) t2 g3
    refine ⟨b, m3, q.map V.int, _, rfl, rfl, t3 _ _ hb, upd_same, le_line (by simp only [List.length_map, List.length_replicate]; omega), fun m4 g4 => ?_⟩
    rw [← List.map_append]
    have t4 := sNew (o := .lst ((q ++ List.replicate (max r.length q.length - q.length) (0 : Int)).map V.int)) t3 g4
    refine ⟨_, _, rfl, ?_⟩
    generalize hH4 : upd (upd (upd (upd (upd (upd H l2 (.lst [V.int 0])) l3 _) l4 _) m2 _) m3 _) m4 _ = H4 at t4 ⊢
    have hM4 : SqL K H4 m4 ((q ++ List.replicate (max r.length q.length - q.length) (0 : Int)).map V.int) := by
      rw [← hH4]; exact SqL.of upd_same
    have hL4 : SqL K H4 l4 ((r ++ List.replicate (max r.length q.length - r.length) (0 : Int)).map V.int) := by
      rw [← hH4]; exact SqL.of (old (old (old upd_same g2) g3) g4)
    refine ⟨_, rfl, _, rfl, l4, m4, _, _, rfl, hL4, hM4, fun D hD => ?_⟩
    have e := pad_by c r q
    refine lc_it (walk_zip (K := K) (a := l4) (b := m4) (n := (addR r (byR c q)).length) (by rw [len_addR, len_byR]; simp only [List.length_map, List.length_append, List.length_replicate]; omega))
      (fun i H' => Same H4 H' ∧ H' D = some (.lst (((addR r (byR c q)).take i).map V.int))) ⟨sNew (Same.refl H4) hD, upd_same⟩ (fun i H' _ h => ⟨h.1.seq hL4, h.1.seq hM4⟩) ?_ ?_
    · rintro i x H' _ hi ⟨u1, w1⟩ ⟨TT, x1, x2, rfl, hT, rfl, e1, e2⟩
      obtain ⟨z1, z1e, rfl⟩ := map_get e1
      obtain ⟨z2, z2e, rfl⟩ := map_get e2
      have bz : z2.natAbs < 2 ^ 80 := by
        rcases List.mem_append.mp (List.mem_of_getElem? z2e) with hz | hz
        · exact bq _ hz
        · rw [List.eq_of_mem_replicate hz]; decide
      refine ⟨TT, _, rfl, .inl (.inl upd_same), rfl, _, _, rfl, _, _, rfl, rfl, rfl, ?_⟩
      refine ⟨_, rfl, _, rfl, _, rfl, _, _, rfl, rfl, wide_mul (a := 10) (b := 80) bc bz (by omega) (by omega) (by omega), _, _, rfl, rfl, _, old w1 hT, ?_, sPut (sNew u1 hT) hD, ?_⟩
      · rw [len_addR, len_byR] at hi
        simp only [List.length_map, List.length_take]
        exact lt_line (by omega)
      · rw [upd_same]
        congr 2
        refine take_succ_map (f := V.int) ?_
        rw [← e, List.getElem?_zipWith, z1e, z2e]
    · rintro H' ⟨u1, w1⟩
      rw [List.take_of_length_le (Nat.le_refl _)] at w1
      refine ⟨D, _, rfl, SqL.of w1, by rw [len_addR, len_byR]; omega, fun H5 p s5 hp hp5 => ?_⟩
      exact k H5 p (Same.trans t4 (Same.trans u1 s5)) (t4.free (u1.free hp)) hp5
end
end S70

namespace S70
open PySem L2 SR RA TXM
theorem ixn_nat {n j : Nat} (hj : j < n) : ixN n (j : Int) = some j := by
  unfold ixN
  rw [if_pos (by omega), if_pos (by omega)]
  simp
theorem ev_set : ∀ (l : List Int) (k : Nat) (a d x : Int), l[k]? = some a → ev (l.set k (a + d)) x = ev l x + d * x ^ k
  | [], k, a, d, x, h => by simp at h
  | b :: l, 0, a, d, x, h => by
    obtain rfl : b = a := by simpa using h
    show b + d + x * ev l x = b + x * ev l x + d * x ^ 0
    rw [Int.pow_zero]; omega
  | b :: l, k + 1, a, d, x, h => by
    show b + x * ev (l.set k (a + d)) x = b + x * ev l x + d * x ^ (k + 1)
    rw [ev_set l k a d x (by simpa using h), Int.pow_succ, Int.mul_add]
    grind
theorem ev_zeros (n : Nat) (x : Int) : ev (List.replicate n 0) x = 0 := by
  have h := ev_append_zeros [] n x
  rw [List.nil_append] at h
  exact h
theorem take_ev {r : List Int} {i : Nat} {a x : Int} (h : r[i]? = some a) : ev (r.take (i + 1)) x = ev (r.take i) x + a * x ^ i := by
  have hi := (List.getElem?_eq_some_iff.mp h).1
  rw [List.take_add_one, h, Option.toList_some, ev_snoc, List.length_take, Nat.min_eq_left (by omega)]
section
variable {P : Program} {w : World} {K : PySem.W.Frag} {mg : Str → Option Value} {base : Heap}
/-! ### _law_product -/
def spProd (K : PySem.W.Frag) : Sp := fun vs H Q _ => ∃ (a b : Addr) (r q : List Int), vs = [.ref a, .ref b] ∧ SqL K H a (r.map V.int) ∧ SqL K H b (q.map V.int) ∧ r.length ≤ 100 ∧ q.length ≤ 100 ∧ Bd 80 r ∧ Bd 80 q ∧
  ∀ H' p, Same H H' → H p = none → H' p = some (.lst ((trim (mulR r q)).map V.int)) → Q (.ref p) H'
abbrev nProd : List Str := ["_law_one", "_law_two", "_law_found", "_law_low", "_law_left", "_law_high", "_law_right_here"]
theorem scProd : FnScope nProd ["_law_one", "_law_two"] (defScope sProd) := ⟨rfl, rfl, rfl, by decide +kernel, rfl, by decide +kernel, by decide +kernel⟩
theorem ok_prod {f : Addr} {fd : FuncData} (F : Fun K "_law_product" "_law_product" sProd f fd) (T : Bn mg) (DP : Df P w K mg base "_law_plain" ["_law_row_here"] 1 (spPlain K)) : FnOk P w K mg base CX0 2 f fd ["_law_one", "_law_two"] (spProd K) := by
  refine F.ok scProd (fun vs H Q E h => ?_) (fun cdv A outer s H vs Q E hr h => ?_)
  · obtain ⟨a, b, r, q, rfl, _⟩ := h
    rfl
  · obtain ⟨a, b, r, q, rfl, ha, hb, lr, lq, br, bq, k⟩ := h
    refine ⟨_, pss_cons (ps_set (i := 2) scProd.nd rfl (Or.inl rfl) (pe_op op_rep (pe_lst (pa_cons pe_int pa_nil)) (pe_op op_add (pe_callB call_len_seq (by rfl) T.len PySem.boot_len (pa_cons (pv 0) pa_nil)) (pe_callB call_len_seq (by rfl) T.len PySem.boot_len (pa_cons (pv 1) pa_nil)))))
      (pss_cons (ps_for PassesOwn.never rfl (pi_enum (by rfl) T.enum (pa_cons (pv 0) pa_nil)) (pg_tup rfl (pgs_cons (pg_name (i := 3) scProd.nd rfl (Or.inl rfl)) (pgs_cons (pg_name (i := 4) scProd.nd rfl (Or.inl rfl)) pgs_nil)))
        (pss_one (ps_for PassesOwn.never rfl (pi_enum (by rfl) T.enum (pa_cons (pv 1) pa_nil)) (pg_tup rfl (pgs_cons (pg_name (i := 5) scProd.nd rfl (Or.inl rfl)) (pgs_cons (pg_name (i := 6) scProd.nd rfl (Or.inl rfl)) pgs_nil)))
          (pss_one (ps_asg (pe_op op_add (pe_ix ix_list (pv 2) (pe_op op_add (pv 3) (pv 5)) (fun _ _ => rfl)) (pe_op op_mulW (pv 4) (pv 6))) (pg_sub (pv 2) (pe_op op_add (pv 3) (pv 5)) set_list))))))
      (pss_one (ps_ret (pe_df DP hr (by rfl) (pa_cons (pv 2) pa_nil))))), ?_⟩
    refine ⟨(by show 1 ≤ sizeLine; decide), fun l2 h2 => ?_⟩
    have s2 := sNew (o := .lst [V.int 0]) (Same.refl H) h2
    refine ⟨_, rfl, a, _, rfl, .inl (s2.seq ha), _, rfl, b, _, rfl, .inl (s2.seq hb), _, _, rfl, rfl, ?_⟩
    have hk : ((((r.map V.int).length : Nat) : Int) + (((q.map V.int).length : Nat) : Int)) = ((r.length + q.length : Nat) : Int) := by rw [List.length_map, List.length_map]; omega
    refine ⟨l2, _, _, rfl, congrArg V.int hk, upd_same, by omega, by omega, by rw [Int.toNat_natCast]; exact le_line (by show 1 * _ ≤ _; omega), fun D hD => ?_⟩
    rw [Int.toNat_natCast, rep_flat]
    have s3 := sNew (o := .lst ((List.replicate (r.length + q.length) (0 : Int)).map V.int)) s2 hD
    have hD0 : H D = none := s2.free hD
    refine ⟨_, rfl, a, _, rfl, s3.seq ha, for_it (walk_enum (K := K) (a := a) (xs := r.map V.int)) (fun i σ H' => Same H H' ∧ ∃ l u v x y, l.length = r.length + q.length ∧ H' D = some (.lst (l.map V.int)) ∧ (∀ x, ev l x = ev (r.take i) x * ev q x) ∧ σ = [some (.ref a), some (.ref b), some (.ref D), u, v, x, y])
      ⟨s3, List.replicate (r.length + q.length) 0, none, none, none, none, by simp, upd_same, fun x => by rw [ev_zeros, List.take_zero]; show 0 = 0 * _; omega, rfl⟩ (fun i σ H' _ h => h.1.seq ha) ?_ ?_⟩
    · rintro i z σ H1 _ hi ⟨s4, l, u, v, x, y, hl, hDl, hev, rfl⟩ ⟨TT, x1, x2, rfl, hT, rfl, e1, e2⟩
      obtain rfl : V.int (i : Nat) = x1 := Option.some.inj e1
      obtain ⟨z1, z1e, rfl⟩ := map_get e2
      have hi' : i < r.length := by simpa using hi
      refine ⟨TT, _, rfl, .inl (.inl upd_same), rfl, _, _, rfl, _, _, rfl, rfl, ?_⟩
      have s5 := sNew (o := .tup [V.int (i : Nat), V.int z1]) s4 hT
      refine ⟨_, rfl, b, _, rfl, s5.seq hb, for_it (walk_enum (K := K) (a := b) (xs := q.map V.int)) (fun j σ H' => Same H H' ∧ ∃ l x y, l.length = r.length + q.length ∧ H' D = some (.lst (l.map V.int)) ∧ (∀ x, ev l x = ev (r.take i) x * ev q x + z1 * x ^ i * ev (q.take j) x) ∧ σ = [some (.ref a), some (.ref b), some (.ref D), some (.int (i : Nat)), some (.int z1), x, y])
        ⟨s5, l, x, y, hl, old hDl hT, fun x => by rw [hev, List.take_zero]; show _ = _ + z1 * x ^ i * 0; omega, rfl⟩ (fun i σ H' _ h => h.1.seq hb) ?_ ?_⟩
      · rintro j z σ H2 _ hj ⟨s6, l, x, y, hl, hDl, hev, rfl⟩ ⟨T2, x1, x2, rfl, hT2, rfl, e1, e2⟩
        obtain rfl : V.int (j : Nat) = x1 := Option.some.inj e1
        obtain ⟨z2, z2e, rfl⟩ := map_get e2
        have hj' : j < q.length := by simpa using hj
        have hij : i + j < l.length := by omega
        have s7 := sNew (o := .tup [V.int (j : Nat), V.int z2]) s6 hT2
        have hDl2 := old (o := .tup [V.int (j : Nat), V.int z2]) hDl hT2
        refine ⟨T2, _, rfl, .inl (.inl upd_same), rfl, _, _, rfl, _, _, rfl, rfl, ?_⟩
        refine ⟨_, rfl, _, rfl, _, rfl, _, _, rfl, rfl, D, _, _, V.int l[i + j], rfl, rfl, SqL.of hDl2, at_of (j := i + j) (by omega) (by rw [List.getElem?_map, List.getElem?_eq_getElem hij]; rfl), ?_⟩
        refine ⟨_, rfl, _, rfl, _, _, rfl, rfl, wide_mul (a := 80) (b := 80) (br _ (List.mem_of_getElem? z1e)) (bq _ (List.mem_of_getElem? z2e)) (by omega) (by omega) (by omega), _, _, rfl, rfl, ?_⟩
        refine ⟨_, rfl, _, rfl, _, rfl, _, _, rfl, rfl, D, _, _, i + j, rfl, rfl, hDl2, ?_, ?_⟩
        · rw [show ((i : Nat) : Int) + ((j : Nat) : Int) = ((i + j : Nat) : Int) by omega]
          exact ixn_nat (by rw [List.length_map]; exact hij)
        · refine ⟨sPut s7 hD0, l.set (i + j) (l[i + j] + z1 * z2), _, _, by rw [List.length_set]; exact hl, ?_, fun x => ?_, rfl⟩
          · rw [upd_same, List.map_set]
          · rw [ev_set l (i + j) _ _ x (List.getElem?_eq_getElem hij), hev, take_ev z2e, Int.pow_add]
            grind
      · rintro σ H2 ⟨s6, l, x, y, hl, hDl, hev, rfl⟩
        refine ⟨s6, l, _, _, _, _, hl, hDl, fun x => ?_, rfl⟩
        have e := hev x
        rw [List.take_of_length_le (l := q) (by rw [List.length_map]; exact Nat.le_refl _)] at e
        rw [e, take_ev z1e]
        generalize ev (r.take i) x = R
        generalize ev q x = S
        generalize x ^ i = Z
        grind
    · rintro σ H1 ⟨s4, l, u, v, x, y, hl, hDl, hev, rfl⟩
      refine ⟨_, rfl, D, l, rfl, SqL.of hDl, by omega, fun H5 p s5 hp hp5 => k H5 p (Same.trans s4 s5) (s4.free hp) ?_⟩
      rw [hp5]
      congr 3
      refine trim_ev fun x => ?_
      rw [hev, List.take_of_length_le (by simp), ev_mulR]
end
end S70

namespace S70
open PySem L2 SR RA TXM
/-- the words of the law: [c, its text] -/
def Wds (H : Hp) (xs : List V) (ws : List (Int × Nat)) : Prop := xs.length = ws.length ∧ ∀ (i : Nat) (c : Int) (e : Nat), ws[i]? = some (c, e) → ∃ p : Addr, xs[i]? = some (V.ref p) ∧ H p = some (.lst [.int c, .str (pieceT c e)])
theorem Wds.same {H H' : Hp} {xs : List V} {ws : List (Int × Nat)} (s : Same H H') (h : Wds H xs ws) : Wds H' xs ws := ⟨h.1, fun i c e hi => by
  obtain ⟨p, h1, h2⟩ := h.2 i c e hi
  exact ⟨p, h1, s _ _ h2⟩⟩
theorem Wds.but {H : Hp} {D : Addr} {o : HO} {xs : List V} {ws : List (Int × Nat)} (hD : H D = some (.lst xs)) (h : Wds H xs ws) : Wds (upd H D o) xs ws := ⟨h.1, fun i c e hi => by
  obtain ⟨p, h1, h2⟩ := h.2 i c e hi
  refine ⟨p, h1, ?_⟩
  rw [upd_ne, h2]
  intro z
  rw [z, hD] at h2
  cases h2
  match i, h1 with
  | 0, h1 => cases h1
  | 1, h1 => cases h1
  | n + 2, h1 => simp at h1⟩
theorem Wds.snoc {H : Hp} {xs : List V} {ws : List (Int × Nat)} {p : Addr} {c : Int} {e : Nat} (h : Wds H xs ws) (hp : H p = some (.lst [.int c, .str (pieceT c e)])) : Wds H (xs ++ [.ref p]) (ws ++ [(c, e)]) := ⟨by simp [h.1], fun i c' e' hi => by
  by_cases hl : i < ws.length
  · rw [List.getElem?_append_left hl] at hi
    obtain ⟨q, h1, h2⟩ := h.2 i c' e' hi
    exact ⟨q, by rw [List.getElem?_append_left (by rw [h.1]; exact hl)]; exact h1, h2⟩
  · have hi2 : i = ws.length := by
      have := (List.getElem?_eq_some_iff.mp hi).1
      rw [List.length_append] at this
      simp only [List.length_cons, List.length_nil] at this
      omega
    subst hi2
    rw [List.getElem?_append_right (Nat.le_refl _), Nat.sub_self] at hi
    obtain ⟨rfl, rfl⟩ : c = c' ∧ e = e' := by simpa using hi
    exact ⟨p, by rw [← h.1, List.getElem?_append_right (Nat.le_refl _), Nat.sub_self]; rfl, hp⟩⟩
theorem Wds.rev {H : Hp} {xs : List V} {ws : List (Int × Nat)} (h : Wds H xs ws) : Wds H xs.reverse ws.reverse := ⟨by simp [h.1], fun i c e hi => by
  have hl := (List.getElem?_eq_some_iff.mp hi).1
  rw [List.length_reverse] at hl
  rw [List.getElem?_reverse hl] at hi
  obtain ⟨p, h1, h2⟩ := h.2 _ c e hi
  exact ⟨p, by rw [List.getElem?_reverse (by rw [h.1]; exact hl), h.1]; exact h1, h2⟩⟩
def dWd (ws : List (Int × Nat)) : PyData := .list (ws.map fun p => .list [.int p.1, .str (pieceT p.1 p.2)])
theorem dp_wds {K : PySem.W.Frag} {H : Hp} : ∀ (xs : List V) (ws : List (Int × Nat)), Wds H xs ws → DpAll K H xs (ws.map fun p => .list [.int p.1, .str (pieceT p.1 p.2)])
  | [], [], _ => .nil
  | [], w :: ws, h => by have := h.1; simp at this
  | x :: xs, [], h => by have := h.1; simp at this
  | x :: xs, (c, e) :: ws, h => by
    obtain ⟨p, h1, h2⟩ := h.2 0 c e rfl
    obtain rfl : x = .ref p := by simpa using h1
    refine .cons (.lst (SqL.of h2) (.cons (.int c) (.cons (.str _) .nil))) (dp_wds xs ws ⟨by simpa using h.1, fun i c e hi => ?_⟩)
    obtain ⟨q, g1, g2⟩ := h.2 (i + 1) c e (by simpa using hi)
    exact ⟨q, by simpa using g1, g2⟩
theorem lay_wds : ∀ ws : List (Int × Nat), PyData.canLayAll0 (ws.map fun p => .list [.int p.1, .str (pieceT p.1 p.2)]) = true
  | [] => rfl
  | (c, e) :: ws => by
    show ((true && (PyData.strOk (pieceT c e) && true)) && PyData.canLayAll0 (ws.map _)) = true
    have h1 := lay_txs [pieceT c e] (fun x hx => by rw [List.mem_singleton.mp hx]; exact low_piece c e)
    have h2 : (PyData.strOk (pieceT c e) && true) = true := h1
    rw [h2, lay_wds ws]; rfl
theorem depth_wds : ∀ ws : List (Int × Nat), PyData.depthAll (ws.map fun p => .list [.int p.1, .str (pieceT p.1 p.2)]) ≤ 1
  | [] => Nat.zero_le _
  | (c, e) :: ws => by
    show max (max 0 (max 0 0) + 1) (PyData.depthAll (ws.map _)) ≤ 1
    have := depth_wds ws
    omega
theorem sh_wd (ws : List (Int × Nat)) : SeqAt.shaped (dWd ws) = true := by
  show (PyData.canLayAll0 (ws.map _) && decide (PyData.depthAll (ws.map _) + 1 ≤ 64)) = true
  rw [lay_wds]
  have := depth_wds ws
  simp only [Bool.true_and, decide_eq_true_eq]
  omega
theorem wd_nil (ws : List (Int × Nat)) : PyData.eqv (dWd ws) (dWd []) = decide (ws = []) := by
  cases ws with
  | nil => rfl
  | cons a r => rfl
theorem at_b {x y : V} (b : Bool) : atI [x, y] (if b = true then 1 else 0) = some (if b = true then y else x) := by cases b <;> rfl
def ascT (r : List Int) (i : Nat) : List (Int × Nat) := (r.zipIdx.take i).filter fun p => decide (p.1 ≠ 0)
theorem ascT_succ {r : List Int} {i : Nat} {c : Int} (h : r[i]? = some c) : ascT r (i + 1) = ascT r i ++ if c ≠ 0 then [(c, i)] else [] := by
  unfold ascT
  have e : r.zipIdx[i]? = some (c, i) := by rw [List.getElem?_zipIdx, h]; simp
  rw [List.take_add_one, e, Option.toList_some, List.filter_append]
  congr 1
  by_cases hc : c = 0
  · rw [if_neg (by simp [hc])]; simp [hc]
  · rw [if_pos hc]; simp [hc]
theorem ascT_all {r : List Int} {i : Nat} (h : r.length ≤ i) : ascT r i = terms r := by
  unfold ascT terms
  rw [List.take_of_length_le (by rw [List.length_zipIdx]; exact h)]
theorem ascT_len (r : List Int) (i : Nat) : (ascT r i).length ≤ i := by
  unfold ascT
  exact Nat.le_trans (List.length_filter_le ..) (by rw [List.length_take]; omega)
end S70

namespace S70
open PySem L2 SR RA TXM
theorem str_if {b : Bool} {x y : Str} : (if b = true then V.str y else V.str x) = V.str (if b = true then y else x) := by cases b <;> rfl
theorem name_eq (k : Nat) : (if decide (((k : Nat) : Int) > 0) = true then ("d" : Str) else ("" : Str)) ++ (if decide (((k : Nat) : Int) > 1) = true then ("^" : Str) ++ Str.ofString (toString ((k : Nat) : Int)) else ("" : Str)) = nameT k := by
  show (if decide (((k : Nat) : Int) > 0) = true then ("d" : Str) else ("" : Str)) ++ (if decide (((k : Nat) : Int) > 1) = true then ("^" : Str) ++ tx k else ("" : Str)) = nameT k
  unfold nameT
  have e1 : (decide (((k : Nat) : Int) > 0) = true) = (k > 0) := by simp
  have e2 : (decide (((k : Nat) : Int) > 1) = true) = (k > 1) := by
    simp only [decide_eq_true_eq, eq_iff_iff]
    omega
  simp only [e1, e2]
theorem hat_len : (("^" : Str)).length = 1 := rfl
theorem name_len {k : Nat} (h : (tx k).length ≤ 2000) : (nameT k).length ≤ 2002 := by
  unfold nameT
  rw [strLen_append]
  have h1 : (if k > 0 then ("d" : Str) else ("" : Str)).length ≤ 1 := by split <;> decide +kernel
  have h2 : (if k > 1 then ("^" : Str) ++ tx k else ("" : Str)).length ≤ 2001 := by
    split
    · rw [strLen_append, hat_len]; omega
    · exact Nat.le_trans (m := 0) (by decide +kernel) (by omega)
  omega
/-- the first loop -/
structure AscAt (H0 H : Hp) (D : Addr) (r : List Int) (i : Nat) : Prop where
  sm : Same H0 H
  ex : ∃ xs, H D = some (.lst xs) ∧ Wds H xs (ascT r i)
def tName : TE := fun σ H Q => ∃ k : Nat, σ[2]? = some (some (.int k)) ∧ ((k : Nat) : Int).natAbs < 2 ^ 1900 ∧ ∀ H', Same H H' → Q (.str (nameT k)) H'
def tFront : TE := fun σ H Q => ∃ (k : Nat) (c : Int), σ[2]? = some (some (.int k)) ∧ σ[3]? = some (some (.int c)) ∧ ((c.natAbs : Nat) : Int).natAbs < 2 ^ 1900 ∧ Q (.str (if c.natAbs = 1 ∧ k > 0 then ("" : Str) else tx c.natAbs)) H
def tSign (x y : Str) : TE := fun σ H Q => ∃ c : Int, σ[3]? = some (some (.int c)) ∧ ∀ H', Same H H' → Q (.str (if c < 0 then y else x)) H'
def tFnd : TE := fun σ H Q => ∃ (c : Int) (fnd wd : Str), σ[3]? = some (some (.int c)) ∧ σ[6]? = some (some (.str fnd)) ∧ σ[7]? = some (some (.str wd)) ∧ σ[8]? = some (some (.str (if c < 0 then ("-" : Str) else ("+" : Str)))) ∧ fnd.length ≤ 1000000 ∧ wd.length ≤ 10000 ∧ ∀ H', Same H H' → Q (.str (fnd ++ frontT (decide (fnd = Str.empty)) c ++ wd)) H'
theorem sign_len (c : Int) : (if c < 0 then ("-" : Str) else ("+" : Str)).length = 1 := by split <;> rfl
theorem front_of (c : Int) : (" " : Str) ++ (if c < 0 then ("-" : Str) else ("+" : Str)) ++ (" " : Str) = frontT false c := by
  unfold frontT
  by_cases h : c < 0
  · rw [if_pos h]
    simp only [h, if_true, Bool.false_eq_true, if_false]
    decide +kernel
  · rw [if_neg h]
    simp only [h, Bool.false_eq_true, if_false]
    decide +kernel
theorem e_str : ("" : Str) = Str.empty := rfl
theorem dec_lt (c : Int) {x y : Str} : (if decide (c < 0) = true then y else x) = if c < 0 then y else x := by by_cases h : c < 0 <;> simp [h]
section
variable {P : Program} {w : World} {K : PySem.W.Frag} {mg : Str → Option Value} {base : Heap}
/-! ### _law_text -/
def spText (K : PySem.W.Frag) : Sp := fun vs H Q _ => ∃ (a : Addr) (r : List Int), vs = [.ref a] ∧ SqL K H a (r.map V.int) ∧ Bd 1900 r ∧ r.length ≤ 100 ∧ ∀ H', Same H H' → Q (.str (textT r)) H'
abbrev nText : List Str := ["_law_row_here", "_law_words", "_law_k", "_law_one", "_law_name", "_law_front", "_law_found", "_law_word", "_law_sign"]
theorem scText : FnScope nText ["_law_row_here"] (defScope sText) := ⟨rfl, rfl, rfl, by decide +kernel, rfl, by decide +kernel, by decide +kernel⟩
theorem ok_text {f : Addr} {fd : FuncData} (F : Fun K "_law_text" "_law_text" sText f fd) (T : Bn mg) : FnOk P w K mg base CX0 1 f fd ["_law_row_here"] (spText K) := by
  refine F.ok scText (fun vs H Q E h => ?_) (fun cdv A outer s H vs Q E hr h => ?_)
  · obtain ⟨a, r, rfl, _⟩ := h
    rfl
  · obtain ⟨a, r, rfl, ha, hb, hl, q⟩ := h
    have sl : sizeLine = 16777216 := sizeLine_eq
    refine' ⟨_, pss_cons (ps_set (i := 1) scText.nd rfl (Or.inl rfl) (pe_lst pa_nil))
      (pss_cons (ps_for PassesOwn.never rfl (pi_enum (by rfl) T.enum (pa_cons (pv 0) pa_nil)) (pg_tup rfl (pgs_cons (pg_name (i := 2) scText.nd rfl (Or.inl rfl)) (pgs_cons (pg_name (i := 3) scText.nd rfl (Or.inl rfl)) pgs_nil)))
        (pss_cons (ps_set (i := 4) scText.nd rfl (Or.inl rfl) (PE.imp (t' := tName) (pe_op op_add_str
          (pe_ix ix_list (pe_lst (pa_cons pe_str (pa_cons pe_str pa_nil))) (pe_callTy call_int1 (by rfl) T.int (by decide +kernel) (pa_cons (pe_cmpR op_gt (pv 2) pe_int (nomark _)) pa_nil)) (fun _ _ => rfl))
          (pe_ix ix_list (pe_lst (pa_cons pe_str (pa_cons (pe_op op_add_str pe_str (pe_callTy call_str_int (by rfl) T.str (by decide +kernel) (pa_cons (pv 2) pa_nil))) pa_nil))) (pe_callTy call_int1 (by rfl) T.int (by decide +kernel) (pa_cons (pe_cmpR op_gt (pv 2) pe_int (nomark _)) pa_nil)) (fun _ _ => rfl))) ?rName))
        (pss_cons (ps_set (i := 5) scText.nd rfl (Or.inl rfl) (PE.imp (t' := tFront) (pe_ifExp (PW.pt (pw_and (pt_cmpR op_eq (pe_callB call_abs (by rfl) T.abs (by decide +kernel) (pa_cons (pv 3) pa_nil)) pe_int (nomark _)) (pw_and1 (pt_cmpR op_gt (pv 2) pe_int (nomark _))))) pe_str (pe_callTy call_str_int (by rfl) T.str (by decide +kernel) (pa_cons (pe_callB call_abs (by rfl) T.abs (by decide +kernel) (pa_cons (pv 3) pa_nil)) pa_nil))) ?rFront))
        (pss_one (ps_if (pt_cmpR op_ne (pv 3) pe_int (nomark _)) (pss_one (ps_expr (pe_bm PySem.F.plainAttrs_list PySem.F.slot_list_append PySem.F.type_list_append mt_append (pv 1) (pa_cons (pe_lst (pa_cons (pv 3) (pa_cons (pe_strip (pe_op op_add_str (pe_op op_add_str (pv 5) pe_str) (pv 4))) pa_nil))) pa_nil)))) pss_nil)))))
      (pss_cons (ps_set (i := 6) scText.nd rfl (Or.inl rfl) pe_str)
      (pss_cons (ps_for PassesOwn.never rfl (pi_list (pe_revL (pv 1))) (pg_tupL rfl (pgs_cons (pg_name (i := 3) scText.nd rfl (Or.inl rfl)) (pgs_cons (pg_name (i := 7) scText.nd rfl (Or.inl rfl)) pgs_nil)))
        (pss_cons (ps_set (i := 8) scText.nd rfl (Or.inl rfl) (PE.imp (t' := tSign "+" "-") (pe_ix ix_list (pe_lst (pa_cons pe_str (pa_cons pe_str pa_nil))) (pe_callTy call_int1 (by rfl) T.int (by decide +kernel) (pa_cons (pe_cmpR op_lt (pv 3) pe_int (nomark _)) pa_nil)) (fun _ _ => rfl)) ?rSign))
        (pss_one (ps_set (i := 6) scText.nd rfl (Or.inl rfl) (PE.imp (t' := tFnd) (pe_op op_add_str (pe_op op_add_str (pv 6) (pe_ifExp (pt_cmpR op_ne (pv 6) pe_str (nomark _)) (pe_op op_add_str (pe_op op_add_str pe_str (pv 8)) pe_str)
          (pe_ix ix_list (pe_lst (pa_cons pe_str (pa_cons pe_str pa_nil))) (pe_callTy call_int1 (by rfl) T.int (by decide +kernel) (pa_cons (pe_cmpR op_lt (pv 3) pe_int (nomark _)) pa_nil)) (fun _ _ => rfl)))) (pv 7)) ?rFnd)))))
      (pss_one (ps_ret (pe_ifExp (pt_cmpR (op_neD hr.units) (pv 1) (pe_lst pa_nil) (nomark _)) (pv 6) pe_str)))))), ?go⟩
    case rName =>
      rintro σ H Q ⟨k, h2, bk, q⟩
      have l1 := len_tx bk
      refine ⟨(by show 2 ≤ sizeLine; decide), fun p1 h1 => ?_⟩
      have s3 := sNew (o := .lst [V.str "", V.str "d"]) (Same.refl H) h1
      refine ⟨_, h2, _, _, rfl, rfl, .inr ⟨_, rfl, p1, _, _, _, rfl, rfl, SqL.of upd_same, at_b _, ?_⟩⟩
      refine ⟨_, h2, _, rfl, log_ok bk, _, _, rfl, rfl, ?_, (by show 2 ≤ sizeLine; decide), fun p2 h3 => ?_⟩
      · show (("^" : Str)).length + (tx k).length ≤ _
        rw [hat_len]; omega
      refine ⟨_, h2, _, _, rfl, rfl, .inr ⟨_, rfl, p2, _, _, _, rfl, rfl, SqL.of upd_same, at_b _, _, _, str_if, str_if, ?_, ?_⟩⟩
      · have h4 : (if decide (((k : Nat) : Int) > 0) = true then ("d" : Str) else ("" : Str)).length ≤ 1 := by split <;> decide +kernel
        have h5 : (if decide (((k : Nat) : Int) > 1) = true then ("^" : Str) ++ tx k else ("" : Str)).length ≤ 2001 := by
          split
          · rw [strLen_append, hat_len]; omega
          · exact Nat.le_trans (m := 0) (by decide +kernel) (by omega)
        show (if decide (((k : Nat) : Int) > 0) = true then ("d" : Str) else ("" : Str)).length + (if decide (((k : Nat) : Int) > 1) = true then ("^" : Str) ++ tx k else ("" : Str)).length ≤ _
        omega
      · rw [name_eq]
        exact q _ (sNew s3 h3)
    case rFront =>
      rintro σ H Q ⟨k, c, h2, h3, bc, q⟩
      have ab := abs_nat c
      refine ⟨_, h3, _, rfl, rfl, _, rfl, ?_⟩
      have str : ¬ (c.natAbs = 1 ∧ k > 0) → Q (.str (Str.ofString (toString (if c < 0 then -c else c)))) H := fun hn => by
        rw [if_neg hn] at q
        rw [ab]
        exact q
      by_cases h1 : c.natAbs = 1
      · rw [decide_eq_true (congrArg V.int (show (if c < 0 then -c else c) = 1 by rw [ab]; omega))]
        refine iteT ?_
        refine ⟨_, h2, _, _, rfl, rfl, _, rfl, ?_⟩
        by_cases hk : k > 0
        · rw [decide_eq_true (show ((k : Nat) : Int) > 0 by omega)]
          rw [if_pos ⟨h1, hk⟩] at q
          exact iteT q
        · rw [decide_eq_false (show ¬ ((k : Nat) : Int) > 0 by omega)]
          exact iteF ⟨_, h3, _, rfl, _, rfl, by rw [ab]; exact log_ok bc, str fun z => hk z.2⟩
      · rw [decide_eq_false (fun z => h1 (by have := V.int.inj z; rw [ab] at this; omega))]
        refine iteF ?_
        refine iteF ?_
        exact ⟨_, h3, _, rfl, _, rfl, by rw [ab]; exact log_ok bc, str fun z => h1 z.1⟩
    case rSign =>
      rintro σ H Q ⟨c, h3, q⟩
      refine ⟨(by show 2 ≤ sizeLine; decide), fun p1 h1 => ?_⟩
      refine ⟨_, h3, _, _, rfl, rfl, .inr ⟨_, rfl, p1, _, _, _, rfl, rfl, SqL.of upd_same, at_b _, ?_⟩⟩
      rw [str_if, dec_lt]
      exact q _ (sNew (Same.refl H) h1)
    case rFnd =>
      rintro σ H Q ⟨c, fnd, wd, h3, h6, h7, h8, l1, l2, q⟩
      have hs := sign_len c
      have lf := front_len (decide (fnd = Str.empty)) c
      refine ⟨_, h6, _, h6, rfl, _, rfl, ?_⟩
      by_cases hf : fnd = Str.empty
      · rw [decide_eq_true (show V.str fnd = V.str (Str.ofString "") from congrArg V.str hf)]
        refine iteF ?_
        refine ⟨(by show 2 ≤ sizeLine; decide), fun p1 h1 => ?_⟩
        refine ⟨_, h3, _, _, rfl, rfl, .inr ⟨_, rfl, p1, _, _, _, rfl, rfl, SqL.of upd_same, at_b _, _, _, rfl, str_if, ?_, _, h7, _, _, rfl, rfl, ?_, ?_⟩⟩
        all_goals rw [dec_lt]
        all_goals rw [decide_eq_true hf] at lf q
        · show fnd.length + (frontT true c).length ≤ _
          omega
        · show (fnd ++ frontT true c).length + wd.length ≤ _
          rw [strLen_append]; omega
        · exact q _ (sNew (Same.refl H) h1)
      · rw [decide_eq_false (fun z : V.str fnd = V.str (Str.ofString "") => hf (V.str.inj z))]
        refine iteT ?_
        rw [decide_eq_false hf] at lf q
        refine ⟨_, h8, _, _, rfl, rfl, ?_, _, _, rfl, rfl, ?_, _, _, rfl, rfl, ?_, _, h7, _, _, rfl, rfl, ?_, ?_⟩
        · rw [hs, sp1_len, sl]; decide
        · rw [strLen_append, hs, sp1_len, sl]; decide
        · rw [front_of]; omega
        · rw [front_of, strLen_append]; omega
        · rw [front_of]
          exact q _ (Same.refl H)
    case go =>
    refine ⟨Nat.zero_le _, fun D hD => ?_⟩
    have s0 := sNew (o := .lst []) (Same.refl H) hD
    refine ⟨_, rfl, a, _, rfl, s0.seq ha, for_it (walk_enum (K := K) (a := a) (xs := r.map V.int)) (fun i σ H' => AscAt H H' D r i ∧ ∃ u v x y, σ = [some (.ref a), some (.ref D), u, v, x, y, none, none, none])
      ⟨⟨s0, [], upd_same, rfl, fun i c e hi => by simp [ascT] at hi⟩, none, none, none, none, rfl⟩ (fun i σ H' _ h => h.1.sm.seq ha) ?_ ?_⟩
    · rintro i z σ H1 _ hi ⟨⟨s1, xs, hx, wd⟩, u, v, x, y, rfl⟩ ⟨TT, x1, x2, rfl, hT, rfl, e1, e2⟩
      obtain rfl : V.int (i : Nat) = x1 := Option.some.inj e1
      obtain ⟨c, hc, rfl⟩ := map_get e2
      have hi' : i < r.length := by simpa using hi
      have s2 := sNew (o := .tup [V.int (i : Nat), V.int c]) s1 hT
      have hx2 := old (o := .tup [V.int (i : Nat), V.int c]) hx hT
      have wd2 := wd.same (sNew (o := .tup [V.int (i : Nat), V.int c]) (Same.refl H1) hT)
      refine ⟨TT, _, rfl, .inl (.inl upd_same), rfl, _, _, rfl, _, _, rfl, rfl, ?_⟩
      generalize upd H1 TT (.tup [V.int (i : Nat), V.int c]) = H2 at s2 hx2 wd2 ⊢
      have be : ((i : Nat) : Int).natAbs < 2 ^ 1900 := by rw [nat_abs]; exact big1900 (by omega)
      have bc : c.natAbs < 2 ^ 1900 := hb _ (List.mem_of_getElem? hc)
      have bc2 : ((c.natAbs : Nat) : Int).natAbs < 2 ^ 1900 := by rw [nat_abs]; exact bc
      have l1 := len_tx be
      have lx := len_tx bc2
      have ln := name_len l1
      refine ⟨i, rfl, be, fun H3 s3 => ?_⟩
      refine ⟨i, c, rfl, rfl, bc2, ?_⟩
      have lfr : (if c.natAbs = 1 ∧ i > 0 then ("" : Str) else tx c.natAbs).length ≤ 2000 := by
        split
        · exact Nat.le_trans (m := 0) (by decide +kernel) (by omega)
        · exact lx
      have hx3 := s3 _ _ hx2
      have wd3 := wd2.same s3
      have s3' := Same.trans s2 s3
      refine ⟨_, rfl, rfl, _, rfl, ?_⟩
      by_cases h0 : c = 0
      · subst h0
        rw [decide_eq_true rfl]
        refine iteF ?_
        have e := ascT_succ hc
        rw [if_neg (by simp), List.append_nil] at e
        exact ⟨⟨s3', xs, hx3, by rw [e]; exact wd3⟩, _, _, _, _, rfl⟩
      · rw [decide_eq_false (fun z => h0 (V.int.inj z))]
        refine iteT ?_
        have e := ascT_succ hc
        rw [if_pos h0] at e
        refine ⟨_, rfl, .inl ⟨rfl, _, SqL.of hx3⟩, _, rfl, _, rfl, _, _, rfl, rfl, ?_, _, rfl, _, _, rfl, rfl, ?_, ⟨_, rfl⟩, _, rfl, rfl, ?_, (by show 2 ≤ sizeLine; decide), fun p hp => ?_⟩
        · rw [sp1_len]; omega
        · rw [strLen_append, sp1_len]; omega
        · rw [strLen_append, strLen_append, sp1_len]; omega
        have ew : Txt.strip ((if c.natAbs = 1 ∧ i > 0 then ("" : Str) else tx c.natAbs) ++ (" " : Str) ++ nameT i) = pieceT c i := strip_word c i
        rw [ew]
        have s4 := sNew (o := .lst [V.int c, V.str (pieceT c i)]) (Same.refl H3) hp
        have hx4 := s4 _ _ hx3
        have wd4 := (wd3.same s4).snoc (c := c) (e := i) upd_same
        have hlen := wd3.1
        have hal := ascT_len r i
        refine ⟨D, _, _, rfl, rfl, hx4, by omega, ?_⟩
        refine ⟨⟨sPut (Same.trans s3' s4) hD, _, upd_same, ?_⟩, _, _, _, _, rfl⟩
        rw [e]
        have w5 := Wds.but (o := .lst (xs ++ [V.ref p])) hx4 (wd3.same s4)
        refine w5.snoc ?_
        rw [upd_ne (fun z => ?_), upd_same]
        rw [z, hx3] at hp
        cases hp
    · rintro σ H1 ⟨⟨s1, xs, hx, wd⟩, u, v, x, y, rfl⟩
      rw [ascT_all (by rw [List.length_map]; exact Nat.le_refl _)] at wd
      have htl : (terms r).length ≤ 100 := by
        have h1 := ascT_len r r.length
        rw [ascT_all (Nat.le_refl _)] at h1
        omega
      refine ⟨_, rfl, D, xs, rfl, SqL.of hx, fun L hL => ?_⟩
      have s2 := sNew (o := .lst xs.reverse) (Same.refl H1) hL
      have wr := (wd.same s2).rev
      have hx2 := s2 _ _ hx
      have wd2 := wd.same s2
      have hLr : upd H1 L (.lst xs.reverse) L = some (.lst xs.reverse) := upd_same
      generalize upd H1 L (.lst xs.reverse) = H2 at s2 wr hx2 wd2 hLr ⊢
      have bt : ∀ p ∈ (terms r).reverse, (tx p.2).length ≤ 2000 ∧ (tx p.1.natAbs).length ≤ 2000 := fun p hp => by
        have hb := terms_bd hb (Nat.le_of_lt (big1900 (by omega))) p (List.mem_reverse.mp hp)
        exact ⟨len_tx (by rw [nat_abs]; exact hb.2), len_tx (by rw [nat_abs]; exact hb.1)⟩
      refine ⟨L, rfl, ⟨_, SqL.of hLr⟩, for_it (walk_list (K := K) (a := L) (xs := xs.reverse)) (fun i σ H' => Same H2 H' ∧ ∃ v o z, σ = [some (.ref a), some (.ref D), u, v, x, y, some (.str (goT Str.empty ((terms r).reverse.take i))), o, z])
        ⟨Same.refl H2, _, _, _, rfl⟩ (fun i σ H' _ h => h.1.seq (SqL.of hLr)) ?_ ?_⟩
      · rintro i yv σ _ H3 hi ⟨s3, v, o, z, rfl⟩ ⟨rfl, hy⟩
        have hi2 : i < (terms r).reverse.length := by rw [← wr.1]; exact hi
        obtain ⟨c, e, hce⟩ : ∃ c e, (terms r).reverse[i]? = some (c, e) := ⟨_, _, List.getElem?_eq_getElem hi2⟩
        obtain ⟨p, hp1, hp2⟩ := wr.2 i c e hce
        obtain rfl : V.ref p = yv := Option.some.inj (hp1.symm.trans hy)
        have bp := bt (c, e) (List.mem_of_getElem? hce)
        have lg := goT_len ((terms r).reverse.take i) Str.empty fun p hp => bt p (List.mem_of_mem_take hp)
        have lt : ((terms r).reverse.take i).length ≤ 100 := by rw [List.length_take, List.length_reverse]; omega
        have lp : (pieceT c e).length ≤ 4003 := piece_len bp.1 bp.2
        rw [e_len] at lg
        refine ⟨p, _, rfl, SqL.of (s3 _ _ hp2), rfl, _, _, rfl, _, _, rfl, rfl, ?_⟩
        refine ⟨c, rfl, fun H4 s4 => ?_⟩
        refine ⟨c, _, _, rfl, rfl, rfl, rfl, by omega, by omega, fun H5 s5 => ?_⟩
        refine ⟨Same.trans s3 (Same.trans s4 s5), some (.int c), some (.str (pieceT c e)), some (.str (if c < 0 then ("-" : Str) else ("+" : Str))), ?_⟩
        rw [List.take_add_one, hce, Option.toList_some, goT_snoc]
        rfl
      · rintro σ H3 ⟨s3, v, o, z, rfl⟩
        rw [List.take_of_length_le (by rw [← wr.1]; exact Nat.le_refl _)]
        refine ⟨_, rfl, Nat.zero_le _, fun l2 hl2 => ?_⟩
        have s4 := sNew (o := .lst []) s3 hl2
        refine ⟨dWd (terms r), dWd [], .lst (SqL.of (s4 _ _ hx2)) (dp_wds _ _ (wd2.same s4)), .lst (SqL.of upd_same) .nil, sh_wd _, sh_wd _, _, rfl, ?_⟩
        rw [wd_nil]
        have fin := q _ (Same.trans s1 (Same.trans s2 s4))
        unfold textT at fin
        by_cases ht : terms r = []
        · rw [decide_eq_true ht]
          rw [if_pos ht] at fin
          exact iteF fin
        · rw [decide_eq_false ht]
          rw [if_neg ht] at fin
          exact iteT ⟨_, rfl, fin⟩
end
end S70

namespace S70
open PySem L2 SR RA TXM
open PyProof.Rows (envOfC)
structure DfG (P : Program) (w : World) (K : PySem.W.Frag) (mg : Str → Option Value) (base : Heap) (x : Str) (ps : List Str) (k : Nat) (sp : Sp) : Prop where
  ex : ∃ f fd, mg x = some (.ref f) ∧ PySem.W.keepIn K (.ref f) = true ∧ Binds K fd ps [] ∧ FnG P w K mg base CX0 k f fd ps sp
theorem pe_dfG {X : Cx} {x : Str} {ps : List Str} {k : Nat} {sp : Sp} {e : Expr} {es : List Expr} {t : TA} {p pos : Pos} (D : DfG X.prog X.w X.K X.mg X.base x ps k sp) (gd : X.A.guards = some []) (hr : Room k X.A) (hg : Gl X x) (ha : PA X (e :: es) t)
    (hdb : (x == ("__debug__" : Str)) = false := by decide) (hst : starEach (e :: es) X.env = (false, eval e X.env) :: starEach es X.env := by rfl) (hpl : (backTo pos (starEach es X.env)).any (·.1) = false := by rfl) :
    PE X (.Call (.Name x p) (e :: es) [] pos) (tCall sp [] E0 t) := by
  obtain ⟨f, fd, hm, kp, b, F⟩ := D.ex
  exact pe_callG F gd hr hg hm kp b .nil pass0 ha (hdb := hdb) (he := hst) (hpl := hpl)
/-- Polynomial, all of it -/
structure PAll (P : Program) (w : World) (K : PySem.W.Frag) (mg : Str → Option Value) (base : Heap) (R C : Addr) : Prop where
  op : POp P w K mg base R C
  eq : ∃ g, PySem.W.findIn K (.ref C) "__eq__" = some (some (.ref g)) ∧ PySem.W.isFn K (.ref g) = true ∧ FnR P w K mg base CX0 5 g (spEqP C) ∧ PySem.W.findIn K (.ref C) "__ne__" = some (some (.builtin "object.__ne__"))
  str : ∃ g, PySem.W.findIn K (.ref C) "__str__" = some (some (.ref g)) ∧ PySem.W.isFn K (.ref g) = true ∧ FnR P w K mg base CX0 5 g (spPTxt C textT)
  repr : ∃ g, PySem.W.findIn K (.ref C) "__repr__" = some (some (.ref g)) ∧ PySem.W.isFn K (.ref g) = true ∧ FnR P w K mg base CX0 5 g (spPTxt C shownP)
def rPTxt (C : Addr) (f : List Int → Str) : List V → Hp → VK → Prop := fun us H Q => ∃ (a : Addr) (r : List Int), us = [.ref a] ∧ PolyAt C H a r ∧ Bd 1900 r ∧ r.length ≤ 100 ∧ ∀ H', Same H H' → Q (.str (f r)) H'
section
variable {X : Cx} {R C : Addr}
theorem call_pstr (N : PAll X.prog X.w X.K X.mg X.base R C) (hr : Room 7 X.A) : CallR X (.type "str") (rPTxt C textT) := by
  obtain ⟨g, h1, h2, h3⟩ := N.str
  refine CallR.imp (call_strO h1 h2 h3 hr) fun us H Q h => ?_
  obtain ⟨a, r, rfl, ha, hb, hl, k⟩ := h
  obtain ⟨dx, t, e, e2⟩ := id ha
  exact ⟨a, dx, _, rfl, e, a, r, rfl, ha, hb, hl, fun H' s => ⟨_, rfl, k H' s⟩⟩
theorem call_prepr (N : PAll X.prog X.w X.K X.mg X.base R C) (hr : Room 6 X.A) : CallR X (.builtin "repr") (rPTxt C shownP) := by
  obtain ⟨g, h1, h2, h3⟩ := N.repr
  refine CallR.imp (call_reprO (E := E0) h1 h2 h3 hr) fun us H Q h => ?_
  obtain ⟨a, r, rfl, ha, hb, hl, k⟩ := h
  obtain ⟨dx, t, e, e2⟩ := id ha
  exact ⟨a, dx, _, rfl, e, a, r, rfl, ha, hb, hl, fun H' s => ⟨_, rfl, k H' s⟩⟩
theorem sga_ints {k : Nat} {J : Hp → Prop} {B : Addr → Prop} : ∀ r : List Int, Bd 1900 r → SgAll X k J B (r.map V.int) (r.map tx)
  | [], _ => .nil
  | a :: r, h => .cons (sg_int (log_ok (h a (by simp)))) (sga_ints r fun b hb => h b (by simp [hb]))
/-- repr of a tuple of ints -/
theorem call_rtup (gd : X.A.guards = some []) (hr : Room 7 X.A) : CallR X (.builtin "repr") (fun us H Q => ∃ (a : Addr) (r : List Int), us = [.ref a] ∧ H a = some (.tup (r.map V.int)) ∧ Bd 1900 r ∧ r.length ≤ 100 ∧ Q (.str (tupleText (r.map tx))) H) := by
  refine CallR.imp (call_sg (k := 6) gd hr) fun us H Q h => ?_
  obtain ⟨a, r, rfl, ha, hb, hl, q⟩ := h
  refine ⟨_, _, fun H' => H' = H, _, rfl, rfl, sg_tup (k := 5) (B := fun _ => False) (fun H' j => by rw [j]; exact ha) id (sga_ints r hb), ?_, fun H' j => by rw [j]; exact q⟩
  have h1 := tupleText_len_le (r.map tx)
  have h2 := sum_tx hb
  rw [List.length_map] at h1
  have sl : sizeLine = 16777216 := sizeLine_eq
  omega
/-- repr of [int, text, text] -/
theorem call_rthree (gd : X.A.guards = some []) (hr : Room 7 X.A) : CallR X (.builtin "repr") (fun us H Q => ∃ (a : Addr) (i : Int) (x y : Str), us = [.ref a] ∧ H a = some (.lst [.int i, .str x, .str y]) ∧ i.natAbs < 2 ^ 1900 ∧ Low x ∧ Low y ∧ x.length ≤ 500000 ∧ y.length ≤ 500000 ∧ Q (.str (listText [tx i, reprText x, reprText y])) H) := by
  refine CallR.imp (call_sg (k := 6) gd hr) fun us H Q h => ?_
  obtain ⟨a, i, x, y, rfl, ha, hi, hx, hy, lx, ly, q⟩ := h
  have sl : sizeLine = 16777216 := sizeLine_eq
  have rx := hx.repr
  have ry := hy.repr
  refine ⟨_, _, fun H' => H' = H, _, rfl, rfl, sg_list (k := 5) (B := fun _ => False) (xs := [.int i, .str x, .str y]) (ts := [tx i, reprText x, reprText y]) (fun H' j => by rw [j]; exact ha) (by simp) id rfl (fun n u hu => ?_), ?_, fun H' j => by rw [j]; exact q⟩
  · match n, hu with
    | 0, hu =>
      obtain rfl : V.int i = u := by simpa using hu
      exact ⟨_, rfl, sg_int (log_ok hi)⟩
    | 1, hu =>
      obtain rfl : V.str x = u := by simpa using hu
      exact ⟨_, rfl, sg_str (by omega)⟩
    | 2, hu =>
      obtain rfl : V.str y = u := by simpa using hu
      exact ⟨_, rfl, sg_str (by omega)⟩
    | n + 3, hu => simp at hu
  · have h1 := listText_len_le [tx i, reprText x, reprText y]
    have h2 := len_tx hi
    simp only [List.map_cons, List.map_nil, List.sum_cons, List.sum_nil, List.length_cons, List.length_nil] at h1
    omega
end
section
variable {P : Program} {w : World} {K : PySem.W.Frag} {mg : Str → Option Value} {base : Heap}
/-! ### _law_is -/
def spIs (K : PySem.W.Frag) (C : Addr) : Sp := fun vs H Q _ => ∃ (p a : Addr) (r : List Int), vs = [.ref p, .ref a] ∧ PolyAt C H p (trim r) ∧ SqL K H a (r.map V.int) ∧ Bd 1900 r ∧ r.length ≤ 100 ∧ ∀ H', Same H H' → Q (.bl true) H'
abbrev nIs : List Str := ["_law_made_here", "_law_row_here", "_law_plain_here", "_law_shown", "_law_one"]
theorem scIs : FnScope nIs ["_law_made_here", "_law_row_here"] (defScope sIs) := ⟨rfl, rfl, rfl, by decide +kernel, rfl, by decide +kernel, by decide +kernel⟩
theorem ok_is {f R C : Addr} {fd : FuncData} (F : Fun K "_law_is" "_law_is" sIs f fd) (T : Bn mg) (N : PAll P w K mg base R C) (DP : Df P w K mg base "_law_plain" ["_law_row_here"] 1 (spPlain K)) (DT : Df P w K mg base "_law_text" ["_law_row_here"] 1 (spText K)) :
    FnG P w K mg base CX0 9 f fd ["_law_made_here", "_law_row_here"] (spIs K C) := by
  refine F.okG scIs (fun vs H Q E h => ?_) (fun cdv A outer s H vs Q E gd hr h => ?_)
  · obtain ⟨p, a, r, rfl, _⟩ := h
    rfl
  · obtain ⟨p, a, r, rfl, hp, ha, hb, hl, q⟩ := h
    have gd2 : (A.deeper (envOfC "_law_is" (defScope sIs) s.heap.objs.size f cdv)).guards = some [] := deeper_guards.trans gd
    have h1 : Room 1 _ := hr.mono (by decide)
    have h6 : Room 6 _ := hr.mono (by decide)
    have h7 : Room 7 _ := hr.mono (by decide)
    have Pm := N.op.pl.pm.pc
    obtain ⟨gc, gcd, gcm, gcb, GC⟩ := N.op.pl.coef
    obtain ⟨pp, gg, gdd, pprop, pb, PF⟩ := N.op.pl.deg
    refine ⟨_, pss_cons (ps_set (i := 2) scIs.nd rfl (Or.inl rfl) (pe_df DP h1 (by rfl) (pa_cons (pv 1) pa_nil)))
      (pss_cons (ps_if (PW.pt (pw_or (pt_not (pt_val (pe_callB call_isi (by rfl) T.isi (by decide +kernel) (pa_cons (pv 0) (pa_cons (pe_glob (v := .ref C) (by rfl) Pm.mgC rfl) pa_nil)))))
          (pw_or1 (pt_cmpR op_ne (pe_callB (call_rtup gd2 h7) (by rfl) T.repr (by decide +kernel) (pa_cons (pe_meth0 (pv 0) Pm.cl gcm GC h1 gcb .nil pass0) pa_nil)) (pe_callB (call_rtup gd2 h7) (by rfl) T.repr (by decide +kernel) (pa_cons (pe_callTy call_tuple_of (by rfl) T.tuple (by decide +kernel) (pa_cons (pv 2) pa_nil)) pa_nil)) (nomark _)))))
        (pss_one (ps_ret pe_bl)) pss_nil)
      (pss_cons (ps_set (i := 3) scIs.nd rfl (Or.inl rfl) (pe_op op_add_str (pe_op op_add_str pe_str (pe_join pe_str (pe_lc (own := [("_law_one", 4)]) (g := gName 4) (tt := tYes) (by rfl) scIs.nd (pi_list (pv 2)) (blkOk_by (own := [("_law_one", 4)]) (N := nIs) (sc := defScope sIs) (by decide +kernel))
          (fun _ _ _ _ _ => pg_name (i := 4) scIs.nd rfl (Or.inl rfl)) (fun _ _ _ _ _ => pts_nil) (fun _ _ _ _ _ => pe_callTy call_str_int (by rfl) T.str (by decide +kernel) (pa_cons (pv 4) pa_nil))))) pe_str))
      (pss_one (ps_ret (pe_cmpR op_eq (pe_callB (call_rthree gd2 h7) (by rfl) T.repr (by decide +kernel) (pa_cons (pe_lst (pa_cons (pe_prop (pv 0) Pm.cl pprop PF (hr.mono (by decide)) pb .nil pass0 rfl) (pa_cons (pe_callB (call_prepr N h6) (by rfl) T.repr (by decide +kernel) (pa_cons (pv 0) pa_nil)) (pa_cons (pe_callTy (call_pstr N h7) (by rfl) T.str (by decide +kernel) (pa_cons (pv 0) pa_nil)) pa_nil)))) pa_nil))
        (pe_callB (call_rthree gd2 h7) (by rfl) T.repr (by decide +kernel) (pa_cons (pe_lst (pa_cons (pe_op op_sub (pe_callB call_len_seq (by rfl) T.len PySem.boot_len (pa_cons (pv 2) pa_nil)) pe_int) (pa_cons (pv 3) (pa_cons (pe_df DT h1 (by rfl) (pa_cons (pv 2) pa_nil)) pa_nil)))) pa_nil)) (nomark _)))))), ?_⟩
    have sl : sizeLine = 16777216 := sizeLine_eq
    have bt := trim_bd hb
    have lt := trim_len r
    have lt2 : (trim r).length ≤ 100 := by omega
    refine ⟨_, rfl, a, r, rfl, ha, by omega, fun H1 p1 s1 hn1 hp1 => ?_⟩
    have hp' := hp.same s1
    obtain ⟨dx, t, e1, e2⟩ := id hp'
    refine ⟨_, rfl, _, _, _, _, true, rfl, .own C, .base (.ins e1 Pm.cl Pm.ic Pm.gt Pm.tk Pm.mo), kit_self, true, rfl, ?_⟩
    refine iteF ?_
    refine ⟨_, rfl, p, dx, _, rfl, e1, rfl, p, trim r, rfl, hp', fun t' ht' => ?_⟩
    refine ⟨t', _, rfl, ht', bt, lt2, ?_⟩
    refine ⟨_, rfl, p1, _, rfl, .inl ⟨SqL.of hp1, fun l2 hl2 => ?_⟩⟩
    have s2 := sNew (o := .tup ((trim r).map V.int)) s1 hl2
    refine ⟨l2, _, rfl, upd_same, bt, lt2, rfl, _, rfl, ?_⟩
    rw [decide_eq_true rfl]
    refine iteF ?_
    have hp2 := old (o := .tup ((trim r).map V.int)) hp1 hl2
    have hpp2 := hp.same s2
    generalize upd H1 l2 (.tup ((trim r).map V.int)) = H2 at s2 hp2 hpp2 ⊢
    refine ⟨⟨_, rfl⟩, _, rfl, p1, rfl, ⟨_, SqL.of hp2⟩, fun D hD => ?_⟩
    refine lc_it (walk_list (K := K) (a := p1) (xs := (trim r).map V.int)) (fun i H' => Same H2 H' ∧ H' D = some (.lst ((((trim r).map tx).take i).map V.str))) ⟨sNew (Same.refl H2) hD, upd_same⟩ (fun i H' _ h => h.1.seq (SqL.of hp2)) ?_ ?_
    · rintro i x H' _ hi ⟨u1, g1⟩ ⟨rfl, hx⟩
      obtain ⟨z, hz, rfl⟩ := map_get hx
      refine ⟨rfl, _, rfl, _, rfl, log_ok (bt z (List.mem_of_getElem? hz)), _, g1, ?_, sPut u1 hD, ?_⟩
      · simp only [List.length_map, List.length_take]
        exact lt_line (by omega)
      · rw [upd_same]
        congr 2
        exact take_succ_map (f := V.str) (a := tx z) (by rw [List.getElem?_map, hz]; rfl)
    · rintro H3 ⟨u1, g1⟩
      rw [List.take_of_length_le (by simp)] at g1
      have hs := sum_tx bt
      have hj := join_len bt
      refine ⟨_, D, (trim r).map tx, rfl, rfl, .inl (SqL.of g1), ?_, _, _, rfl, rfl, ?_, _, _, rfl, rfl, ?_, ?_⟩
      · have : (((", " : String) : Str)).length = 2 := rfl
        rw [this, List.length_map]; omega
      · rw [pn_len]; omega
      · rw [strLen_append, pn_len, p_len]; omega
      have s3 := Same.trans s2 u1
      have hp3 := hp.same s3
      obtain ⟨dx3, t3, e3, e4⟩ := id hp3
      have ls := shown_len bt
      have lx := text_len bt lt2
      have di : (((trim r).length : Int) - 1).natAbs < 2 ^ 1900 := big1900 (by omega)
      refine ⟨_, rfl, p, dx3, _, rfl, e3, p, trim r, rfl, hp3, ?_⟩
      refine ⟨_, rfl, p, trim r, rfl, hp3, bt, lt2, fun H4 s4 => ?_⟩
      refine ⟨_, rfl, p, trim r, rfl, hp3.same s4, bt, lt2, fun H5 s5 => ?_⟩
      refine ⟨(by show 3 ≤ sizeLine; decide), fun l5 hl5 => ?_⟩
      refine ⟨l5, _, _, _, rfl, upd_same, di, low_shown, low_textT _, by omega, by omega, ?_⟩
      have s6 := sNew (o := .lst [V.int (((trim r).length : Int) - 1), V.str (shownP (trim r)), V.str (textT (trim r))]) (Same.trans s3 (Same.trans s4 s5)) hl5
      have hp6 := sNew (o := .lst [V.int (((trim r).length : Int) - 1), V.str (shownP (trim r)), V.str (textT (trim r))]) (Same.trans u1 (Same.trans s4 s5)) hl5 _ _ hp2
      generalize upd H5 l5 (.lst [V.int (((trim r).length : Int) - 1), V.str (shownP (trim r)), V.str (textT (trim r))]) = H6 at s6 hp6 ⊢
      refine ⟨_, rfl, p1, _, rfl, .inl (SqL.of hp6), _, _, rfl, rfl, _, rfl, _, rfl, p1, _, rfl, SqL.of hp6, bt, lt2, fun H7 s7 => ?_⟩
      rw [List.length_map]
      refine ⟨(by show 3 ≤ sizeLine; decide), fun l8 hl8 => ?_⟩
      refine ⟨l8, _, _, _, rfl, upd_same, di, low_shown (r := trim r), low_textT _, Nat.le_trans ls (by omega), by omega, rfl, ?_⟩
      rw [show decide (V.str (listText [tx (((trim r).length : Int) - 1), reprText (shownP (trim r)), reprText (textT (trim r))]) = V.str (listText [tx (((trim r).length : Int) - 1), reprText (("Polynomial(" : Str) ++ Txt.join (", " : Str) ((trim r).map tx) ++ (")" : Str)), reprText (textT (trim r))])) = true from decide_eq_true rfl]
      exact q _ (sNew (Same.trans s6 s7) hl8)
end
end S70

namespace S70
open PySem L2 SR RA TXM
open PyProof.Rows (envOfC)
theorem trim_pad (r : List Int) (m : Nat) : trim (r ++ List.replicate m 0) = trim r := by
  obtain ⟨⟨k, hk⟩, hc⟩ := trim_ex r
  refine (trim_of (k := k + m) ?_ hc).symm
  rw [← List.replicate_append_replicate, ← List.append_assoc, ← hk]
def MonoA (t : TA) : Prop := ∀ (σ : St) (H : Hp) (Q Q' : List V → Hp → Prop), (∀ y H1, Q y H1 → Q' y H1) → t σ H Q → t σ H Q'
theorem mono_nil : MonoA tNil := fun σ H Q Q' h q => h _ _ q
theorem mono_ix {K : PySem.W.Frag} {i : Nat} {k : Int} {t : TA} (h : MonoA t) : MonoA (tCons (tOp (rIxL K) (tVar i) (tC (.int k))) t) := fun σ H Q Q' hq q => by
  obtain ⟨v, e, p, xs, n, u, e1, e2, hs, ha, q⟩ := q
  exact ⟨v, e, p, xs, n, u, e1, e2, hs, ha, h σ _ _ _ (fun y H1 => hq _ _) q⟩
section
variable {P : Program} {w : World} {K : PySem.W.Frag} {mg : Str → Option Value} {base : Heap}
/-! ### _law_made -/
def spMade (C : Addr) : Sp := fun vs H Q _ => ∃ (a : Addr) (r : List Int), vs = [.ref a] ∧ H a = some (.lst (r.map V.int)) ∧ r.length ≤ 9 ∧ ∀ (H' : Hp) (p : Addr), Same H H' → H p = none → PolyAt C H' p (trim r) → Q (.ref p) H'
abbrev nMade : List Str := ["_law_row_here", "_law_some"]
theorem scMade : FnScope nMade ["_law_row_here"] (defScope sMade) := ⟨rfl, rfl, rfl, by decide +kernel, rfl, by decide +kernel, by decide +kernel⟩
theorem ok_made {f R C : Addr} {fd : FuncData} (F : Fun K "_law_made" "_law_made" sMade f fd) (T : Bn mg) (N : PMk P w K mg base R C) : FnOk P w K mg base CX0 4 f fd ["_law_row_here"] (spMade C) := by
  refine F.ok scMade (fun vs H Q E h => ?_) (fun cdv A outer s H vs Q E hr h => ?_)
  · obtain ⟨a, r, rfl, _⟩ := h
    rfl
  · obtain ⟨a, r, rfl, ha, hl, q⟩ := h
    have ix : ∀ {k : Int} {j : Nat} {p1 p2 p3 : Pos}, PE (cxOf CX0 P w K mg base nMade "_law_made" (defScope sMade) f cdv A outer s H E).nox (.Subscript (.Name "_law_some" p1) (.Constant (.int k) j p2) p3) (tOp (rIxL K) (tVar 1) (tC (.int k))) := fun {k j p1 p2 p3} => pe_ix ix_list (pv 1) pe_int (fun _ _ => rfl)
    refine ⟨_, pss_cons (ps_set (i := 1) scMade.nd rfl (Or.inl rfl) (pe_op op_cat (pv 0) (pe_op op_rep (pe_lst (pa_cons pe_int pa_nil)) (pe_op op_sub pe_int (pe_callB call_len_seq (by rfl) T.len PySem.boot_len (pa_cons (pv 0) pa_nil))))))
      (pss_one (ps_ret (pe_poly N hr (by rfl) (pa_cons ix (pa_cons ix (pa_cons ix (pa_cons ix (pa_cons ix (pa_cons ix (pa_cons ix (pa_cons ix (pa_cons ix pa_nil))))))))) (mono_ix (mono_ix (mono_ix (mono_ix (mono_ix (mono_ix (mono_ix (mono_ix (mono_ix mono_nil)))))))))))), ?_⟩
    refine ⟨_, rfl, (by show 1 ≤ sizeLine; decide), fun l2 h2 => ?_⟩
    have s2 := sNew (o := .lst [V.int 0]) (Same.refl H) h2
    refine ⟨_, rfl, a, _, rfl, .inl (SqL.of (s2 _ _ ha)), _, _, rfl, rfl, ?_⟩
    have hk : ((9 : Int) - (((r.map V.int).length : Nat) : Int)) = ((9 - r.length : Nat) : Int) := by rw [List.length_map]; omega
    refine ⟨l2, _, _, rfl, congrArg V.int hk, upd_same, by omega, by omega, by rw [Int.toNat_natCast]; exact le_line (by show 1 * _ ≤ _; omega), fun l3 h3 => ?_⟩
    rw [Int.toNat_natCast, rep_flat]
    have s3 := sNew (o := .lst ((List.replicate (9 - r.length) (0 : Int)).map V.int)) s2 h3
    refine ⟨a, l3, r.map V.int, _, rfl, rfl, s3 _ _ ha, upd_same, le_line (by simp only [List.length_map, List.length_replicate]; omega), fun l4 h4 => ?_⟩
    rw [← List.map_append]
    have s4 := sNew (o := .lst ((r ++ List.replicate (9 - r.length) (0 : Int)).map V.int)) s3 h4
    have h9 : (r ++ List.replicate (9 - r.length) (0 : Int)).length = 9 := by rw [List.length_append, List.length_replicate]; omega
    have hx : upd (upd (upd H l2 (.lst [V.int 0])) l3 (.lst ((List.replicate (9 - r.length) (0 : Int)).map V.int))) l4 (.lst ((r ++ List.replicate (9 - r.length) (0 : Int)).map V.int)) l4 = some (.lst ((r ++ List.replicate (9 - r.length) (0 : Int)).map V.int)) := upd_same
    generalize upd (upd (upd H l2 (.lst [V.int 0])) l3 _) l4 _ = H4 at s4 hx ⊢
    have et := trim_pad r (9 - r.length)
    generalize r ++ List.replicate (9 - r.length) (0 : Int) = l at h9 hx et
    match l, h9 with
    | [a0, a1, a2, a3, a4, a5, a6, a7, a8], _ =>
      refine ⟨_, rfl, l4, _, _, V.int a0, rfl, rfl, SqL.of hx, at_of (j := 0) rfl rfl, ?_⟩
      refine ⟨_, rfl, l4, _, _, V.int a1, rfl, rfl, SqL.of hx, at_of (j := 1) rfl rfl, ?_⟩
      refine ⟨_, rfl, l4, _, _, V.int a2, rfl, rfl, SqL.of hx, at_of (j := 2) rfl rfl, ?_⟩
      refine ⟨_, rfl, l4, _, _, V.int a3, rfl, rfl, SqL.of hx, at_of (j := 3) rfl rfl, ?_⟩
      refine ⟨_, rfl, l4, _, _, V.int a4, rfl, rfl, SqL.of hx, at_of (j := 4) rfl rfl, ?_⟩
      refine ⟨_, rfl, l4, _, _, V.int a5, rfl, rfl, SqL.of hx, at_of (j := 5) rfl rfl, ?_⟩
      refine ⟨_, rfl, l4, _, _, V.int a6, rfl, rfl, SqL.of hx, at_of (j := 6) rfl rfl, ?_⟩
      refine ⟨_, rfl, l4, _, _, V.int a7, rfl, rfl, SqL.of hx, at_of (j := 7) rfl rfl, ?_⟩
      refine ⟨_, rfl, l4, _, _, V.int a8, rfl, rfl, SqL.of hx, at_of (j := 8) rfl rfl, ?_⟩
      refine ⟨[a0, a1, a2, a3, a4, a5, a6, a7, a8], rfl, (by show 9 ≤ 1000; decide), fun H5 p5 c5 k5 s5 n5 hc5 e5 can5 => ?_⟩
      have ec := trim_of e5 can5
      rw [et] at ec
      subst ec
      exact q H5 p5 (Same.trans s4 s5) (s4.free n5) hc5
end
end S70

namespace S70
open PySem L2 SR RA TXM
open PyProof.Rows (envOfC)
theorem PolyAt.sameX {C : Addr} {H H' : Hp} {l p : Addr} {r : List Int} (hl : PotAt H l) (sx : SameX l H H') (h : PolyAt C H p r) : PolyAt C H' p r := by
  obtain ⟨x, y, e, _⟩ := hl
  obtain ⟨dx, t, h1, h2⟩ := h
  exact ⟨dx, t, sx _ _ (fun z => by rw [z, e] at h1; cases h1) h1, sx _ _ (fun z => by rw [z, e] at h2; cases h2) h2⟩
section
variable {X : Cx}
/-- repr of [int, int] -/
theorem call_rtwo (gd : X.A.guards = some []) (hr : Room 7 X.A) : CallR X (.builtin "repr") (fun us H Q => ∃ (a : Addr) (i j : Int), us = [.ref a] ∧ H a = some (.lst [.int i, .int j]) ∧ i.natAbs < 2 ^ 1900 ∧ j.natAbs < 2 ^ 1900 ∧ Q (.str (listText [tx i, tx j])) H) := by
  refine CallR.imp (call_sg (k := 6) gd hr) fun us H Q h => ?_
  obtain ⟨a, i, j, rfl, ha, hi, hj, q⟩ := h
  have sl : sizeLine = 16777216 := sizeLine_eq
  refine ⟨_, _, fun H' => H' = H, _, rfl, rfl, sg_list (k := 5) (B := fun _ => False) (xs := [.int i, .int j]) (ts := [tx i, tx j]) (fun H' j => by rw [j]; exact ha) (by simp) id rfl (fun n u hu => ?_), ?_, fun H' j => by rw [j]; exact q⟩
  · match n, hu with
    | 0, hu =>
      obtain rfl : V.int i = u := by simpa using hu
      exact ⟨_, rfl, sg_int (log_ok hi)⟩
    | 1, hu =>
      obtain rfl : V.int j = u := by simpa using hu
      exact ⟨_, rfl, sg_int (log_ok hj)⟩
    | n + 2, hu => simp at hu
  · have h1 := listText_len_le [tx i, tx j]
    have h2 := len_tx hi
    have h3 := len_tx hj
    simp only [List.map_cons, List.map_nil, List.sum_cons, List.sum_nil, List.length_cons, List.length_nil] at h1
    omega
end
/-- at by its keyword -/
structure AtK (P : Program) (w : World) (K : PySem.W.Frag) (mg : Str → Option Value) (base : Heap) (C : Addr) : Prop where
  ex : ∃ f fd, Meth K C "at" f ∧ Binds K fd ["self", "d"] [] ∧ KBinds K fd ["self", "d"] ["d"] g2 gV2 ∧ FnOk P w K mg base CX0 2 f fd ["self", "d"] (spAt C)
section
variable {P : Program} {w : World} {K : PySem.W.Frag} {mg : Str → Option Value} {base : Heap}
/-! ### _law_values_right -/
def spValR (K : PySem.W.Frag) (C : Addr) : Sp := fun vs H Q _ => ∃ (l p a : Addr) (r : List Int), vs = [.ref l, .ref p, .ref a] ∧ PotAt H l ∧ PolyAt C H p (trim r) ∧ H a = some (.lst (r.map V.int)) ∧ a ≠ l ∧ Bd 80 r ∧ r.length ≤ 9 ∧ ∀ H', SameX l H H' → PotAt H' l → Q (.bl true) H'
abbrev nValR : List Str := ["_law_rng_here", "_law_made_here", "_law_row_here", "_law_place"]
theorem scValR : FnScope nValR ["_law_rng_here", "_law_made_here", "_law_row_here"] (defScope sValR) := ⟨rfl, rfl, rfl, by decide +kernel, rfl, by decide +kernel, by decide +kernel⟩
theorem ok_valR {f R C : Addr} {fd : FuncData} (F : Fun K "_law_values_right" "_law_values_right" sValR f fd) (T : Bn mg) (N : Pc K mg R C) (AK : AtK P w K mg base C) (DD : Df P w K mg base "_law_draw" ["_law_rng_here", "_law_many"] 1 spDraw) (DV : Df P w K mg base "_law_value" ["_law_row_here", "_law_place"] 1 (spValue K)) :
    FnG P w K mg base CX0 8 f fd ["_law_rng_here", "_law_made_here", "_law_row_here"] (spValR K C) := by
  refine F.okG scValR (fun vs H Q E h => ?_) (fun cdv A outer s H vs Q E gd hr h => ?_)
  · obtain ⟨l, p, a, r, rfl, _⟩ := h
    rfl
  · obtain ⟨l, p, a, r, rfl, hl, hp, ha, nal, hb, hlen, q⟩ := h
    have gd2 : (A.deeper (envOfC "_law_values_right" (defScope sValR) s.heap.objs.size f cdv)).guards = some [] := deeper_guards.trans gd
    have h1 : Room 1 _ := hr.mono (by decide)
    have h2 : Room 2 _ := hr.mono (by decide)
    obtain ⟨g, gdd, gm, gb, gk, G⟩ := AK.ex
    refine ⟨_, pss_cons (ps_for PassesOwn.never rfl (pi_list (pe_lst (pa_cons pe_int (pa_cons pe_int (pa_cons (pe_un un_neg pe_int) (pa_cons pe_int (pa_cons (pe_df DD h1 (by rfl) (pa_cons (pv 0) (pa_cons pe_int pa_nil))) (pa_cons (pe_un un_neg (pe_df DD h1 (by rfl) (pa_cons (pv 0) (pa_cons (pe_op op_pow pe_int pe_int) pa_nil)))) (pa_cons (pe_op op_add (pe_op op_pow pe_int pe_int) (pe_df DD h1 (by rfl) (pa_cons (pv 0) (pa_cons (pe_op op_pow pe_int pe_int) pa_nil)))) pa_nil)))))))))
        (pg_name (i := 3) scValR.nd rfl (Or.inl rfl))
        (pss_one (ps_if (pt_cmpR op_ne (pe_callB (call_rtwo gd2 hr) (by rfl) T.repr (by decide +kernel) (pa_cons (pe_lst (pa_cons (pe_meth (pv 1) N.cl gm G h2 gb .nil pass0 (pa_cons (pv 3) pa_nil)) (pa_cons (pe_methK (pv 1) N.cl gm G h2 gk pass0 (pk_cons (pv 3) pk_nil)) pa_nil))) pa_nil))
          (pe_callB (call_rtwo gd2 hr) (by rfl) T.repr (by decide +kernel) (pa_cons (pe_op op_rep (pe_lst (pa_cons (pe_df DV h1 (by rfl) (pa_cons (pv 2) (pa_cons (pv 3) pa_nil))) pa_nil)) pe_int) pa_nil)) (nomark _)) (pss_one (ps_ret pe_bl)) pss_nil)))
      (pss_one (ps_ret pe_bl)), ?_⟩
    refine ⟨_, rfl, _, rfl, l, _, rfl, hl, by decide, by decide, fun H1 d1 sx1 hl1 d10 d11 => ?_⟩
    refine ⟨_, rfl, _, _, rfl, rfl, ⟨by decide, by decide, by decide⟩, l, _, rfl, hl1, by decide, by decide, fun H2 d2 sx2 hl2 d20 d21 => ?_⟩
    refine ⟨_, rfl, _, _, rfl, rfl, ⟨by decide, by decide, by decide⟩, _, rfl, _, _, rfl, rfl, ⟨by decide, by decide, by decide⟩, l, _, rfl, hl2, by decide, by decide, fun H3 d3 sx3 hl3 d30 d31 => ?_⟩
    have z9 : (10 : Int) ^ (9 : Int).toNat = 1000000000 := by decide
    have z19 : (10 : Int) ^ (19 : Int).toNat = 10000000000000000000 := by decide
    rw [z9] at d21
    rw [z19] at d31
    refine ⟨_, _, rfl, rfl, (by show 7 ≤ sizeLine; decide), fun L hL => ?_⟩
    rw [z19]
    have sx : SameX l H H3 := SameX.trans sx1 (SameX.trans sx2 sx3)
    have s4 := sNew (o := .lst [V.int 0, .int 1, .int (-1), .int 2, .int d1, .int (-d2), .int (10000000000000000000 + d3)]) (Same.refl H3) hL
    have hp4 := (hp.sameX hl sx).same s4
    have ha4 := s4 _ _ (sx _ _ nal ha)
    have hl4 := hl3.same s4
    have hL4 : upd H3 L (.lst [V.int 0, .int 1, .int (-1), .int 2, .int d1, .int (-d2), .int (10000000000000000000 + d3)]) L = some (.lst [V.int 0, .int 1, .int (-1), .int 2, .int d1, .int (-d2), .int (10000000000000000000 + d3)]) := upd_same
    generalize upd H3 L (.lst [V.int 0, .int 1, .int (-1), .int 2, .int d1, .int (-d2), .int (10000000000000000000 + d3)]) = H4 at s4 hp4 ha4 hl4 hL4 ⊢
    have bd : ∀ v ∈ [V.int 0, .int 1, .int (-1), .int 2, .int d1, .int (-d2), .int (10000000000000000000 + d3)], ∃ d : Int, v = .int d ∧ d.natAbs < 2 ^ 100 := fun v hv => by
      have big : (2 : Nat) ^ 100 = 1267650600228229401496703205376 := by decide
      rw [big]
      simp only [List.mem_cons, List.not_mem_nil, or_false] at hv
      rcases hv with rfl | rfl | rfl | rfl | rfl | rfl | rfl
      · exact ⟨_, rfl, by decide⟩
      · exact ⟨_, rfl, by decide⟩
      · exact ⟨_, rfl, by decide⟩
      · exact ⟨_, rfl, by decide⟩
      · exact ⟨_, rfl, by omega⟩
      · exact ⟨_, rfl, by omega⟩
      · exact ⟨_, rfl, by omega⟩
    refine ⟨L, rfl, ⟨_, SqL.of hL4⟩, for_it (walk_list (K := K) (a := L) (xs := [V.int 0, .int 1, .int (-1), .int 2, .int d1, .int (-d2), .int (10000000000000000000 + d3)])) (fun i σ H' => Same H4 H' ∧ ∃ u, σ = [some (.ref l), some (.ref p), some (.ref a), u]) ⟨Same.refl H4, none, rfl⟩ (fun i σ H' _ h => h.1.seq (SqL.of hL4)) ?_ ?_⟩
    · rintro i y σ _ H5 hi ⟨s5, u, rfl⟩ ⟨rfl, hy⟩
      obtain ⟨d, rfl, hd⟩ := bd y (List.mem_of_getElem? hy)
      have hp5 := hp4.same s5
      obtain ⟨dx, t, e1, e2⟩ := id hp5
      have bt := trim_bd hb
      have lt := trim_len r
      have be : (ev (trim r) d).natAbs < 2 ^ 1900 := Nat.lt_of_lt_of_le (ev_bd hd bt) (pow_mono (by
        have : (trim r).length * (100 + 1) ≤ 9 * 101 := Nat.mul_le_mul (by omega) (Nat.le_refl _)
        omega))
      refine ⟨_, rfl, p, dx, _, rfl, e1, rfl, _, rfl, p, trim r, d, 80, 100, rfl, hp5, bt, hd, by omega, by decide, by decide, fun H6 s6 => ?_⟩
      have hp6 := hp5.same s6
      obtain ⟨dx6, t6, e3, e4⟩ := id hp6
      refine ⟨_, rfl, p, dx6, _, rfl, e3, rfl, _, rfl, p, trim r, d, 80, 100, rfl, hp6, bt, hd, by omega, by decide, by decide, fun H7 s7 => ?_⟩
      refine ⟨(by show 2 ≤ sizeLine; decide), fun l8 hl8 => ?_⟩
      refine ⟨l8, _, _, rfl, upd_same, be, be, ?_⟩
      have s8 := sNew (o := .lst [V.int (ev (trim r) d), V.int (ev (trim r) d)]) (Same.trans s5 (Same.trans s6 s7)) hl8
      refine ⟨_, rfl, _, rfl, a, r, d, rfl, SqL.of (s8 _ _ ha4), hb, by omega, hd, fun H9 s9 => ?_⟩
      refine ⟨(by show 1 ≤ sizeLine; decide), fun l10 hl10 => ?_⟩
      refine ⟨l10, _, _, rfl, rfl, upd_same, by decide, by decide, by show 1 * 2 ≤ sizeLine; decide, fun l11 hl11 => ?_⟩
      rw [ev_trim] at be
      refine ⟨l11, ev r d, ev r d, rfl, upd_same, be, be, rfl, _, rfl, ?_⟩
      rw [ev_trim, decide_eq_true rfl]
      refine iteF ?_
      exact ⟨sNew (sNew (Same.trans s8 s9) hl10) hl11, _, rfl⟩
    · rintro σ H5 ⟨s5, u, rfl⟩
      exact q H5 (SameX.same sx (Same.trans s4 s5)) (hl4.same s5)
end
end S70

namespace S70
open PySem L2 SR RA TXM
open LamX (Tabs ExtN LamS lamCx lamEnv TabB)
open PyProof.Rows (envOfC)
theorem isE_any {X : Cx} {a D : Addr} {oe : Obj} {cls : Value} {d : Option Addr} {pn : List (Addr × Obj)} (C : ExcC X.K D) (hz : Zc cls d oe) (hf : ∃ vs, oe.data = .fields vs) :
    CallR (X.suite a ((a, oe) :: pn)) (.builtin "isinstance") (fun xs H Q => cls = .ref D ∧ (d = none ∨ ∃ dd fs, d = some dd ∧ H dd = some (.xd fs)) ∧ rIsE X.K D a xs H Q) := by
  rintro pins s σ H xs us Q I r ⟨rfl, h⟩
  exact call_isEF C hz hf pins s σ H xs us Q I r h
/-- both errors -/
structure Two (P : Program) (w : World) (K : PySem.W.Frag) (mg : Str → Option Value) (base : Heap) (R Dn Dp S : Addr) : Prop where
  n : Err "InvalidNumber" P w K mg base R Dn S
  p : Err "InvalidPolynomial" P w K mg base R Dp S
  np : PySem.W.exmOne K (.ref Dp) (.ref Dn) = some false
/-! ### _law_refused -/
abbrev nRefused : List Str := ["_law_call", "e"]
theorem scRefused : FnScope nRefused ["_law_call"] (defScope sRefused) := ⟨rfl, rfl, rfl, by decide +kernel, rfl, by decide +kernel, by decide +kernel⟩
/-- what the law's def is asked: the lambda lets out the class at D with the value v -/
def Kind (Dn Dp D : Addr) (nm : Str) : Prop := (D = Dn ∧ nm = ("number" : Str)) ∨ (D = Dp ∧ nm = ("polynomial" : Str))
def TTr (Dn Dp : Addr) (tl : XK → Hp → VK → Prop) (H : Hp) (Q : VK) : Prop := ∃ (D : Addr) (nm : Str) (v : V), Kind Dn Dp D nm ∧ (∀ (E : XK) (Q' : VK), XW D v H E → tl E H Q') ∧ ∀ (H' : Hp) (l : Addr), Same H H' → H l = none → H' l = some (.lst [.str nm, v, .bl true]) → Q (.ref l) H'
abbrev rcx (X : Cx) (g : Addr) (cdg : Value) (s : Shared) (H : Hp) : Cx := (cxOf C8.CX0 X.prog X.w X.K X.mg X.base nRefused "_law_refused" (defScope sRefused) g cdg X.A X.stack s H C8.E0).nox
def tToldE (K : PySem.W.Frag) (D S : Addr) (nm : Str) : Suite := fun a cls d => tRet (tLst (tCons (tC (.str nm)) (tCons (tXf a cls d D fV (tVar 1)) (tCons (tCB (fun xs H Q => cls = .ref D ∧ (d = none ∨ ∃ dd fs, d = some dd ∧ H dd = some (.xd fs)) ∧ rIsE K D a xs H Q) (tCons (tVar 1) (tCons (tC (.ref S)) tNil))) tNil))))
theorem told_read {K : PySem.W.Frag} {D S a d : Addr} {nm : Str} {v : V} {E : Ends} {σ : St} {H0 H : Hp} {Q : VK} (ks : PySem.W.kitOne K (.ref D) (.ref S) = some true) (s : Same H0 H) (hσ : σ[1]? = some (some (.ref a))) (hd : H d = some (.xd [(fV, v)])) (rt : E.rt = Q)
    (q : ∀ (H' : Hp) (l : Addr), Same H0 H' → H0 l = none → H' l = some (.lst [.str nm, v, .bl true]) → Q (.ref l) H') : tToldE K D S nm a (.ref D) (some d) E σ H := by
  refine ⟨_, hσ, rfl, rfl, d, _, v, rfl, hd, rfl, ?_⟩
  refine ⟨_, hσ, rfl, .inr ⟨d, _, rfl, hd⟩, .ref S, .ref S, true, rfl, fun u z => z, ks, ?_⟩
  refine ⟨(by show 3 ≤ sizeLine; decide), fun l hl => ?_⟩
  rw [rt]
  exact q _ l (sNew s hl) (s.free hl) upd_same
theorem gives_refused {X : Cx} {g R Dn Dp S : Addr} {cdg : Value} {q : Str} (Z : Two X.prog X.w X.K X.mg X.base R Dn Dp S) (B : Bn X.mg) :
    GivesTo1 X nRefused "_law_refused" (defScope sRefused) g cdg (defBody sRefused) "_law_call" q 12 (TTr Dn Dp) := by
  rintro f c' s H Q tl act hr hco ⟨D, nm, v, kind, call, k⟩
  refine' ⟨_, pss_cons (ps_try_fits (X := rcx X g cdg s H) (i := 1) (n := "e") (tb := fun W => tDrop (fun σ H Q => σ[0]? = some (some (.ref f)) ∧ H c' = some (LamX.CodeO c' q) ∧ tl (WE W σ) H Q)) (l := [(.ref Dn, tToldE X.K Dn S "number"), (.ref Dp, tToldE X.K Dp S "polynomial")]) rfl rfl scRefused.nd rfl rfl ?body ?clauses) (pss_one (ps_ret (pe_lst pa_nil))), ?read⟩
  case body =>
    intro W pn xe tk po
    exact pss_one (ps_expr (act W pn xe _ _ tk))
  case clauses =>
    refine .cons ⟨by rfl, by decide, .inl Z.n.mgD⟩ (fun e oe cls d pn hz hf => ?_) (.cons ⟨by rfl, by decide, .inl Z.p.mgD⟩ (fun e oe cls d pn hz hf => ?_) .nil)
    · exact pss_one (ps_ret (pe_lst (pa_cons pe_str (pa_cons (pe_xf (X := rcx X g cdg s H) Z.n.xf Z.n.no hz hf (pv 1)) (pa_cons (pe_callB (isE_any (X := rcx X g cdg s H) Z.n.ec hz hf) (by rfl) B.isi (by decide +kernel) (pa_cons (pv 1) (pa_cons (pe_glob (v := .ref S) (by rfl) Z.n.mgS rfl) pa_nil))) pa_nil)))))
    · exact pss_one (ps_ret (pe_lst (pa_cons pe_str (pa_cons (pe_xf (X := rcx X g cdg s H) Z.p.xf Z.p.no hz hf (pv 1)) (pa_cons (pe_callB (isE_any (X := rcx X g cdg s H) Z.p.ec hz hf) (by rfl) B.isi (by decide +kernel) (pa_cons (pv 1) (pa_cons (pe_glob (v := .ref S) (by rfl) Z.p.mgS rfl) pa_nil))) pa_nil)))))
  case read =>
    refine ⟨rfl, hco, call _ _ fun H2 d s2 hn hd => ?_⟩
    rcases kind with ⟨rfl, rfl⟩ | ⟨rfl, rfl⟩
    · exact .inl ⟨Z.n.me, fun a ha => told_read Z.n.ks s2 rfl hd rfl k⟩
    · exact .inr ⟨Z.np, .inl ⟨Z.p.me, fun a ha => told_read Z.p.ks s2 rfl hd rfl k⟩⟩
end S70

namespace S70
open PySem L2 SR RA TXM
open LamX (Tabs ExtN LamS lamCx lamEnv TabB)
open PyProof.Rows (envOfC)
/-- all but the pot at l and the tables stay -/
def ExtX (l : Addr) (H H' : Hp) : Prop := ∀ b o, b ≠ l → H b = some o → (∀ ps, o ≠ .tbl ps) → H' b = some o
theorem ExtX.ofX {l : Addr} {H H' : Hp} (s : SameX l H H') : ExtX l H H' := fun b o hb e _ => s b o hb e
theorem ExtX.ofN {l : Addr} {H H' : Hp} (s : ExtN H H') : ExtX l H H' := fun b o _ e n => s b o e n
theorem ExtX.trans {l : Addr} {H H1 H2 : Hp} (a : ExtX l H H1) (b : ExtX l H1 H2) : ExtX l H H2 := fun c o hc e n => b c o hc (a c o hc e n) n
theorem PotAt.ext {H H' : Hp} {l : Addr} (s : ExtN H H') (h : PotAt H l) : PotAt H' l := by
  obtain ⟨x, y, e, r⟩ := h
  exact ⟨x, y, s _ _ e (fun _ z => nomatch z), r⟩
theorem PolyAt.ext {C : Addr} {H H' : Hp} {p : Addr} {r : List Int} (s : ExtN H H') (h : PolyAt C H p r) : PolyAt C H' p r := by
  obtain ⟨dx, t, h1, h2⟩ := h
  exact ⟨dx, t, s _ _ h1 (fun _ z => nomatch z), s _ _ h2 (fun _ z => nomatch z)⟩
theorem RatAt.ext {R : Addr} {H H' : Hp} {a : Addr} {p : Int × Int} (s : ExtN H H') (h : RatAt R H a p) : RatAt R H' a p := by
  obtain ⟨dx, h⟩ := h
  exact ⟨dx, s _ _ h (fun _ z => nomatch z)⟩
theorem OddT.ext {R : Addr} {H H' : Hp} {v : V} {t : Str} (s : ExtN H H') (h : OddT R H v t) : OddT R H' v t := by
  cases h with
  | non => exact .non
  | bl b => exact .bl b
  | str h => exact .str h
  | int h => exact .int h
  | rat r bp => exact .rat (r.ext s) bp
  | nil e => exact .nil (s _ _ e (fun _ z => nomatch z))
  | one e => exact .one (s _ _ e (fun _ z => nomatch z))
  | tup1 e => exact .tup1 (s _ _ e (fun _ z => nomatch z))
  | tup2 e => exact .tup2 (s _ _ e (fun _ z => nomatch z))
  | d0 e => exact .d0 (s _ _ e (fun _ z => nomatch z))
/-- an object that is no list of two is not the pot -/
theorem PotAt.apart {H : Hp} {l b : Addr} {o : HO} (h : PotAt H l) (e : H b = some o) (n : ∀ x y : Int, o ≠ .lst [.int x, .int y]) : b ≠ l := fun z => by
  obtain ⟨x, y, e1, _⟩ := h
  rw [z, e1] at e
  exact n x y (Option.some.inj e).symm
theorem OddT.sameX {R : Addr} {H H' : Hp} {l : Addr} {v : V} {t : Str} (hl : PotAt H l) (s : SameX l H H') (h : OddT R H v t) : OddT R H' v t := by
  cases h with
  | non => exact .non
  | bl b => exact .bl b
  | str h => exact .str h
  | int h => exact .int h
  | rat r bp =>
    obtain ⟨dx, e⟩ := r
    exact .rat ⟨dx, s _ _ (hl.apart e fun x y z => nomatch z) e⟩ bp
  | nil e => exact .nil (s _ _ (hl.apart e fun x y z => nomatch z) e)
  | one e => exact .one (s _ _ (hl.apart e fun x y z => nomatch z) e)
  | tup1 e => exact .tup1 (s _ _ (hl.apart e fun x y z => nomatch z) e)
  | tup2 e => exact .tup2 (s _ _ (hl.apart e fun x y z => nomatch z) e)
  | d0 e => exact .d0 (s _ _ (hl.apart e fun x y z => nomatch z) e)
theorem OddN.of {R : Addr} {H H' : Hp} {v : V} {t : Str} (o : OddT R H' v t) (h : OddN R H v) : OddN R H' v := by
  rcases o.kind with ⟨i, rfl⟩ | k
  · rcases h with ⟨T, z⟩ | ⟨a, dx, fs, z, _⟩
    · cases z
    · cases z
  · exact k
theorem tabs_sameX {T : List (Addr × Str)} {H H' : Hp} {l : Addr} (hl : PotAt H l) (s : SameX l H H') (t : Tabs T H) : Tabs T H' := fun p hp => by
  obtain ⟨ps, h1, h2, h3⟩ := t p hp
  refine ⟨ps, s _ _ (hl.apart h1 fun x y z => nomatch z) h1, h2, fun pos cv hc => ?_⟩
  obtain ⟨c, e, hc'⟩ := h3 pos cv hc
  exact ⟨c, e, s _ _ (hl.apart hc' fun x y z => nomatch z) hc'⟩
theorem tabs_set {T : List (Addr × Str)} {H : Hp} {l : Addr} {xs ys : List V} (t : Tabs T H) (hl : H l = some (.lst xs)) : Tabs T (upd H l (.lst ys)) := fun p hp => by
  obtain ⟨ps, h1, h2, h3⟩ := t p hp
  refine ⟨ps, ?_, h2, fun pos cv hc => ?_⟩
  · rw [upd_ne (fun z => by rw [z, hl] at h1; cases h1), h1]
  · obtain ⟨c, e, hc'⟩ := h3 pos cv hc
    exact ⟨c, e, by rw [upd_ne (fun z => by rw [z, hl] at hc'; cases hc'), hc']⟩
theorem OddT.ne {R l : Addr} {H : Hp} {v : V} {t : Str} (h : OddT R H v t) (hl : H l = none) : v ≠ .ref l := fun z => by
  subst z
  cases h with
  | rat r bp => obtain ⟨dx, e⟩ := r; rw [hl] at e; cases e
  | nil e => rw [hl] at e; cases e
  | one e => rw [hl] at e; cases e
  | tup1 e => rw [hl] at e; cases e
  | tup2 e => rw [hl] at e; cases e
  | d0 e => rw [hl] at e; cases e
/-! ### how a refusal is shown -/
def toldT (nm t : Str) : Str := listText [reprText nm, t, "True"]
def OkN (nm : Str) : Prop := nm = ("number" : Str) ∨ nm = ("polynomial" : Str)
theorem OkN.len {nm : Str} (h : OkN nm) : (reprText nm).length ≤ 100 := by rcases h with rfl | rfl <;> decide +kernel
theorem told_len {nm t : Str} (h : OkN nm) (ht : t.length ≤ 6000) : (toldT nm t).length ≤ 7000 := by
  have h1 := listText_len_le [reprText nm, t, ("True" : Str)]
  have h2 := h.len
  have h3 : (("True" : Str)).length = 4 := rfl
  simp only [List.map_cons, List.map_nil, List.sum_cons, List.sum_nil, List.length_cons, List.length_nil] at h1
  unfold toldT
  omega
theorem sg_told {X : Cx} {R l : Addr} {H : Hp} {nm : Str} {v : V} {t : Str} (N : RRp X.prog X.w X.K X.mg X.base R) (hn : OkN nm) (hl : H l = some (.lst [.str nm, v, .bl true])) (ne : v ≠ .ref l) (od : OddT R H v t) :
    Sg X 7 (fun H' => H' = H) (fun c => c = l ∨ isAt v c) (.ref l) (toldT nm t) := by
  refine sg_list (k := 6) (xs := [.str nm, v, .bl true]) (ts := [reprText nm, t, "True"]) (fun H' j => by rw [j]; exact hl) (by simp) ne rfl fun i u hu => ?_
  match i, hu with
  | 0, hu =>
    obtain rfl : V.str nm = u := by simpa using hu
    exact ⟨_, rfl, sg_str (le_line (Nat.le_trans hn.len (by decide)))⟩
  | 1, hu =>
    obtain rfl : v = u := by simpa using hu
    exact ⟨_, rfl, od.sg N⟩
  | 2, hu =>
    obtain rfl : V.bl true = u := by simpa using hu
    exact ⟨_, rfl, sg_bl⟩
  | n + 3, hu => simp at hu
/-- three refusals in a list at L -/
theorem sg_three {X : Cx} {R L a b c : Addr} {H : Hp} {nm : Str} {v : V} {t : Str} (N : RRp X.prog X.w X.K X.mg X.base R) (hn : OkN nm) (hL : H L = some (.lst [.ref a, .ref b, .ref c])) (ha : H a = some (.lst [.str nm, v, .bl true])) (hb : H b = some (.lst [.str nm, v, .bl true])) (hc : H c = some (.lst [.str nm, v, .bl true]))
    (na : v ≠ .ref a) (nb : v ≠ .ref b) (nc : v ≠ .ref c) (nL : v ≠ .ref L) (od : OddT R H v t) : Sg X 8 (fun H' => H' = H) (fun d => d = L ∨ (d = a ∨ d = b ∨ d = c ∨ isAt v d)) (.ref L) (listText [toldT nm t, toldT nm t, toldT nm t]) := by
  have apart : ∀ z, H z = some (.lst [.str nm, v, .bl true]) → L ≠ z := fun z hz e => by rw [e, hz] at hL; cases hL
  refine sg_list (k := 7) (xs := [.ref a, .ref b, .ref c]) (ts := [toldT nm t, toldT nm t, toldT nm t]) (fun H' j => by rw [j]; exact hL) (by simp) (fun z => ?_) rfl fun i u hu => ?_
  · rcases z with z | z | z | z
    · exact apart a ha z
    · exact apart b hb z
    · exact apart c hc z
    · exact nL z
  · match i, hu with
    | 0, hu =>
      obtain rfl : V.ref a = u := by simpa using hu
      exact ⟨_, rfl, (sg_told N hn ha na od).mono (Nat.le_refl _) fun d z => z.elim .inl fun z => .inr (.inr (.inr z))⟩
    | 1, hu =>
      obtain rfl : V.ref b = u := by simpa using hu
      exact ⟨_, rfl, (sg_told N hn hb nb od).mono (Nat.le_refl _) fun d z => z.elim (fun z => .inr (.inl z)) fun z => .inr (.inr (.inr z))⟩
    | 2, hu =>
      obtain rfl : V.ref c = u := by simpa using hu
      exact ⟨_, rfl, (sg_told N hn hc nc od).mono (Nat.le_refl _) fun d z => z.elim (fun z => .inr (.inr (.inl z))) fun z => .inr (.inr (.inr z))⟩
    | n + 3, hu => simp at hu
theorem three_len {nm t : Str} (h : OkN nm) (ht : t.length ≤ 6000) : (listText [toldT nm t, toldT nm t, toldT nm t]).length ≤ sizeLine := by
  have h1 := listText_len_le [toldT nm t, toldT nm t, toldT nm t]
  have h2 := told_len h ht
  have sl : sizeLine = 16777216 := sizeLine_eq
  simp only [List.map_cons, List.map_nil, List.sum_cons, List.sum_nil, List.length_cons, List.length_nil] at h1
  omega
theorem tm1 {C : Addr} {H1 : Hp} {n : Int} {Q : VK} {E : XK} {σ : St} (h1 : n.natAbs < 2 ^ 1900) (k : ∀ (H' : Hp) (p : Addr), Same H1 H' → RatAt C H' p (nf n 1) → Q (.ref p) H') : StX.tMakeR C (spR1 C) E (tCons (tC (.int n)) tNil) σ H1 Q :=
  fun x dx hx hdx ne => made2 (E := E) (by decide : (1 : Int) ≠ 0) h1 (big1900 (n := 1) (by decide)) (fun H' p s _ r => k H' p s r) x dx hx hdx ne
theorem tm2 {C : Addr} {H1 : Hp} {n m : Int} {Q : VK} {E : XK} {σ : St} (h0 : m ≠ 0) (h1 : n.natAbs < 2 ^ 1900) (h2 : m.natAbs < 2 ^ 1900) (k : ∀ (H' : Hp) (p : Addr), Same H1 H' → RatAt C H' p (nf n m) → Q (.ref p) H') : StX.tMakeR C (spRInit C) E (tCons (tC (.int n)) (tCons (tC (.int m)) tNil)) σ H1 Q :=
  fun x dx hx hdx ne => made2 (E := E) h0 h1 h2 (fun H' p s _ r => k H' p s r) x dx hx hdx ne
end S70

namespace S70
open PySem L2 SR RA TXM
open LamX (Tabs ExtN LamS lamCx lamEnv TabB)
open PyProof.Rows (envOfC)
def tMethG (C : Addr) (m : Str) (sp : Sp) (E : XK) (ta : TE) (t : TA) : TE := fun σ H Q => ta σ H fun x H1 => ∃ a dx fs, x = .ref a ∧ H1 a = some (.ins C dx fs) ∧ fs.lookup m = none ∧ t σ H1 fun vs H2 => sp (x :: vs) H2 Q E
/-- o.m(e, ..), where no repr is under way; it may raise -/
theorem pe_methG {X : Cx} {CX : CXT} {n : Nat} {C g : Addr} {m : Str} {fd : FuncData} {ps : List Str} {pr : Sp} {E : XK} {o e : Expr} {es : List Expr} {ta : TE} {t : TA} {apos pos : Pos} {pl : Sem Bool} (ob : PE X o ta) (c : Cls X.K C) (met : Meth X.K C m g) (F : FnG X.prog X.w X.K X.mg X.base CX n g fd ps pr) (quiet : X.A.guards = some []) (room : Room n X.A) (bn : Binds X.K fd ps []) (pass : Passes CX X E) (args : PA X (e :: es) t)
    (st : starEach (e :: es) X.env = (false, eval e X.env) :: starEach es X.env := by rfl) (pn : (backTo pos (starEach es X.env)).any (·.1) = false := by rfl)
    (ht : eval (.Call (.Attribute o m apos) (e :: es) [] pos) X.env = (eval o X.env >>= fun ov => standAt apos.atName >>= fun _ => holding [ov] (getMethod ov m pl) >>= fun fb => callWith pos fb.1 fb.2 (backTo pos (starEach (e :: es) X.env)) (backToKw pos (keywordEach [] X.env))) := by rfl) :
    PE X (.Call (.Attribute o m apos) (e :: es) [] pos) (tMethG C m pr E ta t) := by
  constructor
  intro pins s0 σ H W J w
  refine PySem.W.methodCall_KW (pl := pl) (thn (ob.run pins s0 σ H _ J w) ?_) ht
  rintro _ s1 ⟨_, H1, J1, rel, a, dx, fs, rfl, ea, lk, w1⟩
  cases rel
  refine getmeth_ok J1 ea c met lk (PySem.W.callWith_K (first := [.ref a]) (h₀ := X.base) J.ok.mod.kin met.kp (thn (args.run pos pins s1 σ H1 _ J1 w1) ?_) st pn)
  rintro us s2 ⟨as, H2, J2, rv, w2⟩
  exact ⟨J2.kIn, run_fnG (vs := .ref a :: as) (us := .ref a :: us) F quiet room bn .nil pass J2 (.cons rfl rv) (by rw [List.append_nil]; exact w2)⟩
/-- what is known of _law_refused -/
structure Rfd (K : PySem.W.Frag) (mg : Str → Option Value) : Prop where
  ex : ∃ g fd, Fun K "_law_refused" "_law_refused" sRefused g fd ∧ mg "_law_refused" = some (.ref g) ∧ PySem.W.keepIn K (.ref g) = true ∧ Binds K fd ["_law_call"] []
theorem pe_ref1 {X : Cx} {R Dn Dp S c P : Addr} {T : List (Addr × Str)} {params : Arguments} {body : Expr} {scope : Scope} {t : XK → TE} {p lpos pos : Pos} (RF : Rfd X.K X.mg) (Z : Two X.prog X.w X.K X.mg X.base R Dn Dp S) (B : Bn X.mg) (gd : X.A.guards = some []) (hg : Gl X "_law_refused") (TB : TabB X.base X.mg c P) (hcode : X.env.code = .ref c) (hmT : (P, X.env.qual ++ "<lambda>") ∈ T) (hu : ∀ p ∈ T, p.1 = P → p.2 = X.env.qual ++ "<lambda>") (hr : Room 13 X.A) (L : LamS X.env.scope scope)
    (hdef : defaultsOf params X.env = ([], [])) (hbind : ∀ (q : Str) (cl : List (Str × Addr)) (pm cv ctv : Value), bindArgs (PySem.W.kla_fn "<lambda>" q params body scope cl pm cv ctv) ⟨[], []⟩ = pure [])
    (hbody : ∀ (A : Around) (outer : List Env) (s : Shared) (H : Hp) (E : XK) (f c' : Addr), A.guards = some [] → Room 11 (A.deeper (lamEnv X scope s.heap.objs.size f c')) → PE (lamCx X A outer s H E scope f c') body (t E)) :
    PE X (.Call (.Name "_law_refused" p) [.Lambda params body scope lpos] [] pos) (fun σ H Q => Tabs T H ∧ ∀ H1, ExtN H H1 → Tabs T H1 → TTr Dn Dp (fun E H' Q' => t E σ H' Q') H1 Q) := by
  obtain ⟨g, fd, F, hm, hk, hb⟩ := RF.ex
  obtain ⟨_, _, _, _, _, _, _, _, _, rfl, lk, hcd⟩ := F.ex
  exact pe_lamcall1 (k := 11) (a := "_law_call") (Ng := nRefused) gd hg hm hk lk hcd hb scRefused rfl (Or.inl rfl) (gives_refused Z B) TB hcode hmT hu hr L hdef hbind hbody
abbrev qL : Str := "_law_refusals_right.<locals>.<lambda>"
/-- what is at hand while values are refused -/
structure Fx (R C : Addr) (T : List (Addr × Str)) (l p : Addr) (r : List Int) (v : V) (t : Str) (H : Hp) : Prop where
  pot : PotAt H l
  po : PolyAt C H p r
  od : OddT R H v t
  tb : Tabs T H
section
variable {R C : Addr} {T : List (Addr × Str)} {l p : Addr} {r : List Int} {v : V} {t : Str} {H H' : Hp}
theorem Fx.same (h : Fx R C T l p r v t H) (s : Same H H') : Fx R C T l p r v t H' := ⟨h.pot.same s, h.po.same s, h.od.same s, h.tb.ext s⟩
theorem Fx.ext (h : Fx R C T l p r v t H) (s : ExtN H H') (tb : Tabs T H') : Fx R C T l p r v t H' := ⟨h.pot.ext s, h.po.ext s, h.od.ext s, tb⟩
theorem rf_go {Dn Dp D : Addr} {nm : Str} {σ : St} {tE : XK → TE} {Q : VK} (h : Fx R C T l p r v t H) (hk : Kind Dn Dp D nm) (body : ∀ (H2 : Hp) (E : XK) (Q' : VK), Fx R C T l p r v t H2 → XW D v H2 E → tE E σ H2 Q')
    (k : ∀ (H2 : Hp) (a : Addr), ExtN H H2 → Fx R C T l p r v t H2 → H2 a = some (.lst [.str nm, v, .bl true]) → v ≠ .ref a → Q (.ref a) H2) : Tabs T H ∧ ∀ H1, ExtN H H1 → Tabs T H1 → TTr Dn Dp (fun E G Q' => tE E σ G Q') H1 Q := by
  refine ⟨h.tb, fun H1 x1 t1 => ⟨D, nm, v, hk, fun E Q' xw => body H1 E Q' (h.ext x1 t1) xw, fun H2 a s2 hn e => ?_⟩⟩
  exact k H2 a (x1.trans (ExtN.of s2)) ((h.ext x1 t1).same s2) e ((h.ext x1 t1).od.ne hn)
end
end S70

namespace S70
open PySem L2 SR RA TXM
open LamX (Tabs ExtN LamS lamCx lamEnv TabB)
open PyProof.Rows (envOfC)
theorem made_same {C x dx : Addr} {H1 H' : Hp} (sx : SameX x (upd (upd H1 dx (.own x)) x (.ins C dx [])) H') (hx : H1 x = none) (hd : H1 dx = none) : Same H1 H' := fun b o e =>
  sx b o (ne_of_none e hx) (by rw [upd_ne (ne_of_none e hx), upd_ne (ne_of_none e hd), e])
theorem bt_small {p : Int × Int} (h1 : p.1.natAbs ≤ 1000) (h2 : p.2.natAbs ≤ 1000) : Bt 1900 p := ⟨big1900 h1, big1900 h2⟩
/-- the list of refusals at L, made behind K0 -/
structure ToldAt (K0 : Hp) (L : Addr) (u : V) (as : List Addr) (G : Hp) : Prop where
  ex : ExtN K0 G
  ls : G L = some (.lst (as.map V.ref))
  all : ∀ a ∈ as, G a = some (.lst [.str "polynomial", u, .bl true]) ∧ u ≠ .ref a
theorem ToldAt.more {K0 G G' : Hp} {L a : Addr} {u : V} {as : List Addr} (h : ToldAt K0 L u as G) (hL : K0 L = none) (x : ExtN G G') (ha : G' a = some (.lst [.str "polynomial", u, .bl true])) (na : u ≠ .ref a) : ToldAt K0 L u (as ++ [a]) (upd G' L (.lst (as.map V.ref ++ [.ref a]))) := by
  have hl := x _ _ h.ls (fun _ z => nomatch z)
  have ne : ∀ b, G' b = some (.lst [.str "polynomial", u, .bl true]) → b ≠ L := fun b hb z => by
    rw [z, hl] at hb
    have e := congrArg (fun o : Option HO => match o with | some (.lst (y :: _)) => some y | _ => none) hb
    cases as with
    | nil => exact nomatch e
    | cons c cs => exact nomatch e
  refine ⟨fun b o hb ho => ?_, by rw [upd_same, List.map_append]; rfl, fun b hb => ?_⟩
  · rw [upd_ne (ne_of_none hb hL)]
    exact x _ _ (h.ex _ _ hb ho) ho
  · rcases List.mem_append.mp hb with hb | hb
    · obtain ⟨e, n⟩ := h.all b hb
      have e' := x _ _ e (fun _ z => nomatch z)
      exact ⟨by rw [upd_ne (ne b e'), e'], n⟩
    · rw [List.mem_singleton.mp hb]
      exact ⟨by rw [upd_ne (ne a ha), ha], na⟩
/-- a list that begins with an object is none of the things at hand -/
theorem Fx.putL {R C : Addr} {T : List (Addr × Str)} {l p L a : Addr} {r : List Int} {v : V} {t : Str} {H : Hp} {xs ys : List V} (h : Fx R C T l p r v t H) (hL : H L = some (.lst (.ref a :: xs))) : Fx R C T l p r v t (upd H L (.lst ys)) := by
  have ap : ∀ {b : Addr} {o : HO}, H b = some o → (∀ zs, o ≠ .lst (.ref a :: zs)) → upd H L (.lst ys) b = some o := fun {b o} e n => by
    rw [upd_ne (fun z => n xs (Option.some.inj ((z ▸ e).symm.trans hL))), e]
  refine ⟨?_, ?_, ?_, tabs_set h.tb hL⟩
  · obtain ⟨x, y, e, k⟩ := h.pot
    exact ⟨x, y, ap e (fun zs z => nomatch z), k⟩
  · obtain ⟨dx, u, e1, e2⟩ := h.po
    exact ⟨dx, u, ap e1 (fun zs z => nomatch z), ap e2 (fun zs z => nomatch z)⟩
  · cases h.od with
    | non => exact .non
    | bl b => exact .bl b
    | str hs => exact .str hs
    | int hs => exact .int hs
    | rat r bp => obtain ⟨dx, e⟩ := r; exact .rat ⟨dx, ap e (fun zs z => nomatch z)⟩ bp
    | nil e => exact .nil (ap e (fun zs z => nomatch z))
    | one e => exact .one (ap e (fun zs z => nomatch z))
    | tup1 e => exact .tup1 (ap e (fun zs z => nomatch z))
    | tup2 e => exact .tup2 (ap e (fun zs z => nomatch z))
    | d0 e => exact .d0 (ap e (fun zs z => nomatch z))
section
variable {P : Program} {w : World} {K : PySem.W.Frag} {mg : Str → Option Value} {base : Heap}
/-! ### _law_refusals_right -/
abbrev nRefR : List Str := ["_law_rng_here", "_law_made_here", "_law_odd", "_law_far", "_law_told"]
theorem scRefR : FnScope nRefR ["_law_rng_here", "_law_made_here"] (defScope sRefR) := ⟨rfl, rfl, rfl, by decide +kernel, rfl, by decide +kernel, by decide +kernel⟩
def spRefR (C : Addr) (T : List (Addr × Str)) : Sp := fun vs H Q _ => ∃ (l p : Addr) (r : List Int), vs = [.ref l, .ref p] ∧ PotAt H l ∧ PolyAt C H p r ∧ Tabs T H ∧ ∀ H' : Hp, ExtX l H H' → PotAt H' l → Tabs T H' → Q (.bl true) H'
theorem ok_refR {f c Pt R C Dn Dp S fI : Addr} {fd : FuncData} (F : Fun K "_law_refusals_right" "_law_refusals_right" sRefR f fd) (hc : fd.code = .ref c) (TB : TabB base mg c Pt) (B : Bn mg) (M : RRp P w K mg base R) (N : Pc K mg R C) (Z : Two P w K mg base R Dn Dp S) (W : PX P w K mg base R C Dp) (RF : Rfd K mg)
    (mkI : Mk K C fI) (FI : FnRG P w K mg base (L2.CX P w) 9 fI (spStarX R Dn)) (AX : ∃ g gd, Meth K C "at" g ∧ Binds K gd ["self", "d"] [] ∧ FnG P w K mg base (L2.CX P w) 9 g gd ["self", "d"] (spAtX R Dn)) (DC : Df P w K mg base "_law_choice" ["_law_rng_here", "_law_some"] 2 spChoice) :
    FnG P w K mg base CX0 14 f fd ["_law_rng_here", "_law_made_here"] (spRefR C [(Pt, qL)]) := by
  obtain ⟨oc, od, kV, doc, pm, an, cdv, ct, osl, rfl, lk, hcd⟩ := F.ex
  obtain rfl : cdv = .ref c := hc
  refine fn_ofG lk hcd scRefR (fun vs H Q E h => ?_) fun A outer s H vs Q E gd hr h => ?_
  · obtain ⟨l, p, r, rfl, _⟩ := h
    rfl
  · obtain ⟨l, p, r, rfl, hl, hp, htb, q⟩ := h
    obtain ⟨gA, gdA, mA, bA, FA⟩ := AX
    have gd2 : (A.deeper (envOfC "_law_refusals_right" (defScope sRefR) s.heap.objs.size f (.ref c))).guards = some [] := deeper_guards.trans gd
    have h2 : Room 2 _ := hr.mono (by decide)
    have h3 : Room 3 _ := hr.mono (by decide)
    refine ⟨_, PSs.nox (pss_cons (ps_set (i := 2) scRefR.nd rfl (Or.inr rfl) (pe_df DC h2 (by rfl) (pa_cons (pv 0) (pa_cons (pe_lst (pa_cons pe_non (pa_cons pe_bl (pa_cons pe_bl (pa_cons pe_str (pa_cons pe_str (pa_cons (pe_lst pa_nil) (pa_cons (pe_tup (pa_cons pe_int pa_nil)) (pa_cons pe_dnewK (pa_cons (pe_lst (pa_cons pe_int pa_nil)) (pa_cons pe_str (pa_cons (pe_rat1 M.rm h3 (by rfl) (pa_cons pe_int pa_nil)) (pa_cons (pe_rat1 M.rm h3 (by rfl) (pa_cons pe_int pa_nil)) (pa_cons (pe_rat2 M.rm h3 (by rfl) (pa_cons pe_int (pa_cons pe_int pa_nil))) pa_nil)))))))))))))) pa_nil))))
      (pss_cons (ps_if (pt_cmpR op_ne (pe_callB (call_sg (k := 7) gd2 (hr.mono (by decide))) (by rfl) B.repr (by decide +kernel) (pa_cons (pe_ref1 (T := [(Pt, qL)]) RF Z B gd2 (by rfl) TB rfl (List.mem_singleton.mpr rfl) (fun q hq _ => by rw [List.mem_singleton.mp hq]; rfl) hr (LamX.lamS_by (by show LamX.lamSB (defScope sRefR) _ = true; decide +kernel)) rfl (fun _ _ _ _ _ => rfl) (fun A outer s H E f c' g2 hr2 => pe_makeRG mkI FI (deeper_guards.trans g2) (hr2.mono (by decide)) (by rfl) N.mgC (passes_call (takes_of (E := E) rfl rfl rfl rfl) fun _ _ _ _ z => z) (pa_cons pe_int (pa_cons (pv 2) (pa_cons pe_non pa_nil))))) pa_nil)) (pe_callB (call_sg (k := 7) gd2 (hr.mono (by decide))) (by rfl) B.repr (by decide +kernel) (pa_cons (pe_lst (pa_cons pe_str (pa_cons (pv 2) (pa_cons pe_bl pa_nil)))) pa_nil)) (nomark _)) (pss_one (ps_ret pe_bl)) pss_nil)
      (pss_cons (ps_if (pt_cmpR op_ne (pe_callB (call_sg (k := 7) gd2 (hr.mono (by decide))) (by rfl) B.repr (by decide +kernel) (pa_cons (pe_ref1 (T := [(Pt, qL)]) RF Z B gd2 (by rfl) TB rfl (List.mem_singleton.mpr rfl) (fun q hq _ => by rw [List.mem_singleton.mp hq]; rfl) hr (LamX.lamS_by (by show LamX.lamSB (defScope sRefR) _ = true; decide +kernel)) rfl (fun _ _ _ _ _ => rfl) (fun A outer s H E f c' g2 hr2 => pe_methG (pv 1) N.cl mA FA (deeper_guards.trans g2) (hr2.mono (by decide)) bA (passes_call (takes_of (E := E) rfl rfl rfl rfl) fun _ _ _ _ z => z) (pa_cons (pv 2) pa_nil))) pa_nil)) (pe_callB (call_sg (k := 7) gd2 (hr.mono (by decide))) (by rfl) B.repr (by decide +kernel) (pa_cons (pe_lst (pa_cons pe_str (pa_cons (pv 2) (pa_cons pe_bl pa_nil)))) pa_nil)) (nomark _)) (pss_one (ps_ret pe_bl)) pss_nil)
      (pss_cons (ps_set (i := 3) scRefR.nd rfl (Or.inr rfl) (pe_df DC h2 (by rfl) (pa_cons (pv 0) (pa_cons (pe_lst (pa_cons (pv 2) (pa_cons pe_int (pa_cons pe_int (pa_cons (pe_un un_neg pe_int) (pa_cons (pe_tup (pa_cons pe_int (pa_cons pe_int pa_nil))) pa_nil)))))) pa_nil))))
      (pss_cons (ps_set (i := 4) scRefR.nd rfl (Or.inl rfl) (pe_lst (pa_cons (pe_ref1 (T := [(Pt, qL)]) RF Z B gd2 (by rfl) TB rfl (List.mem_singleton.mpr rfl) (fun q hq _ => by rw [List.mem_singleton.mp hq]; rfl) hr (LamX.lamS_by (by show LamX.lamSB (defScope sRefR) _ = true; decide +kernel)) rfl (fun _ _ _ _ _ => rfl) (fun A outer s H E f c' g2 hr2 => pe_opX (.inl rfl) M.rm.rc N W (deeper_guards.trans g2) (hr2.mono (by decide)) (passes_call (takes_of (E := E) rfl rfl rfl rfl) fun _ _ _ _ z => z) (pv 1) (pv 3))) pa_nil)))
      (pss_cons (ps_expr (pe_bm PySem.F.plainAttrs_list PySem.F.slot_list_append PySem.F.type_list_append mt_append (pv 4) (pa_cons (pe_ref1 (T := [(Pt, qL)]) RF Z B gd2 (by rfl) TB rfl (List.mem_singleton.mpr rfl) (fun q hq _ => by rw [List.mem_singleton.mp hq]; rfl) hr (LamX.lamS_by (by show LamX.lamSB (defScope sRefR) _ = true; decide +kernel)) rfl (fun _ _ _ _ _ => rfl) (fun A outer s H E f c' g2 hr2 => pe_opX (.inr (.inl rfl)) M.rm.rc N W (deeper_guards.trans g2) (hr2.mono (by decide)) (passes_call (takes_of (E := E) rfl rfl rfl rfl) fun _ _ _ _ z => z) (pv 1) (pv 3))) pa_nil)))
      (pss_cons (ps_expr (pe_bm PySem.F.plainAttrs_list PySem.F.slot_list_append PySem.F.type_list_append mt_append (pv 4) (pa_cons (pe_ref1 (T := [(Pt, qL)]) RF Z B gd2 (by rfl) TB rfl (List.mem_singleton.mpr rfl) (fun q hq _ => by rw [List.mem_singleton.mp hq]; rfl) hr (LamX.lamS_by (by show LamX.lamSB (defScope sRefR) _ = true; decide +kernel)) rfl (fun _ _ _ _ _ => rfl) (fun A outer s H E f c' g2 hr2 => pe_opX (.inr (.inr rfl)) M.rm.rc N W (deeper_guards.trans g2) (hr2.mono (by decide)) (passes_call (takes_of (E := E) rfl rfl rfl rfl) fun _ _ _ _ z => z) (pv 1) (pv 3))) pa_nil)))
      (pss_one (ps_ret (pe_cmpR op_eq (pe_callB (call_sg (k := 8) gd2 (hr.mono (by decide))) (by rfl) B.repr (by decide +kernel) (pa_cons (pv 4) pa_nil)) (pe_callB (call_sg (k := 8) gd2 (hr.mono (by decide))) (by rfl) B.repr (by decide +kernel) (pa_cons (pe_op op_rep (pe_lst (pa_cons (pe_lst (pa_cons pe_str (pa_cons (pv 3) (pa_cons pe_bl pa_nil)))) pa_nil)) pe_int) pa_nil)) (nomark _))))))))))), ?_⟩
    have e11 : nf 1 1 = (1, 1) := by decide +kernel
    have e01 : nf 0 1 = (0, 1) := by decide +kernel
    have e12 : nf 1 2 = (1, 2) := by decide +kernel
    refine ⟨_, rfl, Nat.zero_le _, fun a1 n1 => ?_⟩
    have s1 := sNew (o := .lst []) (Same.refl H) n1
    refine ⟨(by show 1 ≤ sizeLine; decide), fun a2 n2 => ?_⟩
    have s2 := sNew (o := .tup [.int 1]) s1 n2
    refine fun a3 n3 => ?_
    have s3 := sNew (o := .dK []) s2 n3
    refine ⟨(by show 1 ≤ sizeLine; decide), fun a4 n4 => ?_⟩
    have s4 := sNew (o := .lst [.int 1]) s3 n4
    generalize hG : upd (upd (upd (upd H a1 _) a2 _) a3 _) a4 _ = G at s4 ⊢
    have k1 : G a1 = some (.lst []) := by rw [← hG]; exact old (old (old upd_same n2) n3) n4
    have k2 : G a2 = some (.tup [.int 1]) := by rw [← hG]; exact old (old upd_same n3) n4
    have k3 : G a3 = some (.dK []) := by rw [← hG]; exact old upd_same n4
    have k4 : G a4 = some (.lst [.int 1]) := by rw [← hG]; exact upd_same
    refine fun x1 d1 hx1 hd1 ne1 => ⟨x1, d1, 1, 1, rfl, upd_same, by decide, big1900 (n := 1) (by decide), big1900 (n := 1) (by decide), fun G1 sg1 at1 => ⟨rfl, ?_⟩⟩
    have t1 : Same G G1 := made_same sg1 hx1 hd1
    have r1 : RatAt R G1 x1 (nf 1 1) := ⟨d1, at1⟩
    refine fun x2 d2 hx2 hd2 ne2 => ⟨x2, d2, 0, 1, rfl, upd_same, by decide, big1900 (n := 0) (by decide), big1900 (n := 1) (by decide), fun G2 sg2 at2 => ⟨rfl, ?_⟩⟩
    have t2 : Same G1 G2 := made_same sg2 hx2 hd2
    have r2 : RatAt R G2 x2 (nf 0 1) := ⟨d2, at2⟩
    refine fun x3 d3 hx3 hd3 ne3 => ⟨x3, d3, 1, 2, rfl, upd_same, by decide, big1900 (n := 1) (by decide), big1900 (n := 2) (by decide), fun G3 sg3 at3 => ⟨rfl, ?_⟩⟩
    have t3 : Same G2 G3 := made_same sg3 hx3 hd3
    have r3 : RatAt R G3 x3 (nf 1 2) := ⟨d3, at3⟩
    rw [e11] at r1
    rw [e01] at r2
    rw [e12] at r3
    have t123 := Same.trans t1 (Same.trans t2 t3)
    refine ⟨(by show 13 ≤ sizeLine; decide), fun Lo hLo => ?_⟩
    have s5 := sNew (o := .lst [V.non, .bl true, .bl false, .str "1", .str "", .ref a1, .ref a2, .ref a3, .ref a4, .str "d", .ref x1, .ref x2, .ref x3]) (Same.trans s4 t123) hLo
    have hlo := hl.same s5
    have nLo : Lo ≠ l := (hl.same (Same.trans s4 t123)).ne hLo
    refine ⟨l, Lo, _, rfl, hlo, upd_same, nLo, (by show 1 ≤ 13; decide), (by show 13 ≤ 1000; decide), fun G4 v sx4 hl4 hv => ?_⟩
    have up : Same G (upd G3 Lo (.lst [V.non, .bl true, .bl false, .str "1", .str "", .ref a1, .ref a2, .ref a3, .ref a4, .str "d", .ref x1, .ref x2, .ref x3])) := sNew t123 hLo
    have up3 : Same G3 (upd G3 Lo (.lst [V.non, .bl true, .bl false, .str "1", .str "", .ref a1, .ref a2, .ref a3, .ref a4, .str "d", .ref x1, .ref x2, .ref x3])) := sNew (Same.refl G3) hLo
    have odd : ∃ tt, OddT R (upd G3 Lo (.lst [V.non, .bl true, .bl false, .str "1", .str "", .ref a1, .ref a2, .ref a3, .ref a4, .str "d", .ref x1, .ref x2, .ref x3])) v tt ∧ OddN R (upd G3 Lo (.lst [V.non, .bl true, .bl false, .str "1", .str "", .ref a1, .ref a2, .ref a3, .ref a4, .str "d", .ref x1, .ref x2, .ref x3])) v := by
      have no : ∀ {u : V} {x : Str} {G' : Hp}, OddT R G' u x → (∀ i, u ≠ .int i) → ∃ tt, OddT R G' u tt ∧ OddN R G' u := fun {u x G'} o n => ⟨x, o, o.kind.resolve_left fun ⟨i, z⟩ => n i z⟩
      simp only [List.mem_cons, List.not_mem_nil, or_false] at hv
      rcases hv with rfl | rfl | rfl | rfl | rfl | rfl | rfl | rfl | rfl | rfl | rfl | rfl | rfl
      · exact no .non fun i z => nomatch z
      · exact no (.bl true) fun i z => nomatch z
      · exact no (.bl false) fun i z => nomatch z
      · exact no (.str (.inl rfl)) fun i z => nomatch z
      · exact no (.str (.inr (.inl rfl))) fun i z => nomatch z
      · exact no (.nil (up _ _ k1)) fun i z => nomatch z
      · exact no (.tup1 (up _ _ k2)) fun i z => nomatch z
      · exact no (.d0 (up _ _ k3)) fun i z => nomatch z
      · exact no (.one (up _ _ k4)) fun i z => nomatch z
      · exact no (.str (.inr (.inr rfl))) fun i z => nomatch z
      · exact no (.rat (r1.same (Same.trans t2 (Same.trans t3 up3))) (bt_small (by decide) (by decide))) fun i z => nomatch z
      · exact no (.rat (r2.same (Same.trans t3 up3)) (bt_small (by decide) (by decide))) fun i z => nomatch z
      · exact no (.rat (r3.same up3) (bt_small (by decide) (by decide))) fun i z => nomatch z
    obtain ⟨tt, od0, on0⟩ := odd
    have od4 := od0.sameX hlo sx4
    have on : OddN R G4 v := OddN.of od4 on0
    have F0 : Fx R C [(Pt, qL)] l p r v tt G4 := ⟨hl4, (hp.same s5).sameX hlo sx4, od4, tabs_sameX hlo sx4 (htb.ext s5)⟩
    have X0 : ExtX l H G4 := ExtX.ofX (SameX.trans (SameX.of s5) sx4)
    clear hlo sx4 od0 on0 up up3 s5 hv
    refine rf_go (D := Dn) (nm := "number") F0 (.inl ⟨rfl, rfl⟩) (fun H2 E Q' fx xw => by
      refine ⟨_, rfl, fun x dx hx hdx ne => ⟨[.ref x], [.int 1, v, .non], rfl, rfl, (by show 3 ≤ sizeLine; decide), fun pt hpt => ?_⟩⟩
      have s1 : Same H2 (upd (upd (upd H2 dx (.own x)) x (.ins C dx [])) pt (.tup [.int 1, v, .non])) := sNew (sNew (sNew (Same.refl H2) hdx) (by rw [upd_ne ne.symm]; exact hx)) hpt
      exact ⟨x, pt, v, tt, rfl, upd_same, fx.od.same s1, OddN.of (fx.od.same s1) on, xw.same s1⟩) (fun H2 a x2 fx2 ha na => ?_)
    refine ⟨.ref a, toldT "number" tt, fun H' => H' = H2, _, rfl, rfl, sg_told M (.inl rfl) ha na fx2.od, le_line (Nat.le_trans (told_len (.inl rfl) fx2.od.len) (by decide)), fun H' j => ?_⟩
    subst j
    refine ⟨_, rfl, (by show 3 ≤ sizeLine; decide), fun b hb => ?_⟩
    have sb := sNew (o := .lst [.str "number", v, .bl true]) (Same.refl _) hb
    refine ⟨.ref b, toldT "number" tt, fun H' => H' = _, _, rfl, rfl, sg_told M (.inl rfl) upd_same (fx2.od.ne hb) (fx2.od.same sb), le_line (Nat.le_trans (told_len (.inl rfl) fx2.od.len) (by decide)), fun H' j => ?_⟩
    subst j
    refine ⟨rfl, _, rfl, ?_⟩
    rw [decide_eq_true rfl]
    refine iteF ?_
    have F1 := fx2.same sb
    have X1 := X0.trans (ExtX.ofN (x2.trans (ExtN.of sb)))
    generalize upd _ b (.lst [.str "number", v, .bl true]) = G1 at F1 X1 ⊢
    refine rf_go (D := Dn) (nm := "number") F1 (.inl ⟨rfl, rfl⟩) (fun H2 E Q' fx xw => by
      obtain ⟨dx, u, e1, e2⟩ := id fx.po
      exact ⟨_, rfl, p, dx, _, rfl, e1, rfl, _, rfl, p, v, tt, rfl, fx.od, OddN.of fx.od on, xw⟩) (fun H2 a x2 fx2 ha na => ?_)
    refine ⟨.ref a, toldT "number" tt, fun H' => H' = H2, _, rfl, rfl, sg_told M (.inl rfl) ha na fx2.od, le_line (Nat.le_trans (told_len (.inl rfl) fx2.od.len) (by decide)), fun H' j => ?_⟩
    subst j
    refine ⟨_, rfl, (by show 3 ≤ sizeLine; decide), fun b hb => ?_⟩
    have sb := sNew (o := .lst [.str "number", v, .bl true]) (Same.refl _) hb
    refine ⟨.ref b, toldT "number" tt, fun H' => H' = _, _, rfl, rfl, sg_told M (.inl rfl) upd_same (fx2.od.ne hb) (fx2.od.same sb), le_line (Nat.le_trans (told_len (.inl rfl) fx2.od.len) (by decide)), fun H' j => ?_⟩
    subst j
    refine ⟨rfl, _, rfl, ?_⟩
    rw [decide_eq_true rfl]
    refine iteF ?_
    have F2 := fx2.same sb
    have X2 := X1.trans (ExtX.ofN (x2.trans (ExtN.of sb)))
    generalize upd _ b (.lst [.str "number", v, .bl true]) = G2 at F2 X2 ⊢
    refine ⟨_, rfl, _, rfl, _, rfl, (by show 2 ≤ sizeLine; decide), fun c1 m1 => ?_⟩
    have sc := sNew (o := .tup [V.int 1, .int 2]) (Same.refl G2) m1
    refine ⟨(by show 5 ≤ sizeLine; decide), fun Lf hLf => ?_⟩
    have sf := sNew (o := .lst [v, .int 0, .int 1, .int (-3), .ref c1]) sc hLf
    have Ff := F2.same sf
    have nLf : Lf ≠ l := (F2.pot.same sc).ne hLf
    have kc := old (o := .lst [v, .int 0, .int 1, .int (-3), .ref c1]) (upd_same (H := G2) (a := c1) (o := .tup [V.int 1, .int 2])) hLf
    refine ⟨l, Lf, _, rfl, Ff.pot, upd_same, nLf, (by show 1 ≤ 5; decide), (by show 5 ≤ 1000; decide), fun G5 u sx5 hl5 hu => ?_⟩
    have oddu : ∃ tu, OddT R (upd (upd G2 c1 (.tup [V.int 1, .int 2])) Lf (.lst [v, .int 0, .int 1, .int (-3), .ref c1])) u tu := by
      simp only [List.mem_cons, List.not_mem_nil, or_false] at hu
      rcases hu with rfl | rfl | rfl | rfl | rfl
      · exact ⟨_, Ff.od⟩
      · exact ⟨_, .int (big1900 (n := 0) (by decide))⟩
      · exact ⟨_, .int (big1900 (n := 1) (by decide))⟩
      · exact ⟨_, .int (big1900 (n := 3) (by decide))⟩
      · exact ⟨_, .tup2 kc⟩
    obtain ⟨tu, ou⟩ := oddu
    have F5 : Fx R C [(Pt, qL)] l p r u tu G5 := ⟨hl5, Ff.po.sameX Ff.pot sx5, ou.sameX Ff.pot sx5, tabs_sameX Ff.pot sx5 Ff.tb⟩
    have X5 : ExtX l H G5 := X2.trans (ExtX.ofX (SameX.trans (SameX.of sf) sx5))
    clear kc ou Ff sx5 hu
    refine rf_go (D := Dp) (nm := "polynomial") F5 (.inr ⟨rfl, rfl⟩) (fun H2 E Q' fx xw => px_vars rfl rfl fx.po fx.od xw) (fun K0 a1 x6 F6 g1 na1 => ?_)
    refine ⟨(by show 1 ≤ sizeLine; decide), fun L hL => ?_⟩
    have nuL : u ≠ .ref L := F6.od.ne hL
    have sL := sNew (o := .lst [.ref a1]) (Same.refl K0) hL
    have F7 := F6.same sL
    have W7 : ToldAt K0 L u [a1] (upd K0 L (.lst [.ref a1])) := ⟨ExtN.of sL, upd_same, fun a ha => by rw [List.mem_singleton.mp ha]; exact ⟨old g1 hL, na1⟩⟩
    generalize upd K0 L (.lst [.ref a1]) = K1 at F7 W7 ⊢
    refine ⟨_, rfl, .inl ⟨rfl, _, SqL.of W7.ls⟩, rf_go (D := Dp) (nm := "polynomial") F7 (.inr ⟨rfl, rfl⟩) (fun H2 E Q' fx xw => px_vars rfl rfl fx.po fx.od xw) (fun K2 a2 x8 F8 g2 na2 => ?_)⟩
    refine ⟨L, _, _, rfl, rfl, x8 _ _ W7.ls (fun _ z => nomatch z), (by show 1 < sizeLine; decide), ?_⟩
    have W8 := W7.more hL x8 g2 na2
    have F9 := F8.putL (x8 _ _ W7.ls (fun _ z => nomatch z)) (ys := [.ref a1, .ref a2])
    have W9 : ToldAt K0 L u [a1, a2] (upd K2 L (.lst [.ref a1, .ref a2])) := W8
    show tSeq _ _ _ _ (upd K2 L (.lst [.ref a1, .ref a2]))
    generalize upd K2 L (.lst [.ref a1, .ref a2]) = K3 at F9 W9 ⊢
    refine ⟨_, rfl, .inl ⟨rfl, _, SqL.of W9.ls⟩, rf_go (D := Dp) (nm := "polynomial") F9 (.inr ⟨rfl, rfl⟩) (fun H2 E Q' fx xw => px_vars rfl rfl fx.po fx.od xw) (fun K4 a3 x10 F10 g3 na3 => ?_)⟩
    refine ⟨L, _, _, rfl, rfl, x10 _ _ W9.ls (fun _ z => nomatch z), (by show 2 < sizeLine; decide), ?_⟩
    have W11 : ToldAt K0 L u [a1, a2, a3] (upd K4 L (.lst [.ref a1, .ref a2, .ref a3])) := W9.more hL x10 g3 na3
    have F11 := F10.putL (x10 _ _ W9.ls (fun _ z => nomatch z)) (ys := [.ref a1, .ref a2, .ref a3])
    obtain ⟨K5, hK5⟩ : ∃ G : Hp, G = upd K4 L (.lst [.ref a1, .ref a2, .ref a3]) := ⟨_, rfl⟩
    rw [← hK5] at F11 W11
    have w1 := W11.all a1 (by simp)
    have w2 := W11.all a2 (by simp)
    have w3 := W11.all a3 (by simp)
    refine ⟨_, rfl, .ref L, _, fun H' => H' = K5, _, rfl, hK5.symm, sg_three M (.inr rfl) W11.ls w1.1 w2.1 w3.1 w1.2 w2.2 w3.2 nuL F11.od, three_len (.inr rfl) F11.od.len, fun H' j => ?_⟩
    subst j
    refine ⟨_, rfl, (by show 3 ≤ sizeLine; decide), fun i1 hi1 => ?_⟩
    refine ⟨(by show 1 ≤ sizeLine; decide), fun o1 ho1 => ?_⟩
    refine ⟨o1, _, _, rfl, rfl, upd_same, by decide, by decide, by show 1 * 3 ≤ sizeLine; decide, fun o2 ho2 => ?_⟩
    have sq1 := sNew (o := .lst [.str "polynomial", u, .bl true]) (Same.refl H') hi1
    have sq2 := sNew (o := .lst [.ref i1]) sq1 ho1
    have sq3 := sNew (o := .lst [.ref i1, .ref i1, .ref i1]) sq2 ho2
    have gi := old (o := .lst [.ref i1, .ref i1, .ref i1]) (old (o := .lst [.ref i1]) (upd_same (H := H') (a := i1) (o := .lst [.str "polynomial", u, .bl true])) ho1) ho2
    have ni : u ≠ .ref i1 := F11.od.ne hi1
    have no2 : u ≠ .ref o2 := (F11.od.same sq2).ne ho2
    refine ⟨.ref o2, _, fun G => G = _, _, rfl, rfl, sg_three M (.inr rfl) upd_same gi gi gi ni ni ni no2 (F11.od.same sq3), three_len (.inr rfl) F11.od.len, fun G j => ?_⟩
    subst j
    refine ⟨rfl, ?_⟩
    rw [decide_eq_true rfl]
    have F12 := F11.same sq3
    exact q _ (X5.trans (ExtX.ofN (x6.trans (W11.ex.trans (ExtN.of sq3))))) F12.pot F12.tb
end
end S70

namespace S70
open PySem L2 SR RA TXM
open PyProof.Rows (envOfC)
/-! ### rows -/
def negR (r : List Int) : List Int := r.map fun a => -a
theorem neg_opp (r : List Int) : negR r = oppR r := by
  unfold negR oppR
  congr 1
  funext a
  omega
theorem row_neg (r : List Int) : trim (oppR (trim r)) = trim (negR r) := by
  rw [neg_opp]
  exact trim_ev fun x => by rw [ev_oppR, ev_oppR, ev_trim]
theorem row_sum (r q : List Int) : trim (addR (trim r) (trim q)) = trim (trim (addR r (byR 1 q))) := by
  rw [by_one]
  exact trim_ev fun x => by rw [ev_trim, ev_addR, ev_addR, ev_trim, ev_trim]
theorem row_sub (r q : List Int) : trim (addR (trim r) (oppR (trim q))) = trim (trim (addR r (byR (-1) q))) := by
  rw [by_neg]
  exact trim_ev fun x => by rw [ev_trim, ev_addR, ev_addR, ev_oppR, ev_oppR, ev_trim, ev_trim]
theorem row_mul (r q : List Int) : trim (mulR (trim r) (trim q)) = trim (trim (mulR r q)) := trim_ev fun x => by rw [ev_trim, ev_mulR, ev_mulR, ev_trim, ev_trim]
theorem row_none (r : List Int) : trim (addR r (oppR r)) = trim [] := trim_ev fun x => by
  rw [ev_addR, ev_oppR]
  show _ = (0 : Int)
  omega
theorem row_again (r : List Int) : trim (trim r) = trim r := trim_trim (trim_ex r).2
theorem bd_mulR {n m : Nat} {r q : List Int} (hr : Bd n r) (hq : Bd m q) (hl : r.length + q.length ≤ 32) : Bd (n + m + 6) (mulR r q) := fun y hy => by
  obtain ⟨k, hk, rfl⟩ := List.mem_map.mp hy
  have hk := List.mem_range.mp hk
  have h := sum_bd (n := n + m) ((List.range (k + 1)).map fun low => r.getD low 0 * q.getD (k - low) 0) 5 (fun z hz => by
    obtain ⟨low, _, rfl⟩ := List.mem_map.mp hz
    exact bd_mul (hr.getD _) (hq.getD _)) (by simp; omega)
  have h2 : 2 ^ (n + m + 5) + 1 ≤ 2 ^ (n + m + 6) := by
    have := Nat.one_le_two_pow (n := n + m + 5)
    rw [Nat.pow_succ 2 (n + m + 5)]; omega
  exact Nat.lt_of_lt_of_le h h2
theorem bd_negR {n : Nat} {r : List Int} (h : Bd n r) : Bd n (negR r) := by rw [neg_opp]; exact h.opp
theorem bd_set {r : List Int} {j : Nat} {a : Int} (h : Bd 80 r) (ha : a.natAbs < 2 ^ 81) : Bd 81 (r.set j a) := fun b hb => by
  rcases List.mem_or_eq_of_mem_set hb with hb | rfl
  · exact Nat.lt_of_lt_of_le (h b hb) (pow_mono (by decide))
  · exact ha
theorem PolyAt.to {C : Addr} {H : Hp} {p : Addr} {c d : List Int} (e : c = d) (h : PolyAt C H p c) : PolyAt C H p d := e ▸ h
/-! ### == and != -/
section
variable {X : Cx} {R C : Addr}
theorem nfI {K : PySem.W.Frag} {C : Addr} {T : String} (h : PySem.W.subIn K (.type T) (.ref C) = some false) : PySem.W.notFirst K C (.type T) = true := by
  unfold PySem.W.notFirst
  rw [h]
  simp
def rPEq (C : Addr) (neg : Bool) : R2 := fun x y H Q => ∃ (a b : Addr) (r q : List Int), x = .ref a ∧ y = .ref b ∧ PolyAt C H a r ∧ PolyAt C H b q ∧ Q (.bl (xor neg (decide (r = q)))) H
theorem peq_own {neg : Bool} (x y : V) (H : Hp) (Q : VK) (h : rPEq C neg x y H Q) : rOwnEq C (spEqP C) neg x y H Q := by
  obtain ⟨a, b, r, q, rfl, rfl, ha, hb, k⟩ := h
  obtain ⟨dx, t, h1, h2⟩ := id ha
  obtain ⟨dy, u, g1, g2⟩ := id hb
  exact ⟨a, dx, _, _, rfl, h1, .ins g1, a, _, r, rfl, ha, .inl ⟨b, q, rfl, hb, _, rfl, k⟩⟩
theorem op_peq (N : PAll X.prog X.w X.K X.mg X.base R C) (hr : Room 5 X.A) : OpR X (compareOp .Eq) (rPEq C false) := by
  obtain ⟨g, h1, h2, h3, h4⟩ := N.eq
  exact OpR.imp (op_ownEq h1 h2 (nfI N.op.pl.pm.pc.si) (nfI N.op.pl.pm.pc.ss) h3 hr) peq_own
theorem op_pne (N : PAll X.prog X.w X.K X.mg X.base R C) (hr : Room 6 X.A) : OpR X (compareOp .NotEq) (rPEq C true) := by
  obtain ⟨g, h1, h2, h3, h4⟩ := N.eq
  exact OpR.imp (op_ownNe h1 h2 h4 N.op.pl.pm.pc.mo (nfI N.op.pl.pm.pc.si) (nfI N.op.pl.pm.pc.ss) h3 hr) peq_own
/-- x == y, y no polynomial -/
def rPOther (C : Addr) : R2 := fun x y H Q => ∃ (a : Addr) (r : List Int), x = .ref a ∧ PolyAt C H a r ∧ ((∃ n, y = .int n) ∨ ∃ T, OddV H y T) ∧ Q (.bl false) H
theorem op_pother (N : PAll X.prog X.w X.K X.mg X.base R C) (hr : Room 5 X.A) : OpR X (compareOp .Eq) (rPOther C) := by
  obtain ⟨g, h1, h2, h3, h4⟩ := N.eq
  have a1 := op_ownEq h1 h2 (nfI N.op.pl.pm.pc.si) (nfI N.op.pl.pm.pc.ss) h3 hr
  have a2 := op_eqOdd N.op.pl.pm.pc.oc h1 h2 h3 hr
  rintro pins s σ H x y v u Q I rx ry ⟨a, r, rfl, ha, hy, q⟩
  obtain ⟨dx, t, e1, e2⟩ := id ha
  rcases hy with ⟨n, rfl⟩ | ⟨T, od⟩
  · exact a1 pins s σ H _ _ v u Q I rx ry ⟨a, dx, _, _, rfl, e1, .int n, a, _, r, rfl, ha, .inr (.inl ⟨⟨n, rfl⟩, false, rfl, q⟩)⟩
  · exact a2 pins s σ H _ _ v u Q I rx ry ⟨a, dx, _, T, rfl, e1, od, a, y, r, rfl, ha, .inr (.inr ⟨⟨T, od⟩, false, rfl, q⟩)⟩
def blT (b : Bool) : Str := if b then "True" else "False"
/-- repr of three bools -/
theorem call_rbools (gd : X.A.guards = some []) (hr : Room 7 X.A) : CallR X (.builtin "repr") (fun us H Q => ∃ (a : Addr) (x y z : Bool), us = [.ref a] ∧ H a = some (.lst [.bl x, .bl y, .bl z]) ∧ Q (.str (listText [blT x, blT y, blT z])) H) := by
  refine CallR.imp (call_sg (k := 6) gd hr) fun us H Q h => ?_
  obtain ⟨a, x, y, z, rfl, ha, q⟩ := h
  refine ⟨_, _, fun G => G = H, _, rfl, rfl, sg_list (k := 5) (B := fun _ => False) (xs := [.bl x, .bl y, .bl z]) (ts := [blT x, blT y, blT z]) (fun G j => by rw [j]; exact ha) (by simp) id rfl (fun n u hu => ?_), ?_, fun G j => by rw [j]; exact q⟩
  · match n, hu with
    | 0, hu =>
      obtain rfl : V.bl x = u := by simpa using hu
      exact ⟨_, rfl, sg_bl⟩
    | 1, hu =>
      obtain rfl : V.bl y = u := by simpa using hu
      exact ⟨_, rfl, sg_bl⟩
    | 2, hu =>
      obtain rfl : V.bl z = u := by simpa using hu
      exact ⟨_, rfl, sg_bl⟩
    | n + 3, hu => simp at hu
  · refine le_line (Nat.le_trans (listText_len_le _) ?_)
    cases x <;> cases y <;> cases z <;> decide +kernel
end
end S70

namespace S70
open PySem L2 SR RA TXM
open LamX (Tabs ExtN)
open PyProof.Rows (envOfC)
/-- a statement's reading, asked for less -/
theorem PS.less {X : Cx} {st : Stmt} {t t' : TS} (h : PS X st t) (i : ∀ D σ H, t' D σ H → t D σ H) : PS X st t' := ⟨fun pins s σ H D I q => h.run pins s σ H D I (i D σ H q)⟩
/-- what stands while the law goes on -/
structure Rt (C p1 p2 p3 m1 m2 m3 D : Addr) (r1 r2 r3 : List Int) (H : Hp) : Prop where
  a1 : H p1 = some (.lst (r1.map V.int))
  a2 : H p2 = some (.lst (r2.map V.int))
  a3 : H p3 = some (.lst (r3.map V.int))
  b1 : PolyAt C H m1 (trim r1)
  b2 : PolyAt C H m2 (trim r2)
  b3 : PolyAt C H m3 (trim r3)
  d : H D = some (.lst [.ref m1, .ref m2, .ref m3])
theorem Rt.same {C p1 p2 p3 m1 m2 m3 D : Addr} {r1 r2 r3 : List Int} {H H' : Hp} (h : Rt C p1 p2 p3 m1 m2 m3 D r1 r2 r3 H) (s : Same H H') : Rt C p1 p2 p3 m1 m2 m3 D r1 r2 r3 H' := ⟨s _ _ h.a1, s _ _ h.a2, s _ _ h.a3, h.b1.same s, h.b2.same s, h.b3.same s, s _ _ h.d⟩
structure Rb (r1 r2 r3 : List Int) : Prop where
  b1 : Bd 80 r1
  b2 : Bd 80 r2
  b3 : Bd 81 r3
  l1 : r1.length ≤ 9
  l2 : r2.length ≤ 9
  l3 : r3.length ≤ 9
def SameP (l p : Addr) (H H' : Hp) : Prop := ∀ b o, b ≠ l → b ≠ p → H b = some o → H' b = some o
abbrev stA (l p1 p2 p3 : Addr) (x : Option V) : St := [some (.ref l), some (.ref p1), some (.ref p2), some (.ref p3), x, none, none, none, none, none, none, none, none]
abbrev stB (l p1 p2 p3 D : Addr) (x u v y : Option V) : St := [some (.ref l), some (.ref p1), some (.ref p2), some (.ref p3), x, some (.ref D), u, v, y, none, none, none, none]
/-- the third row is changed, or not -/
def tThree : TS := fun E σ H => ∃ (l p1 p2 p3 : Addr) (r1 : List Int), σ = stA l p1 p2 p3 none ∧ PotAt H l ∧ H p1 = some (.lst (r1.map V.int)) ∧ H p3 = some (.lst (r1.map V.int)) ∧ p1 ≠ l ∧ p3 ≠ l ∧ p1 ≠ p3 ∧ Bd 80 r1 ∧ r1.length ≤ 9 ∧
  ∀ (G : Hp) (r3 : List Int) (x : Option V), SameP l p3 H G → PotAt G l → G p3 = some (.lst (r3.map V.int)) → Bd 81 r3 → r3.length ≤ 9 → E.nx (stA l p1 p2 p3 x) G
/-- the two turns -/
def tTurns (C : Addr) : TS := fun E σ H => ∃ (l p1 p2 p3 m1 m2 m3 D : Addr) (r1 r2 r3 : List Int) (x : Option V), σ = stB l p1 p2 p3 D x none none none ∧ Rt C p1 p2 p3 m1 m2 m3 D r1 r2 r3 H ∧ Rb r1 r2 r3 ∧ ∀ (G : Hp) (u v y : Option V), Same H G → E.nx (stB l p1 p2 p3 D x u v y) G
/-- the rows against what was made -/
def tRows (C : Addr) : TS := fun E σ H => ∃ (l p1 p2 p3 m1 m2 m3 D : Addr) (r1 r2 r3 : List Int) (x u v y : Option V), σ = stB l p1 p2 p3 D x u v y ∧ Rt C p1 p2 p3 m1 m2 m3 D r1 r2 r3 H ∧ Rb r1 r2 r3 ∧ ∀ (G : Hp) (v y : Option V), Same H G → E.nx (stB l p1 p2 p3 D x u v y) G
section
variable {P : Program} {w : World} {K : PySem.W.Frag} {mg : Str → Option Value} {base : Heap}
/-! ### _law_right -/
abbrev nRight : List Str := ["_law_rng_here", "_law_one", "_law_two", "_law_three", "_law_spot", "_law_made_here", "_law_turn", "_law_some", "_law_row_here", "_law_number", "_law_alike", "_law_others", "_law_thing"]
theorem scRight : FnScope nRight ["_law_rng_here"] (defScope sRight) := ⟨rfl, rfl, rfl, by decide +kernel, rfl, by decide +kernel, by decide +kernel⟩
def teNeg : TE := tUn (rU fun i => .int (-i)) (tVar 9)
def teMade (C : Addr) : TE := tCall (spMade C) [] E0 (tCons (tVar 8) tNil)
def teThing (K : PySem.W.Frag) (C : Addr) : TE := tOp (rPOther C) (tOp (rIxL K) (tVar 5) (tC (.int 0))) (tVar 12)
def spRight (T : List (Addr × Str)) : Sp := fun vs H Q _ => ∃ l : Addr, vs = [.ref l] ∧ PotAt H l ∧ Tabs T H ∧ ∀ H' : Hp, ExtX l H H' → Tabs T H' → Q (.bl true) H'
theorem ok_right {f R C : Addr} {fd : FuncData} {Tb : List (Addr × Str)} (F : Fun K "_law_right" "_law_right" sRight f fd) (T : Bn mg) (N : PAll P w K mg base R C) (DD : Df P w K mg base "_law_draw" ["_law_rng_here", "_law_many"] 1 spDraw) (DW : Df P w K mg base "_law_row" ["_law_rng_here"] 4 spRow) (DM : Df P w K mg base "_law_made" ["_law_row_here"] 4 (spMade C))
    (DI : DfG P w K mg base "_law_is" ["_law_made_here", "_law_row_here"] 9 (spIs K C)) (DS : Df P w K mg base "_law_sum" ["_law_one", "_law_two", "_law_by"] 2 (spSum K)) (DQ : Df P w K mg base "_law_product" ["_law_one", "_law_two"] 2 (spProd K)) (DP : Df P w K mg base "_law_plain" ["_law_row_here"] 1 (spPlain K))
    (DV : DfG P w K mg base "_law_values_right" ["_law_rng_here", "_law_made_here", "_law_row_here"] 8 (spValR K C)) (DF : DfG P w K mg base "_law_refusals_right" ["_law_rng_here", "_law_made_here"] 14 (spRefR C Tb)) : FnG P w K mg base CX0 15 f fd ["_law_rng_here"] (spRight Tb) := by
  refine F.okG scRight (fun vs H Q E h => ?_) (fun cdv A outer s H vs Q E gd hr h => ?_)
  · obtain ⟨l, rfl, _⟩ := h
    rfl
  · obtain ⟨l, rfl, hl, htb, q⟩ := h
    have gd2 : (A.deeper (envOfC "_law_right" (defScope sRight) s.heap.objs.size f cdv)).guards = some [] := deeper_guards.trans gd
    have h1 : Room 1 _ := hr.mono (by decide)
    have h2 : Room 2 _ := hr.mono (by decide)
    have h4 : Room 4 _ := hr.mono (by decide)
    have h5 : Room 5 _ := hr.mono (by decide)
    have h6 : Room 6 _ := hr.mono (by decide)
    have h7 : Room 7 _ := hr.mono (by decide)
    have h8 : Room 8 _ := hr.mono (by decide)
    have h9 : Room 9 _ := hr.mono (by decide)
    refine' ⟨_, (pss_cons (ps_par (i := 1) (j := 2) (by rfl) scRight.nd rfl rfl (by decide) rfl rfl (pa_cons (pe_df DW h4 (by rfl) (pa_cons (pv 0) pa_nil)) (pa_cons (pe_df DW h4 (by rfl) (pa_cons (pv 0) pa_nil)) pa_nil)) (by rfl))
      (pss_cons (ps_set (i := 3) scRight.nd rfl (Or.inl rfl) (pe_callTy call_list_of (by rfl) T.list (by decide +kernel) (pa_cons (pv 1) pa_nil)))
      (pss_cons (PS.less (t' := tThree) (ps_if (PW.pt (pw_and (pt_cmpR (op_neD hr.units) (pv 1) (pe_lst pa_nil) (nomark _)) (pw_and1 (pt_cmpR op_eq (pe_df DD h1 (by rfl) (pa_cons (pv 0) (pa_cons pe_int pa_nil))) pe_int (nomark _)))))
        (pss_cons (ps_set (i := 4) scRight.nd rfl (Or.inl rfl) (pe_df DD h1 (by rfl) (pa_cons (pv 0) (pa_cons (pe_callB call_len_seq (by rfl) T.len PySem.boot_len (pa_cons (pv 1) pa_nil)) pa_nil))))
        (pss_one (ps_asg (pe_op op_add (pe_op op_add (pe_ix ix_list (pv 1) (pv 4) (fun _ _ => rfl)) pe_int) (pe_df DD h1 (by rfl) (pa_cons (pv 0) (pa_cons pe_int pa_nil)))) (pg_sub (pv 3) (pv 4) set_list)))) pss_nil) ?rThree)
      (pss_cons (ps_set (i := 5) scRight.nd rfl (Or.inr rfl) (pe_lc (own := [("_law_row_here", 8)]) (g := gName 8) (tt := tYes) (te := teMade C) (by rfl) scRight.nd (pi_list (pe_lst (pa_cons (pv 1) (pa_cons (pv 2) (pa_cons (pv 3) pa_nil))))) (blkOk_by (own := [("_law_row_here", 8)]) (N := nRight) (sc := defScope sRight) (by decide +kernel)) (fun _ _ _ _ _ => pg_name (i := 8) scRight.nd rfl (Or.inl rfl)) (fun _ _ _ _ _ => pts_nil) (fun _ _ _ _ _ => pe_df DM h4 (by rfl) (pa_cons (pv 8) pa_nil))))
      (pss_cons (PS.less (t' := tTurns C) (ps_for PassesOwn.never rfl (pi_range1 (by rfl) T.range (pa_cons pe_int pa_nil)) (pg_name (i := 6) scRight.nd rfl (Or.inl rfl))
        (pss_cons (PS.less (t' := tRows C) (ps_for PassesOwn.never rfl (pi_zip (by rfl) T.zip (pa_cons (pv 5) (pa_cons (pe_lst (pa_cons (pv 1) (pa_cons (pv 2) (pa_cons (pv 3) pa_nil)))) pa_nil))) (pg_tup rfl (pgs_cons (pg_name (i := 7) scRight.nd rfl (Or.inl rfl)) (pgs_cons (pg_name (i := 8) scRight.nd rfl (Or.inl rfl)) pgs_nil))) (pss_one (ps_if (PW.pt (pw_or (pt_not (pt_val (pe_dfG DI gd2 h9 (by rfl) (pa_cons (pv 7) (pa_cons (pv 8) pa_nil))))) (pw_or1 (pt_not (pt_val (pe_dfG DI gd2 h9 (by rfl) (pa_cons (pe_un (un_pneg N.op h4) (pv 7)) (pa_cons (pe_lc (own := [("_law_number", 9)]) (g := gName 9) (tt := tYes) (te := teNeg) (by rfl) scRight.nd (pi_list (pv 8)) (blkOk_by (own := [("_law_number", 9)]) (N := nRight) (sc := defScope sRight) (by decide +kernel)) (fun _ _ _ _ _ => pg_name (i := 9) scRight.nd rfl (Or.inl rfl)) (fun _ _ _ _ _ => pts_nil) (fun _ _ _ _ _ => pe_un un_neg (pv 9))) pa_nil)))))))) (pss_one (ps_ret pe_bl)) pss_nil))) ?rRows)
        (pss_cons (ps_if (pt_not (pt_val (pe_dfG DI gd2 h9 (by rfl) (pa_cons (pe_op (op_padd N.op h4) (pe_ix ix_list (pv 5) pe_int (fun _ _ => rfl)) (pe_ix ix_list (pv 5) pe_int (fun _ _ => rfl))) (pa_cons (pe_df DS h2 (by rfl) (pa_cons (pv 1) (pa_cons (pv 2) (pa_cons pe_int pa_nil)))) pa_nil))))) (pss_one (ps_ret pe_bl)) pss_nil)
        (pss_cons (ps_if (pt_not (pt_val (pe_dfG DI gd2 h9 (by rfl) (pa_cons (pe_op (op_psub N.op h4) (pe_ix ix_list (pv 5) pe_int (fun _ _ => rfl)) (pe_ix ix_list (pv 5) pe_int (fun _ _ => rfl))) (pa_cons (pe_df DS h2 (by rfl) (pa_cons (pv 1) (pa_cons (pv 2) (pa_cons (pe_un un_neg pe_int) pa_nil)))) pa_nil))))) (pss_one (ps_ret pe_bl)) pss_nil)
        (pss_one (ps_if (PW.pt (pw_or (pt_not (pt_val (pe_dfG DI gd2 h9 (by rfl) (pa_cons (pe_op (op_pmul N.op h4) (pe_ix ix_list (pv 5) pe_int (fun _ _ => rfl)) (pe_ix ix_list (pv 5) pe_int (fun _ _ => rfl))) (pa_cons (pe_df DQ h2 (by rfl) (pa_cons (pv 1) (pa_cons (pv 2) pa_nil))) pa_nil))))) (pw_or1 (pt_not (pt_val (pe_dfG DI gd2 h9 (by rfl) (pa_cons (pe_op (op_psub N.op h4) (pe_ix ix_list (pv 5) pe_int (fun _ _ => rfl)) (pe_ix ix_list (pv 5) pe_int (fun _ _ => rfl))) (pa_cons (pe_lst pa_nil) pa_nil)))))))) (pss_one (ps_ret pe_bl)) pss_nil)))))) ?rTurns)
      (pss_cons (ps_set (i := 10) scRight.nd rfl (Or.inl rfl) (pe_cmpR (op_eqD hr.units) (pe_df DP h1 (by rfl) (pa_cons (pv 1) pa_nil)) (pe_df DP h1 (by rfl) (pa_cons (pv 3) pa_nil)) (nomark _)))
      (pss_cons (ps_if (pt_cmpR op_ne (pe_callB (call_rbools gd2 h7) (by rfl) T.repr (by decide +kernel) (pa_cons (pe_lst (pa_cons (pe_cmpR (op_peq N h5) (pe_ix ix_list (pv 5) pe_int (fun _ _ => rfl)) (pe_ix ix_list (pv 5) pe_int (fun _ _ => rfl)) (nomark _)) (pa_cons (pe_cmpR (op_pne N h6) (pe_ix ix_list (pv 5) pe_int (fun _ _ => rfl)) (pe_ix ix_list (pv 5) pe_int (fun _ _ => rfl)) (nomark _)) (pa_cons (pe_cmpR (op_peq N h5) (pe_ix ix_list (pv 5) pe_int (fun _ _ => rfl)) (pe_df DM h4 (by rfl) (pa_cons (pe_df DP h1 (by rfl) (pa_cons (pv 2) pa_nil)) pa_nil)) (nomark _)) pa_nil)))) pa_nil)) (pe_callB (call_rbools gd2 h7) (by rfl) T.repr (by decide +kernel) (pa_cons (pe_lst (pa_cons (pv 10) (pa_cons (pe_not (pv 10)) (pa_cons pe_bl pa_nil)))) pa_nil)) (nomark _)) (pss_one (ps_ret pe_bl)) pss_nil)
      (pss_cons (ps_set (i := 11) scRight.nd rfl (Or.inl rfl) (pe_lst (pa_cons pe_non (pa_cons pe_int (pa_cons (pe_callTy call_tuple_of (by rfl) T.tuple (by decide +kernel) (pa_cons (pv 1) pa_nil)) (pa_cons (pe_callTy call_list_of (by rfl) T.list (by decide +kernel) (pa_cons (pv 1) pa_nil)) (pa_cons (pe_callTy (call_pstr N h7) (by rfl) T.str (by decide +kernel) (pa_cons (pe_ix ix_list (pv 5) pe_int (fun _ _ => rfl)) pa_nil)) (pa_cons (pe_callB (call_prepr N h6) (by rfl) T.repr (by decide +kernel) (pa_cons (pe_ix ix_list (pv 5) pe_int (fun _ _ => rfl)) pa_nil)) (pa_cons (pe_lst (pa_cons (pe_ix ix_list (pv 5) pe_int (fun _ _ => rfl)) pa_nil)) pa_nil)))))))))
      (pss_cons (ps_if (pt_val (pe_callB (cr_any rfl) (by rfl) T.any (by decide +kernel) (pa_cons (pe_lc (own := [("_law_thing", 12)]) (g := gName 12) (tt := tYes) (te := teThing K C) (by rfl) scRight.nd (pi_list (pv 11)) (blkOk_by (own := [("_law_thing", 12)]) (N := nRight) (sc := defScope sRight) (by decide +kernel)) (fun _ _ _ _ _ => pg_name (i := 12) scRight.nd rfl (Or.inl rfl)) (fun _ _ _ _ _ => pts_nil) (fun _ _ _ _ _ => pe_cmpR (op_pother N h5) (pe_ix ix_list (pv 5) pe_int (fun _ _ => rfl)) (pv 12) (nomark _))) pa_nil))) (pss_one (ps_ret pe_bl)) pss_nil)
      (pss_one (ps_ret (pe_and (pe_dfG DV gd2 h8 (by rfl) (pa_cons (pv 0) (pa_cons (pe_ix ix_list (pv 5) pe_int (fun _ _ => rfl)) (pa_cons (pv 1) pa_nil)))) (pe_one (pe_dfG DF gd2 hr (by rfl) (pa_cons (pv 0) (pa_cons (pe_ix ix_list (pv 5) pe_int (fun _ _ => rfl)) pa_nil)))))))))))))))), ?go⟩
    case rThree =>
      rintro E σ H ⟨l, p1, p2, p3, r1, rfl, hl, a1, a3, n1, n3, n13, bd, len, k⟩
      refine ⟨_, rfl, Nat.zero_le _, fun e he => ?_⟩
      have se := sNew (o := .lst []) (Same.refl H) he
      refine ⟨dRow r1, dRow [], dp_row (SqL.of (se _ _ a1)), dp_row (r := []) (SqL.of upd_same), sh_row _, sh_row _, _, rfl, ?_⟩
      rw [row_nil]
      have hle := hl.same se
      have a1e := se _ _ a1
      have a3e := se _ _ a3
      generalize upd H e (.lst []) = H1 at se hle a1e a3e ⊢
      have pe : ∀ {G : Hp}, SameX l H1 G → SameP l p3 H G := fun sx b o h1 _ hb => sx b o h1 (se b o hb)
      by_cases hr0 : r1 = []
      · rw [decide_eq_true hr0]
        exact iteF (iteF (k H1 r1 none (fun b o _ _ hb => se b o hb) hle a3e (bd.mono (by decide)) len))
      · rw [decide_eq_false hr0]
        refine iteT ?_
        refine ⟨_, rfl, l, _, rfl, hle, by decide, by decide, fun H2 d2 sx2 hl2 d20 d21 => ?_⟩
        refine ⟨rfl, _, rfl, ?_⟩
        by_cases hd : d2 = 0
        · rw [decide_eq_true (congrArg V.int hd)]
          refine iteT ?_
          have pos : 0 < r1.length := List.length_pos_iff.mpr hr0
          refine ⟨_, rfl, _, rfl, p1, _, rfl, .inl (SqL.of (sx2 _ _ n1 a1e)), l, _, rfl, hl2, ?_, ?_, fun H3 d3 sx3 hl3 d30 d31 => ?_⟩
          · rw [List.length_map]; omega
          · rw [List.length_map]; omega
          rw [List.length_map] at d31
          have hj : d3.toNat < r1.length := by omega
          have sx23 := SameX.trans sx2 sx3
          refine ⟨_, rfl, _, rfl, p1, _, _, V.int r1[d3.toNat], rfl, rfl, SqL.of (sx23 _ _ n1 a1e), at_of (j := d3.toNat) (by omega) (by rw [List.getElem?_map, List.getElem?_eq_getElem hj]; rfl), _, _, rfl, rfl, ?_⟩
          refine ⟨_, rfl, l, _, rfl, hl3, by decide, by decide, fun H4 d4 sx4 hl4 d40 d41 => ?_⟩
          have sx := SameX.trans sx23 sx4
          refine ⟨_, _, rfl, rfl, _, rfl, _, rfl, p3, _, _, d3.toNat, rfl, rfl, sx _ _ n3 a3e, ?_, ?_⟩
          · rw [show d3 = ((d3.toNat : Nat) : Int) by omega]
            exact ixn_nat (by rw [List.length_map]; exact hj)
          · have b0 := bd _ (List.getElem_mem hj)
            refine k _ (r1.set d3.toNat (r1[d3.toNat] + 1 + d4)) (some (.int d3)) (fun b o h1 h2 hb => by rw [upd_ne h2]; exact pe sx b o h1 h2 hb) (hl4.put n3.symm) (by rw [upd_same, List.map_set]) (bd_set bd ?_) (by rw [List.length_set]; exact len)
            have e81 : (2 : Nat) ^ 81 = 2 ^ 80 + 2 ^ 80 := by decide
            have e80 : (4 : Nat) ≤ 2 ^ 80 := by decide
            omega
        · rw [decide_eq_false (fun z => hd (V.int.inj z))]
          exact iteF (k H2 r1 none (pe sx2) hl2 (sx2 _ _ n3 a3e) (bd.mono (by decide)) len)
    case rRows =>
      rintro E σ H ⟨l, p1, p2, p3, m1, m2, m3, D, r1, r2, r3, x, u, v, y, rfl, rt, rb, k⟩
      refine ⟨_, rfl, _, rfl, _, rfl, _, rfl, (by show 3 ≤ sizeLine; decide), fun L hL => ?_⟩
      have sL := sNew (o := .lst [V.ref p1, .ref p2, .ref p3]) (Same.refl H) hL
      have rtL := rt.same sL
      have dL : upd H L (.lst [V.ref p1, .ref p2, .ref p3]) L = some (.lst [V.ref p1, .ref p2, .ref p3]) := upd_same
      generalize upd H L (.lst [V.ref p1, .ref p2, .ref p3]) = H1 at sL rtL dL ⊢
      refine ⟨D, L, _, _, rfl, SqL.of rtL.d, SqL.of dL, for_it (walk_zip (K := K) (a := D) (b := L) (n := 3) (xs := [V.ref m1, .ref m2, .ref m3]) (ys := [V.ref p1, .ref p2, .ref p3]) rfl) (fun i σ G => Same H1 G ∧ ∃ v y, σ = stB l p1 p2 p3 D x u v y) ⟨Same.refl H1, v, y, rfl⟩ (fun i σ G _ h => ⟨h.1.seq (SqL.of rtL.d), h.1.seq (SqL.of dL)⟩) ?_ ?_⟩
      · rintro i z σ G0 _ hi ⟨s0, v, y, rfl⟩ ⟨TT, a, b, rfl, hT, rfl, e1, e2⟩
        have key : ∃ (m p : Addr) (r : List Int), V.ref m = a ∧ V.ref p = b ∧ PolyAt C H1 m (trim r) ∧ H1 p = some (.lst (r.map V.int)) ∧ Bd 81 r ∧ r.length ≤ 9 := by
          match i, e1, e2 with
          | 0, e1, e2 => exact ⟨m1, p1, r1, Option.some.inj e1, Option.some.inj e2, rtL.b1, rtL.a1, rb.b1.mono (by decide), rb.l1⟩
          | 1, e1, e2 => exact ⟨m2, p2, r2, Option.some.inj e1, Option.some.inj e2, rtL.b2, rtL.a2, rb.b2.mono (by decide), rb.l2⟩
          | 2, e1, e2 => exact ⟨m3, p3, r3, Option.some.inj e1, Option.some.inj e2, rtL.b3, rtL.a3, rb.b3, rb.l3⟩
          | n + 3, e1, e2 => exact absurd hi (by omega)
        obtain ⟨m, p, r, rfl, rfl, po, at_, bd, len⟩ := key
        have sT := sNew (o := .tup [V.ref m, V.ref p]) s0 hT
        refine ⟨TT, _, rfl, .inl (.inl upd_same), rfl, _, _, rfl, _, _, rfl, rfl, ?_⟩
        generalize upd G0 TT (.tup [V.ref m, V.ref p]) = G1 at sT ⊢
        have lt := trim_len r
        refine ⟨_, rfl, _, rfl, m, p, r, rfl, po.same sT, SqL.of (sT _ _ at_), bd.mono (by decide), by omega, fun G2 s2 => ⟨true, rfl, ?_⟩⟩
        have sT2 := Same.trans sT s2
        refine iteF ?_
        refine ⟨_, rfl, m, trim r, rfl, po.same sT2, by omega, fun G3 p' c j s3 n3 hc e can => ?_⟩
        have ec : c = trim (negR r) := (trim_of e can).trans (row_neg r)
        have sT3 := Same.trans sT2 s3
        refine ⟨_, rfl, p, rfl, ⟨_, SqL.of (sT3 _ _ at_)⟩, fun D2 hD2 => ?_⟩
        refine lc_it (walk_list (K := K) (a := p) (xs := r.map V.int)) (fun i G => Same G3 G ∧ G D2 = some (.lst (((negR r).take i).map V.int))) ⟨sNew (Same.refl G3) hD2, upd_same⟩ (fun i G _ h => SqL.of ((Same.trans sT3 h.1) _ _ at_)) ?_ ?_
        · rintro i z G _ hi ⟨s4, w4⟩ ⟨rfl, hz⟩
          obtain ⟨n, hn, rfl⟩ := map_get hz
          refine ⟨rfl, _, rfl, _, rfl, _, w4, ?_, sPut s4 hD2, ?_⟩
          · have : i < r.length := by simpa using hi
            simp only [List.length_map, List.length_take]
            exact lt_line (by omega)
          · rw [upd_same]
            congr 2
            refine take_succ_map (f := V.int) ?_
            unfold negR
            rw [List.getElem?_map, hn]; rfl
        · rintro G4 ⟨s4, w4⟩
          rw [List.take_of_length_le (by unfold negR; simp)] at w4
          have ln : (negR r).length = r.length := by unfold negR; simp
          refine ⟨p', D2, negR r, rfl, PolyAt.to ec (hc.same s4), SqL.of w4, (bd_negR bd).mono (by decide), by omega, fun G5 s5 => ⟨true, rfl, ?_⟩⟩
          refine iteF ?_
          exact ⟨Same.trans sT3 (Same.trans s4 s5), _, _, rfl⟩
      · rintro σ G ⟨s0, v, y, rfl⟩
        exact k G v y (Same.trans sL s0)
    case rTurns =>
      rintro E σ H ⟨l, p1, p2, p3, m1, m2, m3, D, r1, r2, r3, x, rfl, rt, rb, k⟩
      have t1 := trim_len r1
      have t2 := trim_len r2
      have t3 := trim_len r3
      have q1 := rb.l1
      have q2 := rb.l2
      have q3 := rb.l3
      have la : ∀ c, (trim (addR r1 (byR c r2))).length ≤ 100 := fun c => by
        have h := trim_len (addR r1 (byR c r2))
        rw [len_addR, len_byR] at h
        omega
      refine ⟨2, rfl, by decide, by decide, for_it (walk_range (lo := 0) (n := 2)) (fun i σ G => Same H G ∧ ∃ u v y, σ = stB l p1 p2 p3 D x u v y) ⟨Same.refl H, none, none, none, rfl⟩ (fun _ _ _ _ _ => trivial) ?_ ?_⟩
      · rintro i z σ _ G0 hi ⟨s0, u, v, y, rfl⟩ ⟨rfl, rfl⟩
        refine ⟨l, p1, p2, p3, m1, m2, m3, D, r1, r2, r3, x, _, v, y, rfl, rt.same s0, rb, fun G1 v1 y1 s1 => ?_⟩
        have u1 := rt.same (Same.trans s0 s1)
        refine ⟨_, rfl, D, _, _, V.ref m1, rfl, rfl, SqL.of (u1).d, at_of (j := 0) rfl rfl, _, rfl, D, _, _, V.ref m2, rfl, rfl, SqL.of (u1).d, at_of (j := 1) rfl rfl, m1, m2, trim r1, trim r2, rfl, rfl, u1.b1, u1.b2, by omega, by omega, trivial, fun G2 c2 w2 j2 s2 n2 hc2 e2 can2 => ?_⟩
        have u2 := u1.same s2
        refine ⟨_, rfl, _, rfl, p1, p2, r1, r2, 1, rfl, u2.a1, u2.a2, by omega, by omega, rb.b2, by decide, fun G3 ps3 s3 n3 e3 => ?_⟩
        refine ⟨c2, ps3, _, rfl, PolyAt.to ((trim_of e2 can2).trans (row_sum r1 r2)) (hc2.same s3), SqL.of e3, (trim_bd (Bd.add (n := 80) (m := 80) (k := 82) (by decide) (by decide) rb.b1 (by rw [by_one]; exact rb.b2))).mono (by decide), la 1, fun G4 s4 => ⟨true, rfl, iteF ?_⟩⟩
        have u4 := u2.same (Same.trans s3 s4)
        refine ⟨_, rfl, D, _, _, V.ref m1, rfl, rfl, SqL.of (u4).d, at_of (j := 0) rfl rfl, _, rfl, D, _, _, V.ref m2, rfl, rfl, SqL.of (u4).d, at_of (j := 1) rfl rfl, m1, m2, trim r1, trim r2, rfl, rfl, u4.b1, u4.b2, by omega, by omega, trivial, fun G5 c5 w5 j5 s5 n5 hc5 e5 can5 => ?_⟩
        have u5 := u4.same s5
        refine ⟨_, rfl, _, rfl, _, rfl, p1, p2, r1, r2, -1, rfl, u5.a1, u5.a2, by omega, by omega, rb.b2, by decide, fun G6 ps6 s6 n6 e6 => ?_⟩
        refine ⟨c5, ps6, _, rfl, PolyAt.to ((trim_of e5 can5).trans (row_sub r1 r2)) (hc5.same s6), SqL.of e6, (trim_bd (Bd.add (n := 80) (m := 80) (k := 82) (by decide) (by decide) rb.b1 (by rw [by_neg]; exact rb.b2.opp))).mono (by decide), la (-1), fun G7 s7 => ⟨true, rfl, iteF ?_⟩⟩
        have u7 := u5.same (Same.trans s6 s7)
        refine ⟨_, rfl, D, _, _, V.ref m1, rfl, rfl, SqL.of (u7).d, at_of (j := 0) rfl rfl, _, rfl, D, _, _, V.ref m2, rfl, rfl, SqL.of (u7).d, at_of (j := 1) rfl rfl, m1, m2, trim r1, trim r2, rfl, rfl, u7.b1, u7.b2, by omega, by omega, ⟨80, 80, trim_bd rb.b1, trim_bd rb.b2, by decide, by decide⟩, fun G8 c8 w8 j8 s8 n8 hc8 e8 can8 => ?_⟩
        have u8 := u7.same s8
        refine ⟨_, rfl, _, rfl, p1, p2, r1, r2, rfl, SqL.of u8.a1, SqL.of u8.a2, by omega, by omega, rb.b1, rb.b2, fun G9 ps9 s9 n9 e9 => ?_⟩
        have lm : (trim (mulR r1 r2)).length ≤ 100 := by
          have h := trim_len (mulR r1 r2)
          rw [len_mulR] at h
          omega
        refine ⟨c8, ps9, _, rfl, PolyAt.to ((trim_of e8 can8).trans (row_mul r1 r2)) (hc8.same s9), SqL.of e9, (trim_bd (bd_mulR rb.b1 rb.b2 (by omega))).mono (by decide), lm, fun Ga sa => ⟨true, rfl, iteF ?_⟩⟩
        have ua := u8.same (Same.trans s9 sa)
        refine ⟨_, rfl, D, _, _, V.ref m3, rfl, rfl, SqL.of (ua).d, at_of (j := 2) rfl rfl, _, rfl, D, _, _, V.ref m3, rfl, rfl, SqL.of (ua).d, at_of (j := 2) rfl rfl, m3, m3, trim r3, trim r3, rfl, rfl, ua.b3, ua.b3, by omega, by omega, trivial, fun Gb cb wb jb sb nb hcb eb canb => ?_⟩
        refine ⟨Nat.zero_le _, fun ne hne => ?_⟩
        have sne := sNew (o := .lst []) (Same.refl Gb) hne
        refine ⟨cb, ne, [], rfl, PolyAt.to ((trim_of eb canb).trans (row_none (trim r3))) (hcb.same sne), SqL.of upd_same, (fun a ha => by cases ha), by decide, fun Gc sc => ⟨true, rfl, iteF ?_⟩⟩
        exact ⟨Same.trans s0 (Same.trans s1 (Same.trans s2 (Same.trans s3 (Same.trans s4 (Same.trans s5 (Same.trans s6 (Same.trans s7 (Same.trans s8 (Same.trans s9 (Same.trans sa (Same.trans sb (Same.trans sne sc)))))))))))), _, v1, y1, rfl⟩
      · rintro σ G ⟨s0, u, v, y, rfl⟩
        exact k G u v y s0
    case go =>
    refine ⟨_, rfl, l, rfl, hl, fun H1 p1 r1 sx1 hl1 n1 np1 e1 b1 len1 => ?_⟩
    refine ⟨_, rfl, l, rfl, hl1, fun H2 p2 r2 sx2 hl2 n2 np2 e2 b2 len2 => ?_⟩
    refine ⟨_, _, rfl, ?_⟩
    have e1' := sx2 _ _ np1 e1
    refine ⟨_, rfl, p1, _, rfl, .inl (SqL.of e1'), fun p3 n3 => ?_⟩
    have s3 := sNew (o := .lst (r1.map V.int)) (Same.refl H2) n3
    have np3 : p3 ≠ l := hl2.ne n3
    have n13 : p1 ≠ p3 := ne_of_none e1' n3
    have n23 : p2 ≠ p3 := ne_of_none e2 n3
    refine ⟨l, p1, p2, p3, r1, rfl, hl2.same s3, s3 _ _ e1', upd_same, np1, np3, n13, b1, len1, fun G r3 x sp hlG e3 b3 len3 => ?_⟩
    have sx12 := SameX.trans sx1 sx2
    have sxG : SameX l H G := fun b o hb e => sp b o hb (ne_of_none (sx12 b o hb e) n3) (s3 _ _ (sx12 b o hb e))
    have g1 := sp _ _ np1 n13 (s3 _ _ e1')
    have g2 := sp _ _ np2 n23 (s3 _ _ e2)
    have tbG := tabs_sameX hl sxG htb
    have rb : Rb r1 r2 r3 := ⟨b1, b2, b3, len1, len2, len3⟩
    clear sp s3 e1 e2 e1'
    refine ⟨_, rfl, _, rfl, _, rfl, (by show 3 ≤ sizeLine; decide), fun L hL => ?_⟩
    have sL := sNew (o := .lst [V.ref p1, .ref p2, .ref p3]) (Same.refl G) hL
    have eL : upd G L (.lst [V.ref p1, .ref p2, .ref p3]) L = some (.lst [V.ref p1, .ref p2, .ref p3]) := upd_same
    generalize upd G L (.lst [V.ref p1, .ref p2, .ref p3]) = G1 at sL eL ⊢
    refine ⟨L, rfl, ⟨_, SqL.of eL⟩, fun D hD => ?_⟩
    refine lc_it (walk_list (K := K) (a := L) (xs := [V.ref p1, .ref p2, .ref p3])) (fun i G' => Same G1 G' ∧ ∃ ms : List Addr, ms.length = i ∧ G' D = some (.lst (ms.map V.ref)) ∧ ∀ (j : Nat) (m : Addr) (r : List Int), ms[j]? = some m → [r1, r2, r3][j]? = some r → PolyAt C G' m (trim r))
      ⟨sNew (Same.refl G1) hD, [], rfl, upd_same, fun j m r hm _ => by simp at hm⟩ (fun i G' _ h => h.1.seq (SqL.of eL)) ?_ ?_
    · rintro i z _ G2 hi ⟨s2, ms, hms, w2, all⟩ ⟨rfl, hz⟩
      have key : ∃ (p : Addr) (r : List Int), V.ref p = z ∧ G2 p = some (.lst (r.map V.int)) ∧ r.length ≤ 9 ∧ [r1, r2, r3][i]? = some r := by
        have s := Same.trans sL s2
        match i, hz with
        | 0, hz => exact ⟨p1, r1, Option.some.inj hz, s _ _ g1, len1, rfl⟩
        | 1, hz => exact ⟨p2, r2, Option.some.inj hz, s _ _ g2, len2, rfl⟩
        | 2, hz => exact ⟨p3, r3, Option.some.inj hz, s _ _ e3, len3, rfl⟩
        | n + 3, hz => exact absurd hi (by show ¬ n + 3 < 3; omega)
      obtain ⟨p, r, rfl, ep, lp, er⟩ := key
      refine ⟨rfl, _, rfl, p, r, rfl, ep, lp, fun G4 m s4 nm hm => ?_⟩
      have w4 := s4 _ _ w2
      have keep : ∀ {m : Addr} {r : List Int} {o : HO}, PolyAt C G4 m r → PolyAt C (upd G4 D o) m r := fun {m r o} ⟨dx, t, h1, h2⟩ => ⟨dx, t, by rw [upd_ne (fun z => by rw [z, w4] at h1; cases h1), h1], by rw [upd_ne (fun z => by rw [z, w4] at h2; cases h2), h2]⟩
      refine ⟨_, w4, ?_, sPut (Same.trans s2 s4) hD, ms ++ [m], by simp [hms], by rw [upd_same]; simp, fun j m' r' hj hr' => ?_⟩
      · rw [List.length_map, hms]
        exact lt_line (by have : i < 3 := hi; omega)
      · by_cases hlt : j < ms.length
        · rw [List.getElem?_append_left hlt] at hj
          exact keep ((all j m' r' hj hr').same s4)
        · have hj2 : j = ms.length := by
            have := (List.getElem?_eq_some_iff.mp hj).1
            rw [List.length_append] at this
            simp only [List.length_singleton] at this
            omega
          subst hj2
          rw [List.getElem?_append_right (Nat.le_refl _), Nat.sub_self] at hj
          obtain rfl : m = m' := by simpa using hj
          rw [hms, er] at hr'
          rw [← Option.some.inj hr']
          exact keep hm
    · rintro G2 ⟨s2, ms, hms, w2, all⟩
      match ms, hms with
      | [m1, m2, m3], _ =>
      have sG2 := Same.trans sL s2
      have rt : Rt C p1 p2 p3 m1 m2 m3 D r1 r2 r3 G2 := ⟨sG2 _ _ g1, sG2 _ _ g2, sG2 _ _ e3, all 0 m1 r1 rfl rfl, all 1 m2 r2 rfl rfl, all 2 m3 r3 rfl rfl, w2⟩
      refine ⟨l, p1, p2, p3, m1, m2, m3, D, r1, r2, r3, x, rfl, rt, rb, fun G5 u v y s5 => ?_⟩
      have u5 := rt.same s5
      have q1 := trim_len r1
      have q2 := trim_len r2
      have q3 := trim_len r3
      have bt1 : Bd 1900 (trim r1) := (trim_bd b1).mono (by decide)
      refine ⟨_, rfl, p1, r1, rfl, SqL.of u5.a1, by omega, fun G6 c1 s6 _ e6 => ?_⟩
      refine ⟨_, rfl, p3, r3, rfl, SqL.of (u5.same s6).a3, by omega, fun G7 c3 s7 _ e7 => ?_⟩
      refine ⟨dRow (trim r1), dRow (trim r3), dp_row (SqL.of (s7 _ _ e6)), dp_row (SqL.of e7), sh_row _, sh_row _, ?_⟩
      rw [eqv_rows]
      have u7 := u5.same (Same.trans s6 s7)
      refine ⟨_, rfl, D, _, _, V.ref m1, rfl, rfl, SqL.of (u7).d, at_of (j := 0) rfl rfl, _, rfl, D, _, _, V.ref m3, rfl, rfl, SqL.of (u7).d, at_of (j := 2) rfl rfl, m1, m3, trim r1, trim r3, rfl, rfl, u7.b1, u7.b3, ?_⟩
      refine ⟨_, rfl, D, _, _, V.ref m1, rfl, rfl, SqL.of (u7).d, at_of (j := 0) rfl rfl, _, rfl, D, _, _, V.ref m3, rfl, rfl, SqL.of (u7).d, at_of (j := 2) rfl rfl, m1, m3, trim r1, trim r3, rfl, rfl, u7.b1, u7.b3, ?_⟩
      refine ⟨_, rfl, D, _, _, V.ref m2, rfl, rfl, SqL.of (u7).d, at_of (j := 1) rfl rfl, _, rfl, p2, r2, rfl, SqL.of u7.a2, by omega, fun G8 c2 s8 _ e8 => ?_⟩
      refine ⟨c2, trim r2, rfl, e8, by omega, fun G9 m9 s9 _ hm9 => ?_⟩
      have u9 := u7.same (Same.trans s8 s9)
      refine ⟨m2, m9, trim r2, trim (trim r2), rfl, rfl, u9.b2, hm9, ?_⟩
      refine ⟨(by show 3 ≤ sizeLine; decide), fun L9 hL9 => ⟨L9, _, _, _, rfl, upd_same, ?_⟩⟩
      have sa := sNew (o := .lst [V.bl (xor false (decide (trim r1 = trim r3))), .bl (xor true (decide (trim r1 = trim r3))), .bl (xor false (decide (trim r2 = trim (trim r2))))]) (Same.refl G9) hL9
      refine ⟨_, rfl, _, rfl, _, rfl, (by show 3 ≤ sizeLine; decide), fun La hLa => ⟨La, _, _, _, rfl, upd_same, rfl, _, rfl, ?_⟩⟩
      have sb := sNew (o := .lst [V.bl (decide (trim r1 = trim r3)), .bl (!decide (trim r1 = trim r3)), .bl true]) sa hLa
      have same : listText [blT (xor false (decide (trim r1 = trim r3))), blT (xor true (decide (trim r1 = trim r3))), blT (xor false (decide (trim r2 = trim (trim r2))))] = listText [blT (decide (trim r1 = trim r3)), blT (!decide (trim r1 = trim r3)), blT true] := by
        rw [Bool.false_xor, Bool.true_xor, Bool.false_xor, decide_eq_true (row_again r2).symm]
      rw [decide_eq_true (congrArg V.str same)]
      refine iteF ?_
      have ub := u9.same sb
      have sHb := Same.trans s5 (Same.trans (Same.trans s6 s7) (Same.trans (Same.trans s8 s9) sb))
      generalize upd (upd G9 L9 _) La _ = Gb at sb ub sHb ⊢
      refine ⟨_, rfl, p1, _, rfl, .inl ⟨SqL.of ub.a1, fun ot hot => ?_⟩⟩
      have k1 := sNew (o := .tup (r1.map V.int)) (Same.refl Gb) hot
      refine ⟨_, rfl, p1, _, rfl, .inl (SqL.of (ub.same k1).a1), fun ol hol => ?_⟩
      have k2 := sNew (o := .lst (r1.map V.int)) k1 hol
      have eot := old (o := .lst (r1.map V.int)) (upd_same (H := Gb) (a := ot) (o := .tup (r1.map V.int))) hol
      have eol : upd (upd Gb ot (.tup (r1.map V.int))) ol (.lst (r1.map V.int)) ol = some (.lst (r1.map V.int)) := upd_same
      generalize upd (upd Gb ot (.tup (r1.map V.int))) ol (.lst (r1.map V.int)) = Gc at k2 eot eol ⊢
      have uc := ub.same k2
      refine ⟨_, rfl, D, _, _, V.ref m1, rfl, rfl, SqL.of (uc).d, at_of (j := 0) rfl rfl, m1, trim r1, rfl, uc.b1, bt1, by omega, fun Gd k3 => ?_⟩
      have ud := uc.same k3
      refine ⟨_, rfl, D, _, _, V.ref m1, rfl, rfl, SqL.of (ud).d, at_of (j := 0) rfl rfl, m1, trim r1, rfl, ud.b1, bt1, by omega, fun Ge k4 => ?_⟩
      have ue := ud.same k4
      refine ⟨_, rfl, D, _, _, V.ref m1, rfl, rfl, SqL.of (ue).d, at_of (j := 0) rfl rfl, (by show 1 ≤ sizeLine; decide), fun om hom => ?_⟩
      have k5 := sNew (o := .lst [V.ref m1]) (Same.refl Ge) hom
      refine ⟨(by show 7 ≤ sizeLine; decide), fun Lo hLo => ?_⟩
      have k6 := sNew (o := .lst [V.non, .int 0, .ref ot, .ref ol, .str (textT (trim r1)), .str (shownP (trim r1)), .ref om]) k5 hLo
      have eom := old (o := .lst [V.non, .int 0, .ref ot, .ref ol, .str (textT (trim r1)), .str (shownP (trim r1)), .ref om]) (upd_same (H := Ge) (a := om) (o := .lst [V.ref m1])) hLo
      have eLo : upd (upd Ge om (.lst [V.ref m1])) Lo (.lst [V.non, .int 0, .ref ot, .ref ol, .str (textT (trim r1)), .str (shownP (trim r1)), .ref om]) Lo = some (.lst [V.non, .int 0, .ref ot, .ref ol, .str (textT (trim r1)), .str (shownP (trim r1)), .ref om]) := upd_same
      generalize upd (upd Ge om (.lst [V.ref m1])) Lo (.lst [V.non, .int 0, .ref ot, .ref ol, .str (textT (trim r1)), .str (shownP (trim r1)), .ref om]) = Gf at k6 eom eLo ⊢
      have kc := Same.trans k3 (Same.trans k4 k6)
      have uf := ue.same k6
      have things : ∀ y ∈ [V.non, .int 0, .ref ot, .ref ol, .str (textT (trim r1)), .str (shownP (trim r1)), .ref om], (∃ n, y = .int n) ∨ ∃ Ty, OddV Gf y Ty := fun y hy => by
        simp only [List.mem_cons, List.not_mem_nil, or_false] at hy
        rcases hy with rfl | rfl | rfl | rfl | rfl | rfl | rfl
        · exact .inr ⟨_, .non⟩
        · exact .inl ⟨0, rfl⟩
        · exact .inr ⟨_, .tup (kc _ _ eot)⟩
        · exact .inr ⟨_, .lst (kc _ _ eol)⟩
        · exact .inr ⟨_, .str _⟩
        · exact .inr ⟨_, .str _⟩
        · exact .inr ⟨_, .lst eom⟩
      refine ⟨_, rfl, Lo, rfl, ⟨_, SqL.of eLo⟩, fun D2 hD2 => ?_⟩
      refine lc_it (walk_list (K := K) (a := Lo) (xs := [V.non, .int 0, .ref ot, .ref ol, .str (textT (trim r1)), .str (shownP (trim r1)), .ref om])) (fun i G' => Same Gf G' ∧ G' D2 = some (.lst ((List.replicate i false).map V.bl))) ⟨sNew (Same.refl Gf) hD2, upd_same⟩ (fun i G' _ h => h.1.seq (SqL.of eLo)) ?_ ?_
      · rintro i z _ Gg hi ⟨s8, w8⟩ ⟨rfl, hz⟩
        have ug := uf.same s8
        have kind := (things z (List.mem_of_getElem? hz)).imp id fun ⟨Ty, o⟩ => (⟨Ty, o.same s8⟩ : ∃ Ty, OddV Gg z Ty)
        refine ⟨rfl, _, rfl, D, _, _, V.ref m1, rfl, rfl, SqL.of (ug).d, at_of (j := 0) rfl rfl, _, rfl, m1, trim r1, rfl, ug.b1, kind, _, w8, ?_, sPut s8 hD2, ?_⟩
        · rw [List.length_map, List.length_replicate]
          exact lt_line (by have : i < 7 := hi; omega)
        · rw [upd_same, List.replicate_succ', List.map_append]; rfl
      · rintro Gg ⟨s8, w8⟩
        refine ⟨D2, _, rfl, SqL.of w8, ?_⟩
        have none_ : (List.replicate 7 false).any id = false := by decide
        refine ⟨false, rfl, iteF ?_⟩
        have all8 := Same.trans k2 (Same.trans kc s8)
        have ug := ub.same all8
        have sGg : Same G Gg := Same.trans sG2 (Same.trans sHb all8)
        have hlg := hlG.same sGg
        have nDl : D ≠ l := hlg.apart ug.d fun x0 y0 z => nomatch z
        refine ⟨_, rfl, _, rfl, D, _, _, V.ref m1, rfl, rfl, SqL.of (ug.d), at_of (j := 0) rfl rfl, _, rfl, l, m1, p1, r1, rfl, hlg, ug.b1, ug.a1, np1, b1, len1, fun Gv sxv hlv => ⟨true, rfl, iteT ?_⟩⟩
        refine ⟨_, rfl, _, rfl, D, _, _, V.ref m2, rfl, rfl, SqL.of (sxv _ _ nDl ug.d), at_of (j := 1) rfl rfl, l, m2, trim r2, rfl, hlv, ug.b2.sameX hlg sxv, tabs_sameX hlg sxv (tbG.ext sGg), fun Gz xz _ tz => ?_⟩
        exact q Gz ((ExtX.ofX (SameX.trans (SameX.same sxG sGg) sxv)).trans xz) tz
end
end S70

namespace S70
open PySem L2 SR RA TXM
open LamX (Tabs ExtN TabB)
theorem seq_ext {K : PySem.W.Frag} {H H' : Hp} {a : Addr} {xs : List V} (s : ExtN H H') (h : SqL K H a xs) : SqL K H' a xs := by
  rcases h with (h | ⟨o, h⟩) | h
  · exact .inl (.inl (s _ _ h (fun _ z => nomatch z)))
  · exact .inl (.inr ⟨o, s _ _ h (fun _ z => nomatch z)⟩)
  · exact .inr h
section
variable {P : Program} {w : World} {K : PySem.W.Frag} {mg : Str → Option Value} {base : Heap}
/-! ### law -/
def spLaw (K : PySem.W.Frag) (Tb : List (Addr × Str)) : Sp := fun vs H Q _ => ∃ (a : Addr) (ns : List Int), vs = [.ref a] ∧ SqL K H a (ns.map V.int) ∧ ns.length ≤ 63 ∧ Tabs Tb H ∧ ∀ H', Q (.bl true) H'
abbrev nLaw : List Str := ["_law_script", "_law_k"]
theorem scLaw : FnScope nLaw ["_law_script"] (defScope sLaw) := ⟨rfl, rfl, rfl, by decide +kernel, rfl, by decide +kernel, by decide +kernel⟩
def teLaw (K : PySem.W.Frag) (Tb : List (Addr × Str)) : TE := tCall (spRight Tb) [] E0 (tCons (tCall (spRng K) [] E0 (tCons (tVar 0) (tCons (tVar 1) tNil))) tNil)
theorem ok_law {f : Addr} {fd : FuncData} {Tb : List (Addr × Str)} (F : Fun K "law" "law" sLaw f fd) (T : Bn mg) (DP : Df P w K mg base "_law_rng" ["_law_script", "_law_k"] 1 (spRng K)) (DR : DfG P w K mg base "_law_right" ["_law_rng_here"] 15 (spRight Tb)) : FnG P w K mg base CX0 16 f fd ["_law_script"] (spLaw K Tb) := by
  refine F.okG scLaw (fun vs H Q E h => ?_) (fun cdv A outer s H vs Q E gd hr h => ?_)
  · obtain ⟨a, ns, rfl, _⟩ := h
    rfl
  · obtain ⟨a, ns, rfl, ha, hlen, tb, q⟩ := h
    have h1 : Room 1 _ := hr.mono (by decide)
    refine ⟨_, pss_one (ps_ret (pe_callB (cr_all rfl) (by rfl) T.all (by decide +kernel) (pa_cons (pe_lc (own := [("_law_k", 1)]) (g := gName 1) (tt := tYes) (te := teLaw K Tb) (by rfl) scLaw.nd
        (pi_range1 (by rfl) T.range (pa_cons (pe_callB (call_max2 rfl) (by rfl) T.max (by decide +kernel) (pa_cons pe_int (pa_cons (pe_callB (call_min2 rfl) (by rfl) T.min (by decide +kernel) (pa_cons (pe_callB call_len_seq (by rfl) T.len PySem.boot_len (pa_cons (pv 0) pa_nil)) (pa_cons pe_int pa_nil))) pa_nil))) pa_nil))
        (blkOk_by (own := [("_law_k", 1)]) (N := nLaw) (sc := defScope sLaw) (by decide +kernel))
        (fun _ _ _ _ _ => pg_name (i := 1) scLaw.nd rfl (Or.inl rfl)) (fun _ _ _ _ _ => pts_nil)
        (fun _ _ _ _ _ => pe_dfG DR gd hr (by rfl) (pa_cons (pe_df DP h1 (by rfl) (pa_cons (pv 0) (pa_cons (pv 1) pa_nil))) pa_nil))) pa_nil))), ?_⟩
    refine ⟨_, rfl, a, _, rfl, .inl ha, _, _, rfl, _, _, rfl, ?_⟩
    obtain ⟨kk, hkk⟩ : ∃ kk : Int, kk = (if (if (4 : Int) < (((ns.map V.int).length : Nat) : Int) then 4 else (((ns.map V.int).length : Nat) : Int)) > 1 then (if (4 : Int) < (((ns.map V.int).length : Nat) : Int) then 4 else (((ns.map V.int).length : Nat) : Int)) else 1) := ⟨_, rfl⟩
    have hk4 : 1 ≤ kk ∧ kk ≤ 4 := by
      rw [hkk]; split <;> split <;> omega
    refine ⟨kk, by rw [hkk], by omega, by omega, fun D hD => ?_⟩
    clear hkk
    refine lc_it (walk_range (lo := 0) (n := kk.toNat)) (fun i H' => ExtN H H' ∧ Tabs Tb H' ∧ H' D = some (.lst ((List.replicate i true).map V.bl))) ⟨ExtN.of (sNew (Same.refl H) hD), tb.ext (sNew (Same.refl H) hD), upd_same⟩ (fun _ _ _ _ => trivial) ?_ ?_
    · rintro i x _ H1 hi ⟨s1, tb1, hw⟩ ⟨rfl, rfl⟩
      have e0 : (0 : Int) + (i : Nat) = (i : Nat) := by omega
      refine ⟨rfl, _, rfl, _, rfl, a, ns, i, (by show [V.ref a, V.int ((0 : Int) + (i : Nat))] = [V.ref a, V.int ((i : Nat) : Int)]; rw [e0]), seq_ext s1 ha, by omega, by omega, fun H2 l s2 nl pot => ?_⟩
      refine ⟨l, rfl, pot, tb1.ext s2, fun H3 sx tb3 => ?_⟩
      have s13 : ExtN H1 H3 := fun b o e ho => sx b o (ne_of_none e nl) (s2 _ _ e) ho
      have hw3 := s13 _ _ hw (fun _ z => nomatch z)
      refine ⟨_, hw3, ?_, fun b o e ho => ?_, tabs_set tb3 hw3, ?_⟩
      · have sl : sizeLine = 16777216 := sizeLine_eq
        rw [List.length_map, List.length_replicate]
        omega
      · rw [upd_ne (ne_of_none e hD)]
        exact s13 _ _ (s1 _ _ e ho) ho
      · rw [upd_same, List.replicate_succ', List.map_append]; rfl
    · rintro H1 ⟨s1, tb1, hw⟩
      refine ⟨D, _, rfl, SqL.of hw, ?_⟩
      have e : (List.replicate kk.toNat true).all id = true := by simp
      rw [e]
      exact q H1
end
end S70

namespace S70
open PySem L2 SR RA TXM
open PyProof.Rows
section
variable {P : Program} {w : World} {K : PySem.W.Frag} {mg : Str → Option Value} {base : Heap}
theorem tabs0 {H : Hp} {Pt : Addr} {q : Str} (h : H Pt = some (.tbl #[])) : LamX.Tabs [(Pt, q)] H := fun p hp => by
  rw [List.mem_singleton.mp hp]
  exact ⟨#[], h, by first | trivial | simp [TriplesOk], fun pos cv hc => by cases hc⟩
theorem df_of {x : Str} {ps : List Str} {k : Nat} {sp : Sp} {f : Addr} {fd : FuncData} {st : Stmt} (F : Fun K x x st f fd) (hm : mg x = some (.ref f)) (b : Binds K fd ps []) (G : FnOk P w K mg base CX0 k f fd ps sp) : Df P w K mg base x ps k sp := ⟨f, fd, hm, F.kp, b, G⟩
theorem dfG_of {x : Str} {ps : List Str} {k : Nat} {sp : Sp} {f : Addr} {fd : FuncData} {st : Stmt} (F : Fun K x x st f fd) (hm : mg x = some (.ref f)) (b : Binds K fd ps []) (G : FnG P w K mg base CX0 k f fd ps sp) : DfG P w K mg base x ps k sp := ⟨f, fd, hm, F.kp, b, G⟩
theorem raw0 {f : Addr} {fd : FuncData} {ps : List Str} {j k : Nat} {sp : Sp} (G : FnOk P w K mg base CX0 j f fd ps sp) (b : Binds K fd ps []) (h : j ≤ k) : FnR P w K mg base CX0 k f sp := FnR.mono (FnR.imp (FnOk.raw (dvs := []) G b .nil) fun vs H Q E h => by rw [List.append_nil]; exact h) h
theorem kit_rt {C : Addr} {T : String} {b : Bool} (m : PySem.W.kitMeta T = true) (h : PySem.W.subIn K (.ref C) (.type T) = some b) : PySem.W.kitOne K (.ref C) (.type T) = some b := by
  unfold PySem.W.kitOne
  rw [if_neg (by simp)]
  show (if PySem.W.kitMeta T = true then PySem.W.subIn K (.ref C) (.type T) else none) = some b
  rw [if_pos m]
  exact h
theorem kit_tr {C : Addr} {T : String} {b : Bool} (i : PySem.W.isClsIn K C = true) (t : PySem.W.typeIn K (.ref C) = some (.type "type")) (h : PySem.W.subIn K (.type T) (.ref C) = some b) : PySem.W.kitOne K (.type T) (.ref C) = some b := by
  unfold PySem.W.kitOne
  rw [if_neg (by simp)]
  show (if ((PySem.W.clsIn K C).isSome && PySem.W.typeIn K (.ref C) == some (.type "type")) = true then PySem.W.subIn K (.type T) (.ref C) else none) = some b
  rw [if_pos (by rw [t]; show ((PySem.W.clsIn K C).isSome && _) = true; unfold PySem.W.isClsIn at i; rw [i]; simp)]
  exact h
theorem exm_self {C : Addr} (e : PySem.W.subIn K (.ref C) (.type "BaseException") = some true) (i : PySem.W.isClsIn K C = true) (t : PySem.W.typeIn K (.ref C) = some (.type "type")) (h : PySem.W.subIn K (.ref C) (.ref C) = some true) : PySem.W.exmOne K (.ref C) (.ref C) = some true := by
  unfold PySem.W.exmOne
  rw [if_pos (by rw [e]; simp)]
  show (if ((PySem.W.clsIn K C).isSome && PySem.W.typeIn K (.ref C) == some (.type "type")) = true then PySem.W.subIn K (.ref C) (.ref C) else none) = some true
  rw [if_pos (by rw [t]; unfold PySem.W.isClsIn at i; rw [i]; simp)]
  exact h
theorem kit_rr {C S : Addr} (i : PySem.W.isClsIn K S = true) (t : PySem.W.typeIn K (.ref S) = some (.type "type")) (h : PySem.W.subIn K (.ref C) (.ref S) = some true) : PySem.W.kitOne K (.ref C) (.ref S) = some true := by
  by_cases e : C = S
  · rw [e]; exact kit_self
  · unfold PySem.W.kitOne
    rw [if_neg (by simpa using e)]
    show (if ((PySem.W.clsIn K S).isSome && PySem.W.typeIn K (.ref S) == some (.type "type")) = true then PySem.W.subIn K (.ref C) (.ref S) else none) = some true
    rw [if_pos (by rw [t]; show ((PySem.W.clsIn K S).isSome && _) = true; unfold PySem.W.isClsIn at i; rw [i]; simp)]
    exact h
theorem rat_mk {C f TD : Addr} {oc tdc kV doc pm cdv ct : Value} {od tdd an : Option Addr} {osl tds : Array (Option Value)} {tdn : Nat} {tdt : Tok} (N : Rc K mg C) (M : Mk K C f) (l : K.lookup f = some ⟨oc, od, .func (PySem.W.fnOf "__init__" "Ratio.__init__" (defArgs sRInit) (defBody sRInit) (defScope sRInit) (.ref TD) kV doc pm an cdv ct), osl⟩)
    (c : PySem.W.codeIn K cdv "Ratio.__init__" = true) (k : PySem.W.keepIn K (.ref f) = true) (lt : K.lookup TD = some ⟨tdc, tdd, .seq #[Value.int 1 tdt] tdn, tds⟩) (T : Bn mg) (DI : Df P w K mg base "is_integer" ["value"] 1 (spIsInt C)) (DG : Df P w K mg base "common_divisor" ["one", "other"] 1 spGcd) : RMk P w K mg base C := by
  have F : FunD K "__init__" "Ratio.__init__" (defArgs sRInit) (defBody sRInit) (defScope sRInit) [.int 1] [] f (PySem.W.fnOf "__init__" "Ratio.__init__" (defArgs sRInit) (defBody sRInit) (defScope sRInit) (.ref TD) kV doc pm an cdv ct) :=
    ⟨⟨oc, od, .ref TD, kV, doc, pm, an, cdv, ct, osl, rfl, l, c, .inr ⟨by simp, TD, _, [Value.int 1 tdt], tdn, rfl, lt, rfl, .cons ⟨tdt, rfl⟩ .nil⟩, .inl rfl⟩, k⟩
  have G := ok_rinit (P := P) (w := w) (base := base) F T N DI DG
  have b2 : ∃ ds, Vals ([V.int 1].drop 0) ds ∧ Binds K _ ["self", "top", "bottom"] ds := F.binds1 2 0 (by simp) rfl fun _ _ _ _ _ _ _ us its hu hi => match us, its, hu, hi with
    | [_, _], [_], _, _ => ⟨_, rfl, rfl⟩
  have b3 : ∃ ds, Vals ([V.int 1].drop 1) ds ∧ Binds K _ ["self", "top", "bottom"] ds := F.binds1 3 1 (by simp) rfl fun _ _ _ _ _ _ _ us its hu hi => match us, its, hu, hi with
    | [_, _, _], [_], _, _ => ⟨_, rfl, rfl⟩
  obtain ⟨d2, v2, b2⟩ := b2
  obtain ⟨d3, v3, b3⟩ := b3
  exact ⟨N, f, M, FnR.imp (FnOk.raw G b3 v3) fun vs H Q E h => by rw [show vs ++ [V.int 1].drop 1 = vs from List.append_nil vs]; exact h, FnOk.raw G b2 v2⟩
theorem kit_no {C S : Addr} (ne : C ≠ S) (i : PySem.W.isClsIn K S = true) (t : PySem.W.typeIn K (.ref S) = some (.type "type")) (h : PySem.W.subIn K (.ref C) (.ref S) = some false) : PySem.W.kitOne K (.ref C) (.ref S) = some false := by
  unfold PySem.W.kitOne
  rw [if_neg (by simpa using ne)]
  show (if ((PySem.W.clsIn K S).isSome && PySem.W.typeIn K (.ref S) == some (.type "type")) = true then PySem.W.subIn K (.ref C) (.ref S) else none) = some false
  rw [if_pos (by rw [t]; show ((PySem.W.clsIn K S).isSome && _) = true; unfold PySem.W.isClsIn at i; rw [i]; simp)]
  exact h
theorem exm_no {C S : Addr} (e : PySem.W.subIn K (.ref S) (.type "BaseException") = some true) (i : PySem.W.isClsIn K S = true) (t : PySem.W.typeIn K (.ref S) = some (.type "type")) (h : PySem.W.subIn K (.ref C) (.ref S) = some false) : PySem.W.exmOne K (.ref C) (.ref S) = some false := by
  unfold PySem.W.exmOne
  rw [if_pos (by rw [e]; simp)]
  show (if ((PySem.W.clsIn K S).isSome && PySem.W.typeIn K (.ref S) == some (.type "type")) = true then PySem.W.subIn K (.ref C) (.ref S) else none) = some false
  rw [if_pos (by rw [t]; unfold PySem.W.isClsIn at i; rw [i]; simp)]
  exact h
end
theorem all_mk {l : PySem.W.OpenLaw} {w : World} {K : PySem.W.Frag} {h : Heap} {mg : Str → Option Value} {q : Program} {fa f0 f1 f2 f3 f4 f5 f6 f7 f8 f9 f10 f11 f12 f13 f14 f15 f16 f17 f18 f19 f20 f21 f22 f23 f24 f25 fm0 fm1 fm2 fm3 fm4 fm5 fm6 fm7 fm8 fp0 qp0 finC frp finR TD radd rsub rmul R C DI DJ S2 feI feJ ceI ceJ celI celJ co Pt : Addr} (X : K.In h) (G : h.Ns mainGlobals mg) (TT : ∀ (d' : DefRec) (x : Str) (c P : Addr), (recsOf q).find? (fun e => e.name == x) = some d' → PySem.W.tabIn K x = some (c, P) → PySem.W.CodeHd h c P ∧ h.get? P = some emptyTab) (hrec : ((recsOf q).find? (fun e => e.name == ("_law_refusals_right" : Str))).isSome = true) (hfa : mg "law" = some (.ref fa))
    {od0 an0 : Option Addr} {sl0 : Array (Option Value)} {oc0 kV0 dc0 pm0 cd0 ct0 : Value}
    {od1 an1 : Option Addr} {sl1 : Array (Option Value)} {oc1 kV1 dc1 pm1 cd1 ct1 : Value}
    {od2 an2 : Option Addr} {sl2 : Array (Option Value)} {oc2 kV2 dc2 pm2 cd2 ct2 : Value}
    {od3 an3 : Option Addr} {sl3 : Array (Option Value)} {oc3 kV3 dc3 pm3 cd3 ct3 : Value}
    {od4 an4 : Option Addr} {sl4 : Array (Option Value)} {oc4 kV4 dc4 pm4 cd4 ct4 : Value}
    {od5 an5 : Option Addr} {sl5 : Array (Option Value)} {oc5 kV5 dc5 pm5 cd5 ct5 : Value}
    {od6 an6 : Option Addr} {sl6 : Array (Option Value)} {oc6 kV6 dc6 pm6 cd6 ct6 : Value}
    {od7 an7 : Option Addr} {sl7 : Array (Option Value)} {oc7 kV7 dc7 pm7 cd7 ct7 : Value}
    {od8 an8 : Option Addr} {sl8 : Array (Option Value)} {oc8 kV8 dc8 pm8 cd8 ct8 : Value}
    {od9 an9 : Option Addr} {sl9 : Array (Option Value)} {oc9 kV9 dc9 pm9 cd9 ct9 : Value}
    {od10 an10 : Option Addr} {sl10 : Array (Option Value)} {oc10 kV10 dc10 pm10 cd10 ct10 : Value}
    {od11 an11 : Option Addr} {sl11 : Array (Option Value)} {oc11 kV11 dc11 pm11 cd11 ct11 : Value}
    {od12 an12 : Option Addr} {sl12 : Array (Option Value)} {oc12 kV12 dc12 pm12 cd12 ct12 : Value}
    {od13 an13 : Option Addr} {sl13 : Array (Option Value)} {oc13 kV13 dc13 pm13 cd13 ct13 : Value}
    {od14 an14 : Option Addr} {sl14 : Array (Option Value)} {oc14 kV14 dc14 pm14 cd14 ct14 : Value}
    {od15 an15 : Option Addr} {sl15 : Array (Option Value)} {oc15 kV15 dc15 pm15 cd15 ct15 : Value}
    {od16 an16 : Option Addr} {sl16 : Array (Option Value)} {oc16 kV16 dc16 pm16 cd16 ct16 : Value}
    {od17 an17 : Option Addr} {sl17 : Array (Option Value)} {oc17 kV17 dc17 pm17 cd17 ct17 : Value}
    {od18 an18 : Option Addr} {sl18 : Array (Option Value)} {oc18 kV18 dc18 pm18 cd18 ct18 : Value}
    {od19 an19 : Option Addr} {sl19 : Array (Option Value)} {oc19 kV19 dc19 pm19 cd19 ct19 : Value}
    {od20 an20 : Option Addr} {sl20 : Array (Option Value)} {oc20 kV20 dc20 pm20 cd20 ct20 : Value}
    {od21 an21 : Option Addr} {sl21 : Array (Option Value)} {oc21 kV21 dc21 pm21 cd21 ct21 : Value}
    {od22 an22 : Option Addr} {sl22 : Array (Option Value)} {oc22 kV22 dc22 pm22 ct22 : Value}
    {ok1 : Value} {ok2 : Option Addr} {ovs : Array Value} {ok3 : Array (Option Value)}
    {od23 an23 : Option Addr} {sl23 : Array (Option Value)} {oc23 kV23 dc23 pm23 cd23 ct23 : Value}
    {od24 an24 : Option Addr} {sl24 : Array (Option Value)} {oc24 kV24 dc24 pm24 cd24 ct24 : Value}
    {od25 an25 : Option Addr} {sl25 : Array (Option Value)} {oc25 kV25 dc25 pm25 cd25 ct25 : Value}
    {odm0 anm0 : Option Addr} {slm0 : Array (Option Value)} {ocm0 kVm0 dcm0 pmm0 cdm0 ctm0 : Value}
    {odm1 anm1 : Option Addr} {slm1 : Array (Option Value)} {ocm1 kVm1 dcm1 pmm1 cdm1 ctm1 : Value}
    {odm2 anm2 : Option Addr} {slm2 : Array (Option Value)} {ocm2 kVm2 dcm2 pmm2 cdm2 ctm2 : Value}
    {odm3 anm3 : Option Addr} {slm3 : Array (Option Value)} {ocm3 kVm3 dcm3 pmm3 cdm3 ctm3 : Value}
    {odm4 anm4 : Option Addr} {slm4 : Array (Option Value)} {ocm4 kVm4 dcm4 pmm4 cdm4 ctm4 : Value}
    {odm5 anm5 : Option Addr} {slm5 : Array (Option Value)} {ocm5 kVm5 dcm5 pmm5 cdm5 ctm5 : Value}
    {odm6 anm6 : Option Addr} {slm6 : Array (Option Value)} {ocm6 kVm6 dcm6 pmm6 cdm6 ctm6 : Value}
    {odm7 anm7 : Option Addr} {slm7 : Array (Option Value)} {ocm7 kVm7 dcm7 pmm7 cdm7 ctm7 : Value}
    {odm8 anm8 : Option Addr} {slm8 : Array (Option Value)} {ocm8 kVm8 dcm8 pmm8 cdm8 ctm8 : Value}
    {rp0 : List Value}
    {odp0 anp0 : Option Addr} {slp0 : Array (Option Value)} {ocp0 kVp0 dcp0 pmp0 cdp0 ctp0 : Value}
    {odinC aninC : Option Addr} {slinC : Array (Option Value)} {ocinC kVinC dcinC pminC cdinC ctinC : Value}
    {odrp anrp : Option Addr} {slrp : Array (Option Value)} {ocrp kVrp dcrp pmrp cdrp ctrp : Value}
    {odinR aninR : Option Addr} {slinR : Array (Option Value)} {ocinR kVinR dcinR pminR cdinR ctinR : Value}
    {tdc : Value} {tdd : Option Addr} {tdn : Nat} {tdt : Tok} {tds : Array (Option Value)}
    {zinm ziq : _} {ziN : _} {zibs : _} {zisn : _} {zisub : _} {ziab : _} {zicol : _} {zidd : _} {zi0 zi1 zi2 zi3 zi5 : _}
    {odEI anEI : Option Addr} {slEI : Array (Option Value)} {ocEI kVEI dcEI pmEI ctEI : Value}
    {celdI : Option Addr} {celsI : Array (Option Value)}
    {ck1I : Value} {ck2I : Option Addr} {vsI : Array Value} {ck3I : Array (Option Value)} {fileI : Str} {tfI : Tok}
    {zjnm zjq : _} {zjN : _} {zjbs : _} {zjsn : _} {zjsub : _} {zjab : _} {zjcol : _} {zjdd : _} {zj0 zj1 zj2 zj3 zj5 : _}
    {odEJ anEJ : Option Addr} {slEJ : Array (Option Value)} {ocEJ kVEJ dcEJ pmEJ ctEJ : Value}
    {celdJ : Option Addr} {celsJ : Array (Option Value)}
    {ck1J : Value} {ck2J : Option Addr} {vsJ : Array Value} {ck3J : Array (Option Value)} {fileJ : Str} {tfJ : Tok}
    (a0 : PySem.W.nsIn K mainGlobals "is_integer" = some (some (.ref f0)))
    (l0 : K.lookup f0 = some ⟨oc0, od0, .func (PySem.W.fnOf "is_integer" "is_integer" (defArgs sIsInt) (defBody sIsInt) (defScope sIsInt) .none kV0 dc0 pm0 an0 cd0 ct0), sl0⟩)
    (c0 : PySem.W.codeIn K cd0 "is_integer" = true)
    (k0 : PySem.W.keepIn K (.ref f0) = true)
    (a1 : PySem.W.nsIn K mainGlobals "common_divisor" = some (some (.ref f1)))
    (l1 : K.lookup f1 = some ⟨oc1, od1, .func (PySem.W.fnOf "common_divisor" "common_divisor" (defArgs sGcd) (defBody sGcd) (defScope sGcd) .none kV1 dc1 pm1 an1 cd1 ct1), sl1⟩)
    (c1 : PySem.W.codeIn K cd1 "common_divisor" = true)
    (k1 : PySem.W.keepIn K (.ref f1) = true)
    (a2 : PySem.W.nsIn K mainGlobals "added_rows" = some (some (.ref f2)))
    (l2 : K.lookup f2 = some ⟨oc2, od2, .func (PySem.W.fnOf "added_rows" "added_rows" (defArgs sAdded) (defBody sAdded) (defScope sAdded) .none kV2 dc2 pm2 an2 cd2 ct2), sl2⟩)
    (c2 : PySem.W.codeIn K cd2 "added_rows" = true)
    (k2 : PySem.W.keepIn K (.ref f2) = true)
    (a3 : PySem.W.nsIn K mainGlobals "multiplied_rows" = some (some (.ref f3)))
    (l3 : K.lookup f3 = some ⟨oc3, od3, .func (PySem.W.fnOf "multiplied_rows" "multiplied_rows" (defArgs sMult) (defBody sMult) (defScope sMult) .none kV3 dc3 pm3 an3 cd3 ct3), sl3⟩)
    (c3 : PySem.W.codeIn K cd3 "multiplied_rows" = true)
    (k3 : PySem.W.keepIn K (.ref f3) = true)
    (a4 : PySem.W.nsIn K mainGlobals "opposite_row" = some (some (.ref f4)))
    (l4 : K.lookup f4 = some ⟨oc4, od4, .func (PySem.W.fnOf "opposite_row" "opposite_row" (defArgs sOpp) (defBody sOpp) (defScope sOpp) .none kV4 dc4 pm4 an4 cd4 ct4), sl4⟩)
    (c4 : PySem.W.codeIn K cd4 "opposite_row" = true)
    (k4 : PySem.W.keepIn K (.ref f4) = true)
    (a5 : PySem.W.nsIn K mainGlobals "power_text" = some (some (.ref f5)))
    (l5 : K.lookup f5 = some ⟨oc5, od5, .func (PySem.W.fnOf "power_text" "power_text" (defArgs sPowT) (defBody sPowT) (defScope sPowT) .none kV5 dc5 pm5 an5 cd5 ct5), sl5⟩)
    (c5 : PySem.W.codeIn K cd5 "power_text" = true)
    (k5 : PySem.W.keepIn K (.ref f5) = true)
    (a6 : PySem.W.nsIn K mainGlobals "piece_text" = some (some (.ref f6)))
    (l6 : K.lookup f6 = some ⟨oc6, od6, .func (PySem.W.fnOf "piece_text" "piece_text" (defArgs sPieceT) (defBody sPieceT) (defScope sPieceT) .none kV6 dc6 pm6 an6 cd6 ct6), sl6⟩)
    (c6 : PySem.W.codeIn K cd6 "piece_text" = true)
    (k6 : PySem.W.keepIn K (.ref f6) = true)
    (a7 : PySem.W.nsIn K mainGlobals "text_pieces" = some (some (.ref f7)))
    (l7 : K.lookup f7 = some ⟨oc7, od7, .func (PySem.W.fnOf "text_pieces" "text_pieces" (defArgs sPieces) (defBody sPieces) (defScope sPieces) .none kV7 dc7 pm7 an7 cd7 ct7), sl7⟩)
    (c7 : PySem.W.codeIn K cd7 "text_pieces" = true)
    (k7 : PySem.W.keepIn K (.ref f7) = true)
    (a8 : PySem.W.nsIn K mainGlobals "row_of" = some (some (.ref f8)))
    (l8 : K.lookup f8 = some ⟨oc8, od8, .func (PySem.W.fnOf "row_of" "row_of" (defArgs sRowOf) (defBody sRowOf) (defScope sRowOf) .none kV8 dc8 pm8 an8 cd8 ct8), sl8⟩)
    (c8 : PySem.W.codeIn K cd8 "row_of" = true)
    (k8 : PySem.W.keepIn K (.ref f8) = true)
    (a9 : PySem.W.nsIn K mainGlobals "_law_rng" = some (some (.ref f9)))
    (l9 : K.lookup f9 = some ⟨oc9, od9, .func (PySem.W.fnOf "_law_rng" "_law_rng" (defArgs sRng) (defBody sRng) (defScope sRng) .none kV9 dc9 pm9 an9 cd9 ct9), sl9⟩)
    (c9 : PySem.W.codeIn K cd9 "_law_rng" = true)
    (k9 : PySem.W.keepIn K (.ref f9) = true)
    (a10 : PySem.W.nsIn K mainGlobals "_law_draw" = some (some (.ref f10)))
    (l10 : K.lookup f10 = some ⟨oc10, od10, .func (PySem.W.fnOf "_law_draw" "_law_draw" (defArgs sDraw) (defBody sDraw) (defScope sDraw) .none kV10 dc10 pm10 an10 cd10 ct10), sl10⟩)
    (c10 : PySem.W.codeIn K cd10 "_law_draw" = true)
    (k10 : PySem.W.keepIn K (.ref f10) = true)
    (a11 : PySem.W.nsIn K mainGlobals "_law_choice" = some (some (.ref f11)))
    (l11 : K.lookup f11 = some ⟨oc11, od11, .func (PySem.W.fnOf "_law_choice" "_law_choice" (defArgs sChoice) (defBody sChoice) (defScope sChoice) .none kV11 dc11 pm11 an11 cd11 ct11), sl11⟩)
    (c11 : PySem.W.codeIn K cd11 "_law_choice" = true)
    (k11 : PySem.W.keepIn K (.ref f11) = true)
    (a12 : PySem.W.nsIn K mainGlobals "_law_coefficient" = some (some (.ref f12)))
    (l12 : K.lookup f12 = some ⟨oc12, od12, .func (PySem.W.fnOf "_law_coefficient" "_law_coefficient" (defArgs sCoeff) (defBody sCoeff) (defScope sCoeff) .none kV12 dc12 pm12 an12 cd12 ct12), sl12⟩)
    (c12 : PySem.W.codeIn K cd12 "_law_coefficient" = true)
    (k12 : PySem.W.keepIn K (.ref f12) = true)
    (a13 : PySem.W.nsIn K mainGlobals "_law_row" = some (some (.ref f13)))
    (l13 : K.lookup f13 = some ⟨oc13, od13, .func (PySem.W.fnOf "_law_row" "_law_row" (defArgs sRow) (defBody sRow) (defScope sRow) .none kV13 dc13 pm13 an13 cd13 ct13), sl13⟩)
    (c13 : PySem.W.codeIn K cd13 "_law_row" = true)
    (k13 : PySem.W.keepIn K (.ref f13) = true)
    (a14 : PySem.W.nsIn K mainGlobals "_law_plain" = some (some (.ref f14)))
    (l14 : K.lookup f14 = some ⟨oc14, od14, .func (PySem.W.fnOf "_law_plain" "_law_plain" (defArgs sPlain) (defBody sPlain) (defScope sPlain) .none kV14 dc14 pm14 an14 cd14 ct14), sl14⟩)
    (c14 : PySem.W.codeIn K cd14 "_law_plain" = true)
    (k14 : PySem.W.keepIn K (.ref f14) = true)
    (a15 : PySem.W.nsIn K mainGlobals "_law_sum" = some (some (.ref f15)))
    (l15 : K.lookup f15 = some ⟨oc15, od15, .func (PySem.W.fnOf "_law_sum" "_law_sum" (defArgs sSum) (defBody sSum) (defScope sSum) .none kV15 dc15 pm15 an15 cd15 ct15), sl15⟩)
    (c15 : PySem.W.codeIn K cd15 "_law_sum" = true)
    (k15 : PySem.W.keepIn K (.ref f15) = true)
    (a16 : PySem.W.nsIn K mainGlobals "_law_product" = some (some (.ref f16)))
    (l16 : K.lookup f16 = some ⟨oc16, od16, .func (PySem.W.fnOf "_law_product" "_law_product" (defArgs sProd) (defBody sProd) (defScope sProd) .none kV16 dc16 pm16 an16 cd16 ct16), sl16⟩)
    (c16 : PySem.W.codeIn K cd16 "_law_product" = true)
    (k16 : PySem.W.keepIn K (.ref f16) = true)
    (a17 : PySem.W.nsIn K mainGlobals "_law_value" = some (some (.ref f17)))
    (l17 : K.lookup f17 = some ⟨oc17, od17, .func (PySem.W.fnOf "_law_value" "_law_value" (defArgs sValue) (defBody sValue) (defScope sValue) .none kV17 dc17 pm17 an17 cd17 ct17), sl17⟩)
    (c17 : PySem.W.codeIn K cd17 "_law_value" = true)
    (k17 : PySem.W.keepIn K (.ref f17) = true)
    (a18 : PySem.W.nsIn K mainGlobals "_law_text" = some (some (.ref f18)))
    (l18 : K.lookup f18 = some ⟨oc18, od18, .func (PySem.W.fnOf "_law_text" "_law_text" (defArgs sText) (defBody sText) (defScope sText) .none kV18 dc18 pm18 an18 cd18 ct18), sl18⟩)
    (c18 : PySem.W.codeIn K cd18 "_law_text" = true)
    (k18 : PySem.W.keepIn K (.ref f18) = true)
    (a19 : PySem.W.nsIn K mainGlobals "_law_is" = some (some (.ref f19)))
    (l19 : K.lookup f19 = some ⟨oc19, od19, .func (PySem.W.fnOf "_law_is" "_law_is" (defArgs sIs) (defBody sIs) (defScope sIs) .none kV19 dc19 pm19 an19 cd19 ct19), sl19⟩)
    (c19 : PySem.W.codeIn K cd19 "_law_is" = true)
    (k19 : PySem.W.keepIn K (.ref f19) = true)
    (a20 : PySem.W.nsIn K mainGlobals "_law_made" = some (some (.ref f20)))
    (l20 : K.lookup f20 = some ⟨oc20, od20, .func (PySem.W.fnOf "_law_made" "_law_made" (defArgs sMade) (defBody sMade) (defScope sMade) .none kV20 dc20 pm20 an20 cd20 ct20), sl20⟩)
    (c20 : PySem.W.codeIn K cd20 "_law_made" = true)
    (k20 : PySem.W.keepIn K (.ref f20) = true)
    (a21 : PySem.W.nsIn K mainGlobals "_law_refused" = some (some (.ref f21)))
    (l21 : K.lookup f21 = some ⟨oc21, od21, .func (PySem.W.fnOf "_law_refused" "_law_refused" (defArgs sRefused) (defBody sRefused) (defScope sRefused) .none kV21 dc21 pm21 an21 cd21 ct21), sl21⟩)
    (c21 : PySem.W.codeIn K cd21 "_law_refused" = true)
    (k21 : PySem.W.keepIn K (.ref f21) = true)
    (a22 : PySem.W.nsIn K mainGlobals "_law_refusals_right" = some (some (.ref f22)))
    (l22 : K.lookup f22 = some ⟨oc22, od22, .func (PySem.W.fnOf "_law_refusals_right" "_law_refusals_right" (defArgs sRefR) (defBody sRefR) (defScope sRefR) .none kV22 dc22 pm22 an22 (.ref co) ct22), sl22⟩)
    (c22 : PySem.W.codeIn K (.ref co) "_law_refusals_right" = true)
    (k22 : PySem.W.keepIn K (.ref f22) = true)
    (lco : K.lookup co = some ⟨ok1, ok2, .fields ovs, ok3⟩)
    (hco : (ovs[11]? : Option Value) = some (.ref Pt))
    (nPt : K.lookup Pt = none)
    (a23 : PySem.W.nsIn K mainGlobals "_law_values_right" = some (some (.ref f23)))
    (l23 : K.lookup f23 = some ⟨oc23, od23, .func (PySem.W.fnOf "_law_values_right" "_law_values_right" (defArgs sValR) (defBody sValR) (defScope sValR) .none kV23 dc23 pm23 an23 cd23 ct23), sl23⟩)
    (c23 : PySem.W.codeIn K cd23 "_law_values_right" = true)
    (k23 : PySem.W.keepIn K (.ref f23) = true)
    (a24 : PySem.W.nsIn K mainGlobals "_law_right" = some (some (.ref f24)))
    (l24 : K.lookup f24 = some ⟨oc24, od24, .func (PySem.W.fnOf "_law_right" "_law_right" (defArgs sRight) (defBody sRight) (defScope sRight) .none kV24 dc24 pm24 an24 cd24 ct24), sl24⟩)
    (c24 : PySem.W.codeIn K cd24 "_law_right" = true)
    (k24 : PySem.W.keepIn K (.ref f24) = true)
    (a25 : PySem.W.nsIn K mainGlobals "law" = some (some (.ref f25)))
    (l25 : K.lookup f25 = some ⟨oc25, od25, .func (PySem.W.fnOf "law" "law" (defArgs sLaw) (defBody sLaw) (defScope sLaw) .none kV25 dc25 pm25 an25 cd25 ct25), sl25⟩)
    (c25 : PySem.W.codeIn K cd25 "law" = true)
    (k25 : PySem.W.keepIn K (.ref f25) = true)
    (aR : PySem.W.nsIn K mainGlobals "Ratio" = some (some (.ref R)))
    (aC : PySem.W.nsIn K mainGlobals "Polynomial" = some (some (.ref C)))
    (am0 : PySem.W.findIn K (.ref C) "coefficients" = some (some (.ref fm0)))
    (im0 : PySem.W.isFn K (.ref fm0) = true)
    (lm0 : K.lookup fm0 = some ⟨ocm0, odm0, .func (PySem.W.fnOf "coefficients" "Polynomial.coefficients" (defArgs sPCoef) (defBody sPCoef) (defScope sPCoef) .none kVm0 dcm0 pmm0 anm0 cdm0 ctm0), slm0⟩)
    (cm0 : PySem.W.codeIn K cdm0 "Polynomial.coefficients" = true)
    (km0 : PySem.W.keepIn K (.ref fm0) = true)
    (am1 : PySem.W.findIn K (.ref C) "at" = some (some (.ref fm1)))
    (im1 : PySem.W.isFn K (.ref fm1) = true)
    (lm1 : K.lookup fm1 = some ⟨ocm1, odm1, .func (PySem.W.fnOf "at" "Polynomial.at" (defArgs sPAt) (defBody sPAt) (defScope sPAt) .none kVm1 dcm1 pmm1 anm1 cdm1 ctm1), slm1⟩)
    (cm1 : PySem.W.codeIn K cdm1 "Polynomial.at" = true)
    (km1 : PySem.W.keepIn K (.ref fm1) = true)
    (am2 : PySem.W.findIn K (.ref C) "__add__" = some (some (.ref fm2)))
    (im2 : PySem.W.isFn K (.ref fm2) = true)
    (lm2 : K.lookup fm2 = some ⟨ocm2, odm2, .func (PySem.W.fnOf "__add__" "Polynomial.__add__" (defArgs sPAdd) (defBody sPAdd) (defScope sPAdd) .none kVm2 dcm2 pmm2 anm2 cdm2 ctm2), slm2⟩)
    (cm2 : PySem.W.codeIn K cdm2 "Polynomial.__add__" = true)
    (km2 : PySem.W.keepIn K (.ref fm2) = true)
    (am3 : PySem.W.findIn K (.ref C) "__sub__" = some (some (.ref fm3)))
    (im3 : PySem.W.isFn K (.ref fm3) = true)
    (lm3 : K.lookup fm3 = some ⟨ocm3, odm3, .func (PySem.W.fnOf "__sub__" "Polynomial.__sub__" (defArgs sPSub) (defBody sPSub) (defScope sPSub) .none kVm3 dcm3 pmm3 anm3 cdm3 ctm3), slm3⟩)
    (cm3 : PySem.W.codeIn K cdm3 "Polynomial.__sub__" = true)
    (km3 : PySem.W.keepIn K (.ref fm3) = true)
    (am4 : PySem.W.findIn K (.ref C) "__mul__" = some (some (.ref fm4)))
    (im4 : PySem.W.isFn K (.ref fm4) = true)
    (lm4 : K.lookup fm4 = some ⟨ocm4, odm4, .func (PySem.W.fnOf "__mul__" "Polynomial.__mul__" (defArgs sPMul) (defBody sPMul) (defScope sPMul) .none kVm4 dcm4 pmm4 anm4 cdm4 ctm4), slm4⟩)
    (cm4 : PySem.W.codeIn K cdm4 "Polynomial.__mul__" = true)
    (km4 : PySem.W.keepIn K (.ref fm4) = true)
    (am5 : PySem.W.findIn K (.ref C) "__neg__" = some (some (.ref fm5)))
    (im5 : PySem.W.isFn K (.ref fm5) = true)
    (lm5 : K.lookup fm5 = some ⟨ocm5, odm5, .func (PySem.W.fnOf "__neg__" "Polynomial.__neg__" (defArgs sPNeg) (defBody sPNeg) (defScope sPNeg) .none kVm5 dcm5 pmm5 anm5 cdm5 ctm5), slm5⟩)
    (cm5 : PySem.W.codeIn K cdm5 "Polynomial.__neg__" = true)
    (km5 : PySem.W.keepIn K (.ref fm5) = true)
    (am6 : PySem.W.findIn K (.ref C) "__eq__" = some (some (.ref fm6)))
    (im6 : PySem.W.isFn K (.ref fm6) = true)
    (lm6 : K.lookup fm6 = some ⟨ocm6, odm6, .func (PySem.W.fnOf "__eq__" "Polynomial.__eq__" (defArgs sPEq) (defBody sPEq) (defScope sPEq) .none kVm6 dcm6 pmm6 anm6 cdm6 ctm6), slm6⟩)
    (cm6 : PySem.W.codeIn K cdm6 "Polynomial.__eq__" = true)
    (km6 : PySem.W.keepIn K (.ref fm6) = true)
    (am7 : PySem.W.findIn K (.ref C) "__str__" = some (some (.ref fm7)))
    (im7 : PySem.W.isFn K (.ref fm7) = true)
    (lm7 : K.lookup fm7 = some ⟨ocm7, odm7, .func (PySem.W.fnOf "__str__" "Polynomial.__str__" (defArgs sPStr) (defBody sPStr) (defScope sPStr) .none kVm7 dcm7 pmm7 anm7 cdm7 ctm7), slm7⟩)
    (cm7 : PySem.W.codeIn K cdm7 "Polynomial.__str__" = true)
    (km7 : PySem.W.keepIn K (.ref fm7) = true)
    (am8 : PySem.W.findIn K (.ref C) "__repr__" = some (some (.ref fm8)))
    (im8 : PySem.W.isFn K (.ref fm8) = true)
    (lm8 : K.lookup fm8 = some ⟨ocm8, odm8, .func (PySem.W.fnOf "__repr__" "Polynomial.__repr__" (defArgs sPRepr) (defBody sPRepr) (defScope sPRepr) .none kVm8 dcm8 pmm8 anm8 cdm8 ctm8), slm8⟩)
    (cm8 : PySem.W.codeIn K cdm8 "Polynomial.__repr__" = true)
    (km8 : PySem.W.keepIn K (.ref fm8) = true)
    (ap0 : PySem.W.findIn K (.ref C) "degree" = some (some (.ref qp0)))
    (gp0 : PySem.W.specialIn K (.ref qp0) "__get__" = some (some (.builtin "property.__get__")))
    (tp0 : PySem.W.takesIn K (.ref qp0) = some true)
    (r_p0 : PySem.W.recIn K qp0 "property" = some (.ref fp0 :: rp0))
    (lp0 : K.lookup fp0 = some ⟨ocp0, odp0, .func (PySem.W.fnOf "degree" "Polynomial.degree" (defArgs sPDeg) (defBody sPDeg) (defScope sPDeg) .none kVp0 dcp0 pmp0 anp0 cdp0 ctp0), slp0⟩)
    (cp0 : PySem.W.codeIn K cdp0 "Polynomial.degree" = true)
    (kp0 : PySem.W.keepIn K (.ref fp0) = true)
    (ainC : PySem.W.findIn K (.ref C) "__init__" = some (some (.ref finC)))
    (iinC : PySem.W.isFn K (.ref finC) = true)
    (linC : K.lookup finC = some ⟨ocinC, odinC, .func (PySem.W.fnOf "__init__" "Polynomial.__init__" (defArgs sPInit) (defBody sPInit) (defScope sPInit) .none kVinC dcinC pminC aninC cdinC ctinC), slinC⟩)
    (cinC : PySem.W.codeIn K cdinC "Polynomial.__init__" = true)
    (kinC : PySem.W.keepIn K (.ref finC) = true)
    (arp : PySem.W.findIn K (.ref R) "__repr__" = some (some (.ref frp)))
    (irp : PySem.W.isFn K (.ref frp) = true)
    (lrp : K.lookup frp = some ⟨ocrp, odrp, .func (PySem.W.fnOf "__repr__" "Ratio.__repr__" (defArgs sRRepr) (defBody sRRepr) (defScope sRRepr) .none kVrp dcrp pmrp anrp cdrp ctrp), slrp⟩)
    (crp : PySem.W.codeIn K cdrp "Ratio.__repr__" = true)
    (krp : PySem.W.keepIn K (.ref frp) = true)
    (ainR : PySem.W.findIn K (.ref R) "__init__" = some (some (.ref finR)))
    (iinR : PySem.W.isFn K (.ref finR) = true)
    (linR : K.lookup finR = some ⟨ocinR, odinR, .func (PySem.W.fnOf "__init__" "Ratio.__init__" (defArgs sRInit) (defBody sRInit) (defScope sRInit) (.ref TD) kVinR dcinR pminR aninR cdinR ctinR), slinR⟩)
    (cinR : PySem.W.codeIn K cdinR "Ratio.__init__" = true)
    (kinR : PySem.W.keepIn K (.ref finR) = true)
    (ltd : K.lookup TD = some ⟨tdc, tdd, .seq #[Value.int 1 tdt] tdn, tds⟩)
    (oadd : PySem.W.findIn K (.ref R) "__add__" = some (some (.ref radd)))
    (nRadd : PySem.W.findIn K (.ref R) "__radd__" = some none)
    (nCadd : PySem.W.findIn K (.ref C) "__radd__" = some none)
    (osub : PySem.W.findIn K (.ref R) "__sub__" = some (some (.ref rsub)))
    (nRsub : PySem.W.findIn K (.ref R) "__rsub__" = some none)
    (nCsub : PySem.W.findIn K (.ref C) "__rsub__" = some none)
    (omul : PySem.W.findIn K (.ref R) "__mul__" = some (some (.ref rmul)))
    (nRmul : PySem.W.findIn K (.ref R) "__rmul__" = some none)
    (nCmul : PySem.W.findIn K (.ref C) "__rmul__" = some none)
    (nne : PySem.W.findIn K (.ref C) "__ne__" = some (some (.builtin "object.__ne__")))
    (gt : PySem.W.specialIn K (.builtin "object.__class__") "__get__" = some (some (.builtin "getset_descriptor.__get__")))
    (tk : PySem.W.takesIn K (.builtin "object.__class__") = some true)
    (pgR : PySem.W.plainGet K R Str.empty = true)
    (hdR : PySem.W.hasDictIn K R = true)
    (poR : PySem.W.plainOver K R = true)
    (saR : PySem.W.findIn K (.ref R) "__setattr__" = some (some (.builtin "object.__setattr__")))
    (mkR : PySem.W.makesIn K R = true)
    (kcR : PySem.W.keepIn K (.ref R) = true)
    (icR : PySem.W.findIn K (.ref R) "__class__" = some (some (.builtin "object.__class__")))
    (moR : PySem.W.mroIn K R (.type "object") = some true)
    (sfR : PySem.W.selfFirst K R = true)
    (jcR : PySem.W.isClsIn K R = true)
    (tcR : PySem.W.typeIn K (.ref R) = some (.type "type"))
    (nT : PySem.W.findIn K (.ref R) "own_top" = some none)
    (nB : PySem.W.findIn K (.ref R) "own_bottom" = some none)
    (suintR : PySem.W.subIn K (.type "int") (.ref R) = some false)
    (sustrR : PySem.W.subIn K (.type "str") (.ref R) = some false)
    (suNoneTypeR : PySem.W.subIn K (.type "NoneType") (.ref R) = some false)
    (suboolR : PySem.W.subIn K (.type "bool") (.ref R) = some false)
    (sulistR : PySem.W.subIn K (.type "list") (.ref R) = some false)
    (sutupleR : PySem.W.subIn K (.type "tuple") (.ref R) = some false)
    (sudictR : PySem.W.subIn K (.type "dict") (.ref R) = some false)
    (pgC : PySem.W.plainGet K C Str.empty = true)
    (hdC : PySem.W.hasDictIn K C = true)
    (poC : PySem.W.plainOver K C = true)
    (saC : PySem.W.findIn K (.ref C) "__setattr__" = some (some (.builtin "object.__setattr__")))
    (mkC : PySem.W.makesIn K C = true)
    (kcC : PySem.W.keepIn K (.ref C) = true)
    (icC : PySem.W.findIn K (.ref C) "__class__" = some (some (.builtin "object.__class__")))
    (moC : PySem.W.mroIn K C (.type "object") = some true)
    (sfC : PySem.W.selfFirst K C = true)
    (jcC : PySem.W.isClsIn K C = true)
    (tcC : PySem.W.typeIn K (.ref C) = some (.type "type"))
    (nR : PySem.W.findIn K (.ref C) "own_row" = some none)
    (suintC : PySem.W.subIn K (.type "int") (.ref C) = some false)
    (sustrC : PySem.W.subIn K (.type "str") (.ref C) = some false)
    (suNoneTypeC : PySem.W.subIn K (.type "NoneType") (.ref C) = some false)
    (suboolC : PySem.W.subIn K (.type "bool") (.ref C) = some false)
    (sulistC : PySem.W.subIn K (.type "list") (.ref C) = some false)
    (sutupleC : PySem.W.subIn K (.type "tuple") (.ref C) = some false)
    (sudictC : PySem.W.subIn K (.type "dict") (.ref C) = some false)
    (sRi : PySem.W.subIn K (.ref R) (.type "int") = some false)
    (sRC : PySem.W.subIn K (.ref R) (.ref C) = some false)
    (sCC : PySem.W.subIn K (.ref C) (.ref C) = some true)
    (aI : PySem.W.nsIn K mainGlobals "InvalidNumber" = some (some (.ref DI)))
    (xI : K.lookup DI = some (excClassObj zinm ziq DI ziN zibs [.ref S2, .type "ValueError", .type "Exception", .type "BaseException", .type "object"] true zisn zisub ziab zicol zidd zi0 zi1 zi2 zi3 zi5 "ValueError.__new__"))
    (saI : PySem.W.findIn K (.ref DI) "__setattr__" = some (some (.builtin "object.__setattr__")))
    (eI : PySem.W.subIn K (.ref DI) (.type "BaseException") = some true)
    (tI : PySem.W.typeIn K (.ref DI) = some (.type "type"))
    (kI : PySem.W.keepIn K (.ref DI) = true)
    (jI : PySem.W.isClsIn K DI = true)
    (ssI : PySem.W.subIn K (.ref DI) (.ref DI) = some true)
    (svI : PySem.W.subIn K (.ref DI) (.type "ValueError") = some true)
    (adI : PySem.W.findIn K (.ref DI) "__init__" = some (some (.ref feI)))
    (tdI : PySem.W.typeIn K (.ref feI) = some (.type "function"))
    (ldI : K.lookup feI = some ⟨ocEI, odEI, .func (fnC "__init__" "InvalidNumber.__init__" (defArgs sINInit) (defBody sINInit) (defScope sINInit) .none kVEI dcEI pmEI anEI (.ref ceI) ctEI celI), slEI⟩)
    (cdEI : PySem.W.codeIn K (.ref ceI) "InvalidNumber.__init__" = true)
    (lcelI : K.lookup celI = some ⟨.type "cell", celdI, .cell (some (.ref DI)), celsI⟩)
    (lceI : K.lookup ceI = some ⟨ck1I, ck2I, .fields vsI, ck3I⟩)
    (hvsI : vsI[2]? = some (.str fileI tfI))
    (hfileI : ((l.prog.main.file : Str) == fileI) = true)
    (supI : PySem.W.ks_superIn K DI DI "__init__" = some (some (.builtin "ValueError.__init__")))
    (noI : PySem.W.findIn K (.ref DI) "value" = some none)
    (gaI : PySem.W.findIn K (.ref DI) "__getattribute__" = some (some (.builtin "BaseException.__getattribute__")))
    (ggI : PySem.W.findIn K (.ref DI) "__getattr__" = some none)
    (hdEI : PySem.W.hasDictIn K DI = true)
    (clEI : PySem.W.findIn K (.ref DI) "__class__" = some (some (.builtin "object.__class__")))
    (moEI : PySem.W.mroIn K DI (.type "object") = some true)
    (sSI : PySem.W.subIn K (.ref DI) (.ref S2) = some true)
    (aJ : PySem.W.nsIn K mainGlobals "InvalidPolynomial" = some (some (.ref DJ)))
    (xJ : K.lookup DJ = some (excClassObj zjnm zjq DJ zjN zjbs [.ref S2, .type "ValueError", .type "Exception", .type "BaseException", .type "object"] true zjsn zjsub zjab zjcol zjdd zj0 zj1 zj2 zj3 zj5 "ValueError.__new__"))
    (saJ : PySem.W.findIn K (.ref DJ) "__setattr__" = some (some (.builtin "object.__setattr__")))
    (eJ : PySem.W.subIn K (.ref DJ) (.type "BaseException") = some true)
    (tJ : PySem.W.typeIn K (.ref DJ) = some (.type "type"))
    (kJ : PySem.W.keepIn K (.ref DJ) = true)
    (jJ : PySem.W.isClsIn K DJ = true)
    (ssJ : PySem.W.subIn K (.ref DJ) (.ref DJ) = some true)
    (svJ : PySem.W.subIn K (.ref DJ) (.type "ValueError") = some true)
    (adJ : PySem.W.findIn K (.ref DJ) "__init__" = some (some (.ref feJ)))
    (tdJ : PySem.W.typeIn K (.ref feJ) = some (.type "function"))
    (ldJ : K.lookup feJ = some ⟨ocEJ, odEJ, .func (fnC "__init__" "InvalidPolynomial.__init__" (defArgs sIPInit) (defBody sIPInit) (defScope sIPInit) .none kVEJ dcEJ pmEJ anEJ (.ref ceJ) ctEJ celJ), slEJ⟩)
    (cdEJ : PySem.W.codeIn K (.ref ceJ) "InvalidPolynomial.__init__" = true)
    (lcelJ : K.lookup celJ = some ⟨.type "cell", celdJ, .cell (some (.ref DJ)), celsJ⟩)
    (lceJ : K.lookup ceJ = some ⟨ck1J, ck2J, .fields vsJ, ck3J⟩)
    (hvsJ : vsJ[2]? = some (.str fileJ tfJ))
    (hfileJ : ((l.prog.main.file : Str) == fileJ) = true)
    (supJ : PySem.W.ks_superIn K DJ DJ "__init__" = some (some (.builtin "ValueError.__init__")))
    (noJ : PySem.W.findIn K (.ref DJ) "value" = some none)
    (gaJ : PySem.W.findIn K (.ref DJ) "__getattribute__" = some (some (.builtin "BaseException.__getattribute__")))
    (ggJ : PySem.W.findIn K (.ref DJ) "__getattr__" = some none)
    (hdEJ : PySem.W.hasDictIn K DJ = true)
    (clEJ : PySem.W.findIn K (.ref DJ) "__class__" = some (some (.builtin "object.__class__")))
    (moEJ : PySem.W.mroIn K DJ (.type "object") = some true)
    (sSJ : PySem.W.subIn K (.ref DJ) (.ref S2) = some true)
    (sJI : PySem.W.subIn K (.ref DJ) (.ref DI) = some false)
    (aS2 : PySem.W.nsIn K mainGlobals "SlotsumsError" = some (some (.ref S2)))
    (jS2 : PySem.W.isClsIn K S2 = true)
    (tS2 : PySem.W.typeIn K (.ref S2) = some (.type "type"))
    (htop : (l.prog.main.scope.names.lookup ("super" : Str)).isSome = false)
    (z_super : PySem.W.nsIn K mainGlobals "super" = some none)
    (opn : PySem.W.nsIn K cStatics "thirdparty.any" = some none)
    (z_isinstance : PySem.W.nsIn K mainGlobals "isinstance" = some none)
    (z_int : PySem.W.nsIn K mainGlobals "int" = some none)
    (z_bool : PySem.W.nsIn K mainGlobals "bool" = some none)
    (z_str : PySem.W.nsIn K mainGlobals "str" = some none)
    (z_len : PySem.W.nsIn K mainGlobals "len" = some none)
    (z_list : PySem.W.nsIn K mainGlobals "list" = some none)
    (z_max : PySem.W.nsIn K mainGlobals "max" = some none)
    (z_min : PySem.W.nsIn K mainGlobals "min" = some none)
    (z_sum : PySem.W.nsIn K mainGlobals "sum" = some none)
    (z_zip : PySem.W.nsIn K mainGlobals "zip" = some none)
    (z_range : PySem.W.nsIn K mainGlobals "range" = some none)
    (z_tuple : PySem.W.nsIn K mainGlobals "tuple" = some none)
    (z_enumerate : PySem.W.nsIn K mainGlobals "enumerate" = some none)
    (z_all : PySem.W.nsIn K mainGlobals "all" = some none)
    (z_any : PySem.W.nsIn K mainGlobals "any" = some none)
    (z_abs : PySem.W.nsIn K mainGlobals "abs" = some none)
    (z_divmod : PySem.W.nsIn K mainGlobals "divmod" = some none)
    (z_repr : PySem.W.nsIn K mainGlobals "repr" = some none)
    : LawT l w K CX0 16 63 "_law_script" mg fa h := by
  have e := hfa.symm.trans (PySem.W.mg_of X G a25)
  cases e
  have T : Bn mg := ⟨PySem.W.mg_none_of X G z_isinstance, PySem.W.mg_none_of X G z_int, PySem.W.mg_none_of X G z_bool, PySem.W.mg_none_of X G z_str, PySem.W.mg_none_of X G z_len, PySem.W.mg_none_of X G z_list, PySem.W.mg_none_of X G z_max, PySem.W.mg_none_of X G z_min, PySem.W.mg_none_of X G z_sum, PySem.W.mg_none_of X G z_zip, PySem.W.mg_none_of X G z_range, PySem.W.mg_none_of X G z_tuple, PySem.W.mg_none_of X G z_enumerate, PySem.W.mg_none_of X G z_all, PySem.W.mg_none_of X G z_any, PySem.W.mg_none_of X G z_abs, PySem.W.mg_none_of X G z_divmod, PySem.W.mg_none_of X G z_repr⟩
  have F0 := fun_mk (x := "is_integer") (qual := "is_integer") (st := sIsInt) l0 c0 k0
  have b0 := F0.binds (ps := ["value"]) fun _ _ _ _ _ _ us hl => match us, hl with | [_], _ => rfl
  have g0 := PySem.W.mg_of X G a0
  have F1 := fun_mk (x := "common_divisor") (qual := "common_divisor") (st := sGcd) l1 c1 k1
  have b1 := F1.binds (ps := ["one", "other"]) fun _ _ _ _ _ _ us hl => match us, hl with | [_, _], _ => rfl
  have g1 := PySem.W.mg_of X G a1
  have F2 := fun_mk (x := "added_rows") (qual := "added_rows") (st := sAdded) l2 c2 k2
  have b2 := F2.binds (ps := ["one", "other"]) fun _ _ _ _ _ _ us hl => match us, hl with | [_, _], _ => rfl
  have g2 := PySem.W.mg_of X G a2
  have F3 := fun_mk (x := "multiplied_rows") (qual := "multiplied_rows") (st := sMult) l3 c3 k3
  have b3 := F3.binds (ps := ["one", "other"]) fun _ _ _ _ _ _ us hl => match us, hl with | [_, _], _ => rfl
  have g3 := PySem.W.mg_of X G a3
  have F4 := fun_mk (x := "opposite_row") (qual := "opposite_row") (st := sOpp) l4 c4 k4
  have b4 := F4.binds (ps := ["row"]) fun _ _ _ _ _ _ us hl => match us, hl with | [_], _ => rfl
  have g4 := PySem.W.mg_of X G a4
  have F5 := fun_mk (x := "power_text") (qual := "power_text") (st := sPowT) l5 c5 k5
  have b5 := F5.binds (ps := ["exponent"]) fun _ _ _ _ _ _ us hl => match us, hl with | [_], _ => rfl
  have g5 := PySem.W.mg_of X G a5
  have F6 := fun_mk (x := "piece_text") (qual := "piece_text") (st := sPieceT) l6 c6 k6
  have b6 := F6.binds (ps := ["size", "exponent"]) fun _ _ _ _ _ _ us hl => match us, hl with | [_, _], _ => rfl
  have g6 := PySem.W.mg_of X G a6
  have F7 := fun_mk (x := "text_pieces") (qual := "text_pieces") (st := sPieces) l7 c7 k7
  have b7 := F7.binds (ps := ["row"]) fun _ _ _ _ _ _ us hl => match us, hl with | [_], _ => rfl
  have g7 := PySem.W.mg_of X G a7
  have F8 := fun_mk (x := "row_of") (qual := "row_of") (st := sRowOf) l8 c8 k8
  have b8 := F8.binds (ps := ["value"]) fun _ _ _ _ _ _ us hl => match us, hl with | [_], _ => rfl
  have g8 := PySem.W.mg_of X G a8
  have F9 := fun_mk (x := "_law_rng") (qual := "_law_rng") (st := sRng) l9 c9 k9
  have b9 := F9.binds (ps := ["_law_script", "_law_k"]) fun _ _ _ _ _ _ us hl => match us, hl with | [_, _], _ => rfl
  have g9 := PySem.W.mg_of X G a9
  have F10 := fun_mk (x := "_law_draw") (qual := "_law_draw") (st := sDraw) l10 c10 k10
  have b10 := F10.binds (ps := ["_law_rng_here", "_law_many"]) fun _ _ _ _ _ _ us hl => match us, hl with | [_, _], _ => rfl
  have g10 := PySem.W.mg_of X G a10
  have F11 := fun_mk (x := "_law_choice") (qual := "_law_choice") (st := sChoice) l11 c11 k11
  have b11 := F11.binds (ps := ["_law_rng_here", "_law_some"]) fun _ _ _ _ _ _ us hl => match us, hl with | [_, _], _ => rfl
  have g11 := PySem.W.mg_of X G a11
  have F12 := fun_mk (x := "_law_coefficient") (qual := "_law_coefficient") (st := sCoeff) l12 c12 k12
  have b12 := F12.binds (ps := ["_law_rng_here"]) fun _ _ _ _ _ _ us hl => match us, hl with | [_], _ => rfl
  have g12 := PySem.W.mg_of X G a12
  have F13 := fun_mk (x := "_law_row") (qual := "_law_row") (st := sRow) l13 c13 k13
  have b13 := F13.binds (ps := ["_law_rng_here"]) fun _ _ _ _ _ _ us hl => match us, hl with | [_], _ => rfl
  have g13 := PySem.W.mg_of X G a13
  have F14 := fun_mk (x := "_law_plain") (qual := "_law_plain") (st := sPlain) l14 c14 k14
  have b14 := F14.binds (ps := ["_law_row_here"]) fun _ _ _ _ _ _ us hl => match us, hl with | [_], _ => rfl
  have g14 := PySem.W.mg_of X G a14
  have F15 := fun_mk (x := "_law_sum") (qual := "_law_sum") (st := sSum) l15 c15 k15
  have b15 := F15.binds (ps := ["_law_one", "_law_two", "_law_by"]) fun _ _ _ _ _ _ us hl => match us, hl with | [_, _, _], _ => rfl
  have g15 := PySem.W.mg_of X G a15
  have F16 := fun_mk (x := "_law_product") (qual := "_law_product") (st := sProd) l16 c16 k16
  have b16 := F16.binds (ps := ["_law_one", "_law_two"]) fun _ _ _ _ _ _ us hl => match us, hl with | [_, _], _ => rfl
  have g16 := PySem.W.mg_of X G a16
  have F17 := fun_mk (x := "_law_value") (qual := "_law_value") (st := sValue) l17 c17 k17
  have b17 := F17.binds (ps := ["_law_row_here", "_law_place"]) fun _ _ _ _ _ _ us hl => match us, hl with | [_, _], _ => rfl
  have g17 := PySem.W.mg_of X G a17
  have F18 := fun_mk (x := "_law_text") (qual := "_law_text") (st := sText) l18 c18 k18
  have b18 := F18.binds (ps := ["_law_row_here"]) fun _ _ _ _ _ _ us hl => match us, hl with | [_], _ => rfl
  have g18 := PySem.W.mg_of X G a18
  have F19 := fun_mk (x := "_law_is") (qual := "_law_is") (st := sIs) l19 c19 k19
  have b19 := F19.binds (ps := ["_law_made_here", "_law_row_here"]) fun _ _ _ _ _ _ us hl => match us, hl with | [_, _], _ => rfl
  have g19 := PySem.W.mg_of X G a19
  have F20 := fun_mk (x := "_law_made") (qual := "_law_made") (st := sMade) l20 c20 k20
  have b20 := F20.binds (ps := ["_law_row_here"]) fun _ _ _ _ _ _ us hl => match us, hl with | [_], _ => rfl
  have g20 := PySem.W.mg_of X G a20
  have F21 := fun_mk (x := "_law_refused") (qual := "_law_refused") (st := sRefused) l21 c21 k21
  have b21 := F21.binds (ps := ["_law_call"]) fun _ _ _ _ _ _ us hl => match us, hl with | [_], _ => rfl
  have g21 := PySem.W.mg_of X G a21
  have F22 := fun_mk (x := "_law_refusals_right") (qual := "_law_refusals_right") (st := sRefR) l22 c22 k22
  have b22 := F22.binds (ps := ["_law_rng_here", "_law_made_here"]) fun _ _ _ _ _ _ us hl => match us, hl with | [_, _], _ => rfl
  have g22 := PySem.W.mg_of X G a22
  have F23 := fun_mk (x := "_law_values_right") (qual := "_law_values_right") (st := sValR) l23 c23 k23
  have b23 := F23.binds (ps := ["_law_rng_here", "_law_made_here", "_law_row_here"]) fun _ _ _ _ _ _ us hl => match us, hl with | [_, _, _], _ => rfl
  have g23 := PySem.W.mg_of X G a23
  have F24 := fun_mk (x := "_law_right") (qual := "_law_right") (st := sRight) l24 c24 k24
  have b24 := F24.binds (ps := ["_law_rng_here"]) fun _ _ _ _ _ _ us hl => match us, hl with | [_], _ => rfl
  have g24 := PySem.W.mg_of X G a24
  have F25 := fun_mk (x := "law") (qual := "law") (st := sLaw) l25 c25 k25
  have b25 := F25.binds (ps := ["_law_script"]) fun _ _ _ _ _ _ us hl => match us, hl with | [_], _ => rfl
  have g25 := PySem.W.mg_of X G a25
  have Fm0 := fun_mk (x := "coefficients") (qual := "Polynomial.coefficients") (st := sPCoef) lm0 cm0 km0
  have bm0 := Fm0.binds (ps := ["self"]) fun _ _ _ _ _ _ us hl => match us, hl with | [_], _ => rfl
  have Fm1 := fun_mk (x := "at") (qual := "Polynomial.at") (st := sPAt) lm1 cm1 km1
  have bm1 := Fm1.binds (ps := ["self", "d"]) fun _ _ _ _ _ _ us hl => match us, hl with | [_, _], _ => rfl
  have Fm2 := fun_mk (x := "__add__") (qual := "Polynomial.__add__") (st := sPAdd) lm2 cm2 km2
  have bm2 := Fm2.binds (ps := ["self", "other"]) fun _ _ _ _ _ _ us hl => match us, hl with | [_, _], _ => rfl
  have Fm3 := fun_mk (x := "__sub__") (qual := "Polynomial.__sub__") (st := sPSub) lm3 cm3 km3
  have bm3 := Fm3.binds (ps := ["self", "other"]) fun _ _ _ _ _ _ us hl => match us, hl with | [_, _], _ => rfl
  have Fm4 := fun_mk (x := "__mul__") (qual := "Polynomial.__mul__") (st := sPMul) lm4 cm4 km4
  have bm4 := Fm4.binds (ps := ["self", "other"]) fun _ _ _ _ _ _ us hl => match us, hl with | [_, _], _ => rfl
  have Fm5 := fun_mk (x := "__neg__") (qual := "Polynomial.__neg__") (st := sPNeg) lm5 cm5 km5
  have bm5 := Fm5.binds (ps := ["self"]) fun _ _ _ _ _ _ us hl => match us, hl with | [_], _ => rfl
  have Fm6 := fun_mk (x := "__eq__") (qual := "Polynomial.__eq__") (st := sPEq) lm6 cm6 km6
  have bm6 := Fm6.binds (ps := ["self", "other"]) fun _ _ _ _ _ _ us hl => match us, hl with | [_, _], _ => rfl
  have Fm7 := fun_mk (x := "__str__") (qual := "Polynomial.__str__") (st := sPStr) lm7 cm7 km7
  have bm7 := Fm7.binds (ps := ["self"]) fun _ _ _ _ _ _ us hl => match us, hl with | [_], _ => rfl
  have Fm8 := fun_mk (x := "__repr__") (qual := "Polynomial.__repr__") (st := sPRepr) lm8 cm8 km8
  have bm8 := Fm8.binds (ps := ["self"]) fun _ _ _ _ _ _ us hl => match us, hl with | [_], _ => rfl
  have Fp0 := fun_mk (x := "degree") (qual := "Polynomial.degree") (st := sPDeg) lp0 cp0 kp0
  have bp0 := Fp0.binds (ps := ["self"]) fun _ _ _ _ _ _ us hl => match us, hl with | [_], _ => rfl
  have FinC := fun_mk (x := "__init__") (qual := "Polynomial.__init__") (st := sPInit) linC cinC kinC
  have Frp := fun_mk (x := "__repr__") (qual := "Ratio.__repr__") (st := sRRepr) lrp crp krp
  have brp := Frp.binds (ps := ["self"]) fun _ _ _ _ _ _ us hl => match us, hl with | [_], _ => rfl
  have hti : PySem.W.tabIn K "_law_refusals_right" = some (co, Pt) := by
    unfold PySem.W.tabIn
    rw [a22]; dsimp only; rw [l22]; dsimp only; rw [lco]; dsimp only; rw [hco]
  obtain ⟨d', hd'⟩ := Option.isSome_iff_exists.mp hrec
  obtain ⟨hcode, htab⟩ := TT d' _ _ _ hd' hti
  refine ⟨PySem.W.fnOf "law" "law" (defArgs sLaw) (defBody sLaw) (defScope sLaw) .none kV25 dc25 pm25 an25 cd25 ct25, [(co, Pt)], spLaw K [(Pt, qL)], (fun p hp => by rw [List.mem_singleton.mp hp]; exact htab), (fun p hp => by rw [List.mem_singleton.mp hp]; exact nPt), (fun p hp => by rw [List.mem_singleton.mp hp]; exact hcode), fun s v => .of_eq rfl, (fun H a ns hl hH hS => ⟨a, ns, rfl, hS, hl, tabs0 (hH _ (List.mem_singleton.mpr rfl)), fun _ => rfl⟩), fun base _ _ hTB => ?_⟩
  have TB := hTB (co, Pt) (List.mem_singleton.mpr rfl)
  have M0 : Rc K mg R := ⟨⟨pgR, hdR, poR, saR⟩, nT, nB, PySem.W.mg_of X G aR, icR, gt, tk, moR, sfR, kit_rt (by kernel_rfl) sRi, kit_tr jcR tcR suintR, kit_tr jcR tcR sustrR, suintR, sustrR, ⟨⟨kit_tr jcR tcR suNoneTypeR, suNoneTypeR⟩, ⟨kit_tr jcR tcR suboolR, suboolR⟩, ⟨kit_tr jcR tcR sustrR, sustrR⟩, ⟨kit_tr jcR tcR sulistR, sulistR⟩, ⟨kit_tr jcR tcR sutupleR, sutupleR⟩, ⟨kit_tr jcR tcR sudictR, sudictR⟩⟩⟩
  have neRC : R ≠ C := fun z => by rw [z, sCC] at sRC; cases sRC
  have N : Pc K mg R C := ⟨⟨pgC, hdC, poC, saC⟩, nR, PySem.W.mg_of X G aC, icC, gt, tk, moC, sfC, kit_tr jcC tcC suintC, kit_no neRC jcC tcC sRC, suintC, sustrC, sRC, ⟨⟨kit_tr jcC tcC suNoneTypeC, suNoneTypeC⟩, ⟨kit_tr jcC tcC suboolC, suboolC⟩, ⟨kit_tr jcC tcC sustrC, sustrC⟩, ⟨kit_tr jcC tcC sulistC, sulistC⟩, ⟨kit_tr jcC tcC sutupleC, sutupleC⟩, ⟨kit_tr jcC tcC sudictC, sudictC⟩⟩⟩
  have D0 := df_of (P := l.prog) (w := w) (base := base) F0 g0 b0 (ok_isInt F0 T M0)
  have D1 := df_of (P := l.prog) (w := w) (base := base) F1 g1 b1 (ok_gcd F1)
  have M1 : RMk l.prog w K mg base R := rat_mk M0 ⟨mkR, ainR, iinR, kcR⟩ linR cinR kinR ltd T D0 D1
  have M : RRp l.prog w K mg base R := ⟨M1, ⟨frp, arp, irp, raw0 (ok_repr Frp M0) brp (by decide)⟩⟩
  have D2 := df_of (P := l.prog) (w := w) (base := base) F2 g2 b2 (ok_added F2 T)
  have D3 := df_of (P := l.prog) (w := w) (base := base) F3 g3 b3 (ok_mult F3 T)
  have D4 := df_of (P := l.prog) (w := w) (base := base) F4 g4 b4 (ok_opp F4 T)
  have PM : PMk l.prog w K mg base R C := ⟨N, finC, ⟨mkC, ainC, iinC, kcC⟩, ok_pinit FinC T N D0⟩
  have PL : PCl l.prog w K mg base R C := ⟨PM, ⟨fm0, _, ⟨am0, im0, km0⟩, bm0, ok_coef Fm0 N⟩, ⟨fm1, _, ⟨am1, im1, km1⟩, bm1, ok_at Fm1 T N D0⟩, ⟨qp0, fp0, _, ⟨ap0, gp0, tp0, ⟨_, r_p0⟩⟩, bp0, ok_deg Fp0 T N⟩⟩
  have D8 := df_of (P := l.prog) (w := w) (base := base) F8 g8 b8 (ok_rowOf F8 T PL)
  have PO : POp l.prog w K mg base R C := ⟨PL, ⟨fm4, am4, im4, raw0 (ok_mul Fm4 T PM D3 D8) bm4 (by decide)⟩, ⟨fm2, am2, im2, raw0 (ok_add Fm2 T PM D2 D8) bm2 (by decide)⟩, ⟨fm3, am3, im3, raw0 (ok_sub Fm3 T PM D2 D8 D4) bm3 (by decide)⟩, ⟨fm5, am5, im5, raw0 (ok_neg Fm5 T PM D4) bm5 (by decide)⟩⟩
  have D5 := df_of (P := l.prog) (w := w) (base := base) F5 g5 b5 (ok_pow F5)
  have D6 := df_of (P := l.prog) (w := w) (base := base) F6 g6 b6 (ok_piece F6 T D5)
  have D7 := df_of (P := l.prog) (w := w) (base := base) F7 g7 b7 (ok_pieces F7 T D6)
  have PA : PAll l.prog w K mg base R C := ⟨PO, ⟨fm6, am6, im6, raw0 (ok_peq Fm6 T N) bm6 (by decide), nne⟩, ⟨fm7, am7, im7, raw0 (ok_pstr Fm7 N D7) bm7 (by decide)⟩, ⟨fm8, am8, im8, raw0 (ok_prepr Fm8 T N) bm8 (by decide)⟩⟩
  have OEI : OexC K DI := ⟨⟨_, _, _, _, _, _, _, _, _, _, _, _, _, _, _, xI, by show PySem.HandSPX.refsVE veTail = true; decide +kernel⟩, saI, eI, tI, kI⟩
  have SII : SupK "ValueError" "ValueError.__new__" "ValueError.__init__" veTail l.prog K mg DI feI (fnC "__init__" "InvalidNumber.__init__" (defArgs sINInit) (defBody sINInit) (defScope sINInit) .none kVEI dcEI pmEI anEI (.ref ceI) ctEI celI) inArg := ⟨⟨_, _, _, ldI⟩, by rfl, by show (defScope sINInit).names.lookup inArg.arg = some NameKind.local; decide +kernel, ⟨ceI, _, _, vsI, _, fileI, tfI, rfl, lceI, hvsI, hfileI⟩, htop, PySem.W.mg_none_of X G z_super, ⟨_, _, _, _, _, _, _, _, _, _, _, _, _, _, _, xI, by show decide (veTail = veTail) = true; decide +kernel⟩, supI, svI, ssI, opn⟩
  have ZI : Err "InvalidNumber" l.prog w K mg base R DI S2 := ⟨OEI, PySem.W.mg_of X G aI, ⟨feI, _, adI, tdI, .all (fun us hl => match us, hl with | [_, _], _ => rfl), ok_in cdEI lcelI SII M OEI noI⟩, exm_self eI jI tI ssI, ⟨gaI, ggI, eI, hdEI⟩, noI, ⟨gaI, ggI, eI, hdEI, clEI, gt, tk, moEI⟩, PySem.W.mg_of X G aS2, kit_rr jS2 tS2 sSI⟩
  have OEJ : OexC K DJ := ⟨⟨_, _, _, _, _, _, _, _, _, _, _, _, _, _, _, xJ, by show PySem.HandSPX.refsVE veTail = true; decide +kernel⟩, saJ, eJ, tJ, kJ⟩
  have SIJ : SupK "ValueError" "ValueError.__new__" "ValueError.__init__" veTail l.prog K mg DJ feJ (fnC "__init__" "InvalidPolynomial.__init__" (defArgs sIPInit) (defBody sIPInit) (defScope sIPInit) .none kVEJ dcEJ pmEJ anEJ (.ref ceJ) ctEJ celJ) ipArg := ⟨⟨_, _, _, ldJ⟩, by rfl, by show (defScope sIPInit).names.lookup ipArg.arg = some NameKind.local; decide +kernel, ⟨ceJ, _, _, vsJ, _, fileJ, tfJ, rfl, lceJ, hvsJ, hfileJ⟩, htop, PySem.W.mg_none_of X G z_super, ⟨_, _, _, _, _, _, _, _, _, _, _, _, _, _, _, xJ, by show decide (veTail = veTail) = true; decide +kernel⟩, supJ, svJ, ssJ, opn⟩
  have ZJ : Err "InvalidPolynomial" l.prog w K mg base R DJ S2 := ⟨OEJ, PySem.W.mg_of X G aJ, ⟨feJ, _, adJ, tdJ, .all (fun us hl => match us, hl with | [_, _], _ => rfl), ok_ip cdEJ lcelJ SIJ M OEJ noJ⟩, exm_self eJ jJ tJ ssJ, ⟨gaJ, ggJ, eJ, hdEJ⟩, noJ, ⟨gaJ, ggJ, eJ, hdEJ, clEJ, gt, tk, moEJ⟩, PySem.W.mg_of X G aS2, kit_rr jS2 tS2 sSJ⟩
  have ZZ : Two l.prog w K mg base R DI DJ S2 := ⟨ZI, ZJ, exm_no eI jI tI sJI⟩
  have RX : RwX l.prog w K mg base R DJ := ⟨f8, _, g8, F8.kp, b8, ok_rowX F8 T M0 N ZJ⟩
  have W : PX l.prog w K mg base R C DJ := ⟨neRC.symm, fun op ho => by rcases ho with rfl | rfl | rfl; exact ⟨fm2, _, am2, im2, nCadd, bm2, ok_addX Fm2 N RX D2⟩; exact ⟨fm3, _, am3, im3, nCsub, bm3, ok_subX Fm3 N RX D2 D4⟩; exact ⟨fm4, _, am4, im4, nCmul, bm4, ok_mulX Fm4 N RX D3⟩, fun op ho => by rcases ho with rfl | rfl | rfl; exact ⟨radd, oadd, nRadd⟩; exact ⟨rsub, osub, nRsub⟩; exact ⟨rmul, omul, nRmul⟩⟩
  have RF : Rfd K mg := ⟨f21, _, F21, g21, F21.kp, b21⟩
  have AK : AtK l.prog w K mg base C := ⟨fm1, _, ⟨am1, im1, km1⟩, bm1, KBinds.two (fun _ _ => rfl), ok_at Fm1 T N D0⟩
  have D9 := df_of (P := l.prog) (w := w) (base := base) F9 g9 b9 (ok_rng F9 T)
  have D10 := df_of (P := l.prog) (w := w) (base := base) F10 g10 b10 (ok_draw F10 T)
  have D11 := df_of (P := l.prog) (w := w) (base := base) F11 g11 b11 (ok_choice F11 T D10)
  have D12 := df_of (P := l.prog) (w := w) (base := base) F12 g12 b12 (ok_coeff F12 T D10 D11)
  have D13 := df_of (P := l.prog) (w := w) (base := base) F13 g13 b13 (ok_row F13 T D10 D11 D12)
  have D14 := df_of (P := l.prog) (w := w) (base := base) F14 g14 b14 (ok_plain F14 T)
  have D15 := df_of (P := l.prog) (w := w) (base := base) F15 g15 b15 (ok_sum F15 T D14)
  have D16 := df_of (P := l.prog) (w := w) (base := base) F16 g16 b16 (ok_prod F16 T D14)
  have D17 := df_of (P := l.prog) (w := w) (base := base) F17 g17 b17 (ok_value F17)
  have D18 := df_of (P := l.prog) (w := w) (base := base) F18 g18 b18 (ok_text F18 T)
  have D19 := dfG_of (P := l.prog) (w := w) (base := base) F19 g19 b19 (ok_is F19 T PA D14 D18)
  have D20 := df_of (P := l.prog) (w := w) (base := base) F20 g20 b20 (ok_made F20 T PM)
  have D23 := dfG_of (P := l.prog) (w := w) (base := base) F23 g23 b23 (ok_valR F23 T N AK D10 D17)
  have D22 := dfG_of (P := l.prog) (w := w) (base := base) F22 g22 b22 (ok_refR F22 rfl TB T M N ZZ W RF ⟨mkC, ainC, iinC, kcC⟩ (ok_pinitX FinC ZI D0) ⟨fm1, _, ⟨am1, im1, km1⟩, bm1, ok_atX Fm1 ZI D0⟩ D11)
  have D24 := dfG_of (P := l.prog) (w := w) (base := base) F24 g24 b24 (ok_right F24 T PA D10 D13 D20 D19 D15 D16 D14 D23 D22)
  exact ok_law F25 T D9 D24
theorem walk {l : PySem.W.OpenLaw} {q : Program} {loose : List Str} {XP : (Str → Option Value) → Heap → Prop} {YP : World → Heap → Prop} {d : DefRec} {K : Params → PySem.W.Frag} (hn : l.most = some 63) (hdf : d.params.defaults = [])
    (hY : ∀ (w : World) (h : Heap), YP w h → (K w.params).In h)
    (F : ∀ (w : World) (mg : Str → Option Value) (fa : Addr) (h : Heap), YP w h → (K w.params).In h → h.Ns mainGlobals mg → (∀ (d' : DefRec) (x : Str) (c P : Addr), (recsOf q).find? (fun e => e.name == x) = some d' → PySem.W.tabIn (K w.params) x = some (c, P) → PySem.W.CodeHd h c P ∧ h.get? P = some emptyTab) → mg d.name = some (.ref fa) → LawT l w (K w.params) CX0 16 63 "_law_script" mg fa h) :
    PySem.W.WalkO q loose XP YP l.row.toRowW d [] (fun f vs => PySem.call f vs) :=
  L2.walk_ofT (n := 63) (k := 16) (x := "_law_script") (CX := fun _ => CX0) hn (by decide) hdf ⟨rfl, by decide, by decide⟩ hY F fun _ _ _ _ _ z => z
end S70

open PySem PySem.W PyProof.Rows in
set_option maxRecDepth 100000 in
set_option maxHeartbeats 0 in
theorem PySem.Challenge.cw_slotsums_k70_polynomials_holds : PySem.Challenge.rw_slotsums_k70_polynomials.Holds := by
  w_on; o_law; k_head; (case hw => w_witness2)
  k_fill
  refine S70.walk (l := PySem.Challenge.rw_slotsums_k70_polynomials) rfl rfl (fun w h Y => PySem.W.km_in_of Y) ?F
  case F =>
    intro w mg fa h Y KX G TT hmg
    refine' S70.all_mk KX G TT ?hrec hmg ?a0 ?l0 ?c0 ?k0 ?a1 ?l1 ?c1 ?k1 ?a2 ?l2 ?c2 ?k2 ?a3 ?l3 ?c3 ?k3 ?a4 ?l4 ?c4 ?k4 ?a5 ?l5 ?c5 ?k5 ?a6 ?l6 ?c6 ?k6 ?a7 ?l7 ?c7 ?k7 ?a8 ?l8 ?c8 ?k8 ?a9 ?l9 ?c9 ?k9 ?a10 ?l10 ?c10 ?k10 ?a11 ?l11 ?c11 ?k11 ?a12 ?l12 ?c12 ?k12 ?a13 ?l13 ?c13 ?k13 ?a14 ?l14 ?c14 ?k14 ?a15 ?l15 ?c15 ?k15 ?a16 ?l16 ?c16 ?k16 ?a17 ?l17 ?c17 ?k17 ?a18 ?l18 ?c18 ?k18 ?a19 ?l19 ?c19 ?k19 ?a20 ?l20 ?c20 ?k20 ?a21 ?l21 ?c21 ?k21 ?a22 ?l22 ?c22 ?k22 ?lco ?hco ?nPt ?a23 ?l23 ?c23 ?k23 ?a24 ?l24 ?c24 ?k24 ?a25 ?l25 ?c25 ?k25 ?aR ?aC ?am0 ?im0 ?lm0 ?cm0 ?km0 ?am1 ?im1 ?lm1 ?cm1 ?km1 ?am2 ?im2 ?lm2 ?cm2 ?km2 ?am3 ?im3 ?lm3 ?cm3 ?km3 ?am4 ?im4 ?lm4 ?cm4 ?km4 ?am5 ?im5 ?lm5 ?cm5 ?km5 ?am6 ?im6 ?lm6 ?cm6 ?km6 ?am7 ?im7 ?lm7 ?cm7 ?km7 ?am8 ?im8 ?lm8 ?cm8 ?km8 ?ap0 ?gp0 ?tp0 ?r_p0 ?lp0 ?cp0 ?kp0 ?ainC ?iinC ?linC ?cinC ?kinC ?arp ?irp ?lrp ?crp ?krp ?ainR ?iinR ?linR ?cinR ?kinR ?ltd ?oadd ?nRadd ?nCadd ?osub ?nRsub ?nCsub ?omul ?nRmul ?nCmul ?nne ?gt ?tk ?pgR ?hdR ?poR ?saR ?mkR ?kcR ?icR ?moR ?sfR ?jcR ?tcR ?nT ?nB ?suintR ?sustrR ?suNoneTypeR ?suboolR ?sulistR ?sutupleR ?sudictR ?pgC ?hdC ?poC ?saC ?mkC ?kcC ?icC ?moC ?sfC ?jcC ?tcC ?nR ?suintC ?sustrC ?suNoneTypeC ?suboolC ?sulistC ?sutupleC ?sudictC ?sRi ?sRC ?sCC ?aI ?xI ?saI ?eI ?tI ?kI ?jI ?ssI ?svI ?adI ?tdI ?ldI ?cdEI ?lcelI ?lceI ?hvsI ?hfileI ?supI ?noI ?gaI ?ggI ?hdEI ?clEI ?moEI ?sSI ?aJ ?xJ ?saJ ?eJ ?tJ ?kJ ?jJ ?ssJ ?svJ ?adJ ?tdJ ?ldJ ?cdEJ ?lcelJ ?lceJ ?hvsJ ?hfileJ ?supJ ?noJ ?gaJ ?ggJ ?hdEJ ?clEJ ?moEJ ?sSJ ?sJI ?aS2 ?jS2 ?tS2 ?htop ?z_super ?opn ?z_isinstance ?z_int ?z_bool ?z_str ?z_len ?z_list ?z_max ?z_min ?z_sum ?z_zip ?z_range ?z_tuple ?z_enumerate ?z_all ?z_any ?z_abs ?z_divmod ?z_repr
    (case hrec => first | rfl | kernel_rfl)
    (case a0 => k_is)
    (case l0 => k_is)
    (case c0 => k_is)
    (case k0 => k_is)
    (case a1 => k_is)
    (case l1 => k_is)
    (case c1 => k_is)
    (case k1 => k_is)
    (case a2 => k_is)
    (case l2 => k_is)
    (case c2 => k_is)
    (case k2 => k_is)
    (case a3 => k_is)
    (case l3 => k_is)
    (case c3 => k_is)
    (case k3 => k_is)
    (case a4 => k_is)
    (case l4 => k_is)
    (case c4 => k_is)
    (case k4 => k_is)
    (case a5 => k_is)
    (case l5 => k_is)
    (case c5 => k_is)
    (case k5 => k_is)
    (case a6 => k_is)
    (case l6 => k_is)
    (case c6 => k_is)
    (case k6 => k_is)
    (case a7 => k_is)
    (case l7 => k_is)
    (case c7 => k_is)
    (case k7 => k_is)
    (case a8 => k_is)
    (case l8 => k_is)
    (case c8 => k_is)
    (case k8 => k_is)
    (case a9 => k_is)
    (case l9 => k_is)
    (case c9 => k_is)
    (case k9 => k_is)
    (case a10 => k_is)
    (case l10 => k_is)
    (case c10 => k_is)
    (case k10 => k_is)
    (case a11 => k_is)
    (case l11 => k_is)
    (case c11 => k_is)
    (case k11 => k_is)
    (case a12 => k_is)
    (case l12 => k_is)
    (case c12 => k_is)
    (case k12 => k_is)
    (case a13 => k_is)
    (case l13 => k_is)
    (case c13 => k_is)
    (case k13 => k_is)
    (case a14 => k_is)
    (case l14 => k_is)
    (case c14 => k_is)
    (case k14 => k_is)
    (case a15 => k_is)
    (case l15 => k_is)
    (case c15 => k_is)
    (case k15 => k_is)
    (case a16 => k_is)
    (case l16 => k_is)
    (case c16 => k_is)
    (case k16 => k_is)
    (case a17 => k_is)
    (case l17 => k_is)
    (case c17 => k_is)
    (case k17 => k_is)
    (case a18 => k_is)
    (case l18 => k_is)
    (case c18 => k_is)
    (case k18 => k_is)
    (case a19 => k_is)
    (case l19 => k_is)
    (case c19 => k_is)
    (case k19 => k_is)
    (case a20 => k_is)
    (case l20 => k_is)
    (case c20 => k_is)
    (case k20 => k_is)
    (case a21 => k_is)
    (case l21 => k_is)
    (case c21 => k_is)
    (case k21 => k_is)
    (case a22 => k_is)
    (case l22 => k_is)
    (case c22 => k_is)
    (case k22 => k_is)
    (case lco => k_is)
    (case hco => rfl)
    (case nPt => first | rfl | k_is | kernel_rfl)
    (case a23 => k_is)
    (case l23 => k_is)
    (case c23 => k_is)
    (case k23 => k_is)
    (case a24 => k_is)
    (case l24 => k_is)
    (case c24 => k_is)
    (case k24 => k_is)
    (case a25 => k_is)
    (case l25 => k_is)
    (case c25 => k_is)
    (case k25 => k_is)
    (case aR => k_is)
    (case aC => k_is)
    (case am0 => k_is)
    (case im0 => k_is)
    (case lm0 => k_is)
    (case cm0 => k_is)
    (case km0 => k_is)
    (case am1 => k_is)
    (case im1 => k_is)
    (case lm1 => k_is)
    (case cm1 => k_is)
    (case km1 => k_is)
    (case am2 => k_is)
    (case im2 => k_is)
    (case lm2 => k_is)
    (case cm2 => k_is)
    (case km2 => k_is)
    (case am3 => k_is)
    (case im3 => k_is)
    (case lm3 => k_is)
    (case cm3 => k_is)
    (case km3 => k_is)
    (case am4 => k_is)
    (case im4 => k_is)
    (case lm4 => k_is)
    (case cm4 => k_is)
    (case km4 => k_is)
    (case am5 => k_is)
    (case im5 => k_is)
    (case lm5 => k_is)
    (case cm5 => k_is)
    (case km5 => k_is)
    (case am6 => k_is)
    (case im6 => k_is)
    (case lm6 => k_is)
    (case cm6 => k_is)
    (case km6 => k_is)
    (case am7 => k_is)
    (case im7 => k_is)
    (case lm7 => k_is)
    (case cm7 => k_is)
    (case km7 => k_is)
    (case am8 => k_is)
    (case im8 => k_is)
    (case lm8 => k_is)
    (case cm8 => k_is)
    (case km8 => k_is)
    (case ap0 => k_is)
    (case gp0 => k_is)
    (case tp0 => k_is)
    (case r_p0 => k_is)
    (case lp0 => k_is)
    (case cp0 => k_is)
    (case kp0 => k_is)
    (case ainC => k_is)
    (case iinC => k_is)
    (case linC => k_is)
    (case cinC => k_is)
    (case kinC => k_is)
    (case arp => k_is)
    (case irp => k_is)
    (case lrp => k_is)
    (case crp => k_is)
    (case krp => k_is)
    (case ainR => k_is)
    (case iinR => k_is)
    (case linR => k_is)
    (case cinR => k_is)
    (case kinR => k_is)
    (case ltd => k_is)
    (case oadd => k_is)
    (case nRadd => k_is)
    (case nCadd => k_is)
    (case osub => k_is)
    (case nRsub => k_is)
    (case nCsub => k_is)
    (case omul => k_is)
    (case nRmul => k_is)
    (case nCmul => k_is)
    (case nne => k_is)
    (case gt => k_is)
    (case tk => k_is)
    (case pgR => k_is)
    (case hdR => k_is)
    (case poR => k_is)
    (case saR => k_is)
    (case mkR => k_is)
    (case kcR => k_is)
    (case icR => k_is)
    (case moR => k_is)
    (case sfR => k_is)
    (case jcR => k_is)
    (case tcR => k_is)
    (case nT => k_is)
    (case nB => k_is)
    (case suintR => k_is)
    (case sustrR => k_is)
    (case suNoneTypeR => k_is)
    (case suboolR => k_is)
    (case sulistR => k_is)
    (case sutupleR => k_is)
    (case sudictR => k_is)
    (case pgC => k_is)
    (case hdC => k_is)
    (case poC => k_is)
    (case saC => k_is)
    (case mkC => k_is)
    (case kcC => k_is)
    (case icC => k_is)
    (case moC => k_is)
    (case sfC => k_is)
    (case jcC => k_is)
    (case tcC => k_is)
    (case nR => k_is)
    (case suintC => k_is)
    (case sustrC => k_is)
    (case suNoneTypeC => k_is)
    (case suboolC => k_is)
    (case sulistC => k_is)
    (case sutupleC => k_is)
    (case sudictC => k_is)
    (case sRi => k_is)
    (case sRC => k_is)
    (case sCC => first | k_is | rfl)
    (case aI => k_is)
    (case xI => k_is)
    (case saI => k_is)
    (case eI => k_is)
    (case tI => k_is)
    (case kI => k_is)
    (case jI => k_is)
    (case ssI => first | k_is | rfl)
    (case svI => k_is)
    (case adI => k_is)
    (case tdI => k_is)
    (case ldI => k_is)
    (case cdEI => k_is)
    (case lcelI => k_is)
    (case lceI => k_is)
    (case hvsI => rfl)
    (case hfileI => first | rfl | kernel_rfl)
    (case supI => ks_is)
    (case noI => k_is)
    (case gaI => k_is)
    (case ggI => k_is)
    (case hdEI => k_is)
    (case clEI => k_is)
    (case moEI => k_is)
    (case sSI => k_is)
    (case aJ => k_is)
    (case xJ => k_is)
    (case saJ => k_is)
    (case eJ => k_is)
    (case tJ => k_is)
    (case kJ => k_is)
    (case jJ => k_is)
    (case ssJ => first | k_is | rfl)
    (case svJ => k_is)
    (case adJ => k_is)
    (case tdJ => k_is)
    (case ldJ => k_is)
    (case cdEJ => k_is)
    (case lcelJ => k_is)
    (case lceJ => k_is)
    (case hvsJ => rfl)
    (case hfileJ => first | rfl | kernel_rfl)
    (case supJ => ks_is)
    (case noJ => k_is)
    (case gaJ => k_is)
    (case ggJ => k_is)
    (case hdEJ => k_is)
    (case clEJ => k_is)
    (case moEJ => k_is)
    (case sSJ => k_is)
    (case sJI => k_is)
    (case aS2 => k_is)
    (case jS2 => k_is)
    (case tS2 => k_is)
    (case htop => first | rfl | kernel_rfl)
    (case z_super => k_is)
    (case opn => k_is)
    (case z_isinstance => k_is)
    (case z_int => k_is)
    (case z_bool => k_is)
    (case z_str => k_is)
    (case z_len => k_is)
    (case z_list => k_is)
    (case z_max => k_is)
    (case z_min => k_is)
    (case z_sum => k_is)
    (case z_zip => k_is)
    (case z_range => k_is)
    (case z_tuple => k_is)
    (case z_enumerate => k_is)
    (case z_all => k_is)
    (case z_any => k_is)
    (case z_abs => k_is)
    (case z_divmod => k_is)
    (case z_repr => k_is)
