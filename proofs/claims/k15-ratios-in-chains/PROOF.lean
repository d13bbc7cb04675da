import PyProof.Rows.All
import Wide.All
import OpenK.AllK
import Wide.FinOn
import HandS.ForMost
import HandS.More
import PyProof.ReprRoads
import KE.KExcSuper
import HandS.ExcInit
import HandS.Nested
import KE.KOpsOwn
import KE.KCallOwn
import PyProof.InstEq
import HandS.SlotsOwn
import HandS.IsInst
import PyProof.ReprDict
import HandS.FStr
import KE.KExcIs
import HandS.ExcIs
import HandS.ExcField
import HandS.Lambda
import HandS.ExcOwn
import HandS.Star
import HandS.ClsMeth
import HandS.EndTab
import KE.KNest
import HandS.Property
import HandS.Style
import HandS.Wide
import HandS.WideBits
import HandS.TupAny
import HandS.Conv
import KE.KUnpack
import KE.KRevSl
import HandS.TryMany
import HandS.Walk
import HandS.Defaults
import HandS.TryOnly
import HandS.TupLe
import HandS.Zip
import HandS.AnyAll
import KE.RegKSuper
import PySem.Challenge.RW_slotsums_k15_whole_ratios_in_chains
set_option Elab.async false
set_option linter.all false
set_option maxRecDepth 100000
set_option maxHeartbeats 8000000
/-! Defs that ask what is being shown around them: FnOk where no repr is under way (guards = some []). -/
namespace L2
open PySem PySem.Spec PyProof.Rows
/-- the def keeps its promise wherever no repr is under way -/
structure FnG (P : Program) (w : World) (K : PySem.W.Frag) (mg : Str → Option Value) (base : Heap) (CX : CXT) (k : Nat) (f : Addr) (fd : FuncData) (ps : List Str) (sp : Sp) : Prop where
  len : ∀ vs H Q E, sp vs H Q E → vs.length = ps.length
  run : ∀ (A : Around) (outer : List Env) (s : Shared) (H : Hp) (args : Args) (us : List Value) (vs : List V) (Q : VK) (E : XK), A.guards = some [] → Room k A → Env0 P w K mg base A outer s H → BindsTo s fd args (ps.zip us) → Vals vs us → sp vs H Q E →
    codeAny (model P w) A (.call (.ref f) args) (CR CX outer P w H s Q E) s
section
variable {CX : CXT} {P : Program} {w : World} {K : PySem.W.Frag} {mg : Str → Option Value} {base : Heap} {k : Nat} {f : Addr} {fd : FuncData} {N ps : List Str} {sp : Sp}
theorem FnOk.gd (F : FnOk P w K mg base CX k f fd ps sp) : FnG P w K mg base CX k f fd ps sp := ⟨F.len, fun A outer s H args us vs Q E _ => F.run A outer s H args us vs Q E⟩
theorem FnG.mono {j : Nat} (F : FnG P w K mg base CX j f fd ps sp) (h : j ≤ k) : FnG P w K mg base CX k f fd ps sp := ⟨F.len, fun A outer s H args us vs Q E hg hr => F.run A outer s H args us vs Q E hg (hr.mono h)⟩
/-- a body walked where no repr is under way -/
theorem fn_ofG {name qual : Str} {params : Arguments} {body : List Stmt} {scope : Scope} {dV kV doc pm cdv ct oc : Value} {an od : Option Addr} {osl : Array (Option Value)}
    (lk : K.lookup f = some ⟨oc, od, .func (PySem.W.fnOf name qual params body scope dV kV doc pm an cdv ct), osl⟩) (hcd : PySem.W.codeIn K cdv qual = true) (S : FnScope N ps scope) (len : ∀ vs H Q E, sp vs H Q E → vs.length = ps.length)
    (hbody : ∀ (A : Around) (outer : List Env) (s : Shared) (H : Hp) (vs : List V) (Q : VK) (E : XK), A.guards = some [] → Room k (A.deeper (envOfC qual scope s.heap.objs.size f cdv)) → sp vs H Q E →
      ∃ t, PSs (cxOf CX P w K mg base N qual scope f cdv A outer s H E) body t ∧ t { nx := fun _ H' => Q .non H', rt := Q } (start N vs) H) :
    FnG P w K mg base CX (k + 1) f (PySem.W.fnOf name qual params body scope dV kV doc pm an cdv ct) ps sp := by
  refine ⟨len, fun A outer s H args us vs Q E gd hr e0 hb r hsp => ?_⟩
  have KX : K.In s.heap := e0.mod.kin.keeps fun b o e => (e0.bs b o e).1
  refine codeAny_call_function hr.depth (KX _ _ lk) rfl S.co S.gen rfl (PySem.W.codeRec_of KX hcd) (hb _ _ _ _ ?_)
  refine wpAny_newFunctionEnv_cells S.kind (fun ⟨n, v⟩ hy => (S.par n (List.of_mem_zip hy).1).imp id fun q => ⟨q, PySem.W.cellsFrom_some _ _ _ (.inl q)⟩) fun env he s1 x => ?_
  subst he
  refine ⟨(e0.mod.nolimit.keeps fun b o e => (e0.bs b o e).1).keeps x.toInCall.keep, codeAny_func ?_⟩
  obtain ⟨t, ht, hq⟩ := hbody A outer s H vs Q E gd (hr.deeper _) hsp
  refine wpAny_mono (ht.run [] s1 (start N vs) H _ (inv_start S hr.hd e0 (len _ _ _ _ hsp) r x) hq) (fun fl s' hs => ?_) fun e s' hs => hs
  cases fl with
  | ret u => obtain ⟨v, σ', H', J, rv, q⟩ := hs; exact ⟨v, H', J.os, J.bare, J.base, J.hok, rv, q⟩
  | next => obtain ⟨σ', H', J, q⟩ := hs; exact ⟨V.non, H', J.os, J.bare, J.base, J.hok, rfl, q⟩
  | brk => obtain ⟨_, _, _, q⟩ := hs; exact False.elim q
  | cont => obtain ⟨_, _, _, q⟩ := hs; exact False.elim q
theorem Fun.okG {x qual : Str} {st : Stmt} (F : Fun K x qual st f fd) (S : FnScope N ps (defScope st)) (len : ∀ vs H Q E, sp vs H Q E → vs.length = ps.length)
    (hbody : ∀ (cdv : Value) (A : Around) (outer : List Env) (s : Shared) (H : Hp) (vs : List V) (Q : VK) (E : XK), A.guards = some [] → Room k (A.deeper (envOfC qual (defScope st) s.heap.objs.size f cdv)) → sp vs H Q E →
      ∃ t, PSs (cxOf CX0 P w K mg base N qual (defScope st) f cdv A outer s H E).nox (defBody st) t ∧ t { nx := fun _ H' => Q .non H', rt := Q } (start N vs) H) : FnG P w K mg base CX0 (k + 1) f fd ps sp := by
  obtain ⟨oc, od, kV, doc, pm, an, cdv, ct, osl, rfl, lk, hcd⟩ := F.ex
  refine fn_ofG lk hcd S len fun A outer s H vs Q E gd hr hsp => ?_
  obtain ⟨t, h, q⟩ := hbody cdv A outer s H vs Q E gd hr hsp
  exact ⟨t, h.nox, q⟩
end
section
variable {X : Cx} {CX : CXT} {k : Nat} {f C : Addr} {fd : FuncData} {ps : List Str} {sp : Sp} {dvs : List V} {ds : List Value} {E : XK} {x m : Str} {p pos apos : Pos} {e o : Expr} {es : List Expr} {ta : TE} {t : TA}
theorem run_fnG {pins : List (Addr × Obj)} {σ : St} {H : Hp} {s : Shared} {Q : VK} {us : List Value} {vs : List V} (F : FnG X.prog X.w X.K X.mg X.base CX k f fd ps sp) (gd : X.A.guards = some []) (hr : Room k X.A) (hb : Binds X.K fd ps ds) (hd : Vals dvs ds) (hx : Passes CX X E)
    (I : Inv X pins σ H s) (r : Vals vs us) (h : sp (vs ++ dvs) H Q E) : wpAny (model X.prog X.w) X.A (call (.ref f) us) (EP X pins σ Q) X.xe s := by
  have r2 : Vals (vs ++ dvs) (us ++ ds) := r.append hd
  refine wpAny_call (codeAny_mono (F.run X.A X.stack s H ⟨us, []⟩ (us ++ ds) (vs ++ dvs) Q E gd hr I.env0 (hb s us I.kIn (by rw [← r2.length]; exact F.len _ _ _ _ h)) r2 h) fun r s' hq => ?_)
  cases r with
  | error e => exact hx pins σ H s e s' I hq
  | ok fl =>
    cases fl with
    | ret u => exact I.after hq
    | next => exact False.elim hq
    | brk => exact False.elim hq
    | cont => exact False.elim hq
theorem pe_callG (F : FnG X.prog X.w X.K X.mg X.base CX k f fd ps sp) (gd : X.A.guards = some []) (hr : Room k X.A) (hg : Gl X x) (hm : X.mg x = some (.ref f)) (hk : PySem.W.keepIn X.K (.ref f) = true) (hb : Binds X.K fd ps ds) (hd : Vals dvs ds) (hx : Passes CX X E)
    (ha : PA X (e :: es) t) (hdb : (x == ("__debug__" : Str)) = false := by decide) (he : starEach (e :: es) X.env = (false, eval e X.env) :: starEach es X.env := by rfl) (hpl : (backTo pos (starEach es X.env)).any (·.1) = false := by rfl) :
    PE X (.Call (.Name x p) (e :: es) [] pos) (tCall sp dvs E t) :=
  ⟨fun pins s σ H Q I h => wpAny_Call_Name_kw (ld_glob I hg hm (PySem.W.callWith_K (h₀ := X.base) I.ok.mod.kin hk (thn (ha.run pos pins s σ H _ I h) fun us s1 ⟨vs, H1, I1, r, q⟩ => ⟨I1.kIn, run_fnG F gd hr hb hd hx I1 r q⟩) he hpl) hdb)⟩
/-! ### repr of data -/
theorem call_reprD (gd : X.A.guards = some []) (hu : X.A.units + 70 < cLine) : CallR X (.builtin "repr") (fun xs H Q => ∃ a d, xs = [V.ref a] ∧ Dp X.K H (.ref a) d ∧ d.showable = true ∧ d.hasDict = false ∧ d.depth ≤ 64 ∧ d.shown.length ≤ sizeLine ∧ Q (.str d.shown) H) := by
  intro pins s σ H xs us Q I r h
  obtain ⟨a, d, rfl, hd, hs, hnd, hdp, hz, q⟩ := h
  obtain ⟨u, rfl, ru⟩ := vals1 r
  obtain rfl : u = Value.ref a := ru
  obtain ⟨as, rd⟩ := Dp.reads I d _ _ hd rfl
  refine PySem.repr_of_reads' rd hs (fun z => by rw [hnd] at z; cases z) gd (by omega) (fun _ _ e => e) (fun h' u tk kp => ?_) hz
  exact ⟨.str d.shown, H, I.kept (t' := tk) kp, ⟨_, rfl⟩, q⟩
end
end L2

/-! An own exception's __init__ that begins with super().__init__(e): the def is walked by the layer, its first statement by the library's words for super(). -/
namespace L2
theorem List.getElem?_append_or {α : Type} {l r : List α} {i : Nat} {a : α} (h : (l ++ r)[i]? = some a) : l[i]? = some a ∨ r[i - l.length]? = some a := by
  by_cases z : i < l.length
  · exact .inl (by rw [← List.getElem?_append_left z]; exact h)
  · exact .inr (by rw [← List.getElem?_append_right (Nat.le_of_not_lt z)]; exact h)
open PySem PySem.Spec PyProof.Rows
/-- the context of a def with a captured __class__ -/
def cxS (CX : CXT) (P : Program) (w : World) (K : PySem.W.Frag) (mg : Str → Option Value) (base : Heap) (N : List Str) (fd : FuncData) (f : Addr) (A : Around) (outer : List Env) (s : Shared) (H : Hp) (E : XK) : Cx where
  prog := P
  w := w
  K := K
  mg := mg
  base := base
  A := A.deeper (callEnv fd s.heap.objs.size f)
  N := N
  s_0 := s
  H_0 := H
  env := callEnv fd s.heap.objs.size f
  outer := outer
  stack := callEnv fd s.heap.objs.size f :: outer
  ex := []
  calm := true
  fn := fun _ => false
  pn := []
  xe := fun e s' => wpAny (model P w) (A.deeper (callEnv fd s.heap.objs.size f)) (leaving (callEnv fd s.heap.objs.size f) e) (fun _ s'' => CX outer H s E e s'') (fun e' s'' => CX outer H s E e' s'') s'
/-- what the text says of such a def -/
structure SupScope (N ps : List Str) (fd : FuncData) (cc : Addr) : Prop where
  kind : fd.scope.kind = .function
  co : fd.scope.isCoroutine = false
  gen : fd.scope.isGenerator = false
  nd : N.Nodup
  pre : N.take ps.length = ps
  par : ∀ x ∈ ps, fd.scope.names.lookup x = some .local
  nocell : ∀ y ∈ fd.scope.names, y.2 ≠ .cell
  free : ∀ y ∈ fd.scope.names, y.2 = .free → y.1 = ("__class__" : Str)
  sup : fd.scope.names.lookup ("super" : Str) = some .globalImplicit
  cls : fd.scope.names.lookup ("__class__" : Str) = some .free
  glob : fd.globals = mainGlobals
  blt : fd.builtins = builtinsNs
  clo : fd.closure = [(("__class__" : Str), cc)]
section
variable {CX : CXT} {P : Program} {w : World} {K : PySem.W.Frag} {mg : Str → Option Value} {base : Heap} {N ps : List Str} {fd : FuncData} {f cc C : Addr} {A : Around} {outer : List Env} {s : Shared} {H : Hp} {E : XK} {us : List Value} {vs : List V} {cd1 : Option Addr} {sl1 : Array (Option Value)}
theorem invS_start (S : SupScope N ps fd cc) (hcc : K.lookup cc = some ⟨.type "cell", cd1, .cell (some (.ref C)), sl1⟩) (hd : A.handled = none) (e0 : Env0 P w K mg base A outer s H) (hl : vs.length = ps.length) (r : Vals vs us) {h0 : Heap} {tk : Nat}
    (hns : h0.Ns s.heap.objs.size (fun x => (ps.zip us).reverse.lookup x)) (hk : ∀ b o, s.heap.get? b = some o → h0.get? b = some o) :
    Inv (cxS CX P w K mg base N fd f A outer s H E) [] (start N vs) H { s with heap := h0, toks := tk } := by
  have hpl : ps.length ≤ N.length := by have := congrArg List.length S.pre; rw [List.length_take] at this; omega
  have noA : ∀ b : Addr, b ∉ (cxS CX P w K mg base N fd f A outer s H E).ex := fun b z => by cases z
  have ecl : (cxS CX P w K mg base N fd f A outer s H E).env.cells = [(("__class__" : Str), cc)] := S.clo
  have one : ∀ {x : Str} {c : Addr}, (cxS CX P w K mg base N fd f A outer s H E).env.cells.lookup x = some c → x = ("__class__" : Str) ∧ c = cc := fun {x c} h => by
    rw [ecl, List.lookup_cons] at h
    cases hb : x == ("__class__" : Str) with
    | true => rw [hb] at h; exact ⟨beq_iff_eq.mp hb, (Option.some.inj h).symm⟩
    | false => rw [hb] at h; cases h
  have hb0 := e0.bs cc _ (e0.mod.kin _ _ hcc)
  refine ⟨⟨e0.mod, S.kind, S.glob, S.blt, Nat.le_refl _, fun y z c h1 h2 => (one h1).1.trans (one h2).1.symm, fun y hy => ?_, (fun y c z _ => by cases z), fun _ => hd, Around.frames_deeper e0.frames, .inr ⟨rfl, rfl⟩, fun b z => absurd z (noA b), e0.bs, e0.bsz, fun b _ _ => noA b, fun b z => absurd z (noA b), e0.funs, e0.frf⟩,
    rfl, e0.bare, Un.kept hk, ⟨_, hns, fun i y v h1 h2 h3 => ?_⟩, fun y c h => ?_, e0.hok.fresh (Nat.le_refl _), fun y c h => ?_, (fun p hp => by cases hp), e0.hok.kept hk, ?_⟩
  · rcases hy with hy | hy
    · exact absurd rfl (S.nocell _ (PySem.mem_of_lookup hy))
    · have e : y = ("__class__" : Str) := S.free _ (PySem.mem_of_lookup hy) rfl
      exact ⟨cc, by rw [ecl, e]; rfl⟩
  · have given : vs[i]? = some v := by
      have z : (vs.map some ++ List.replicate (N.length - vs.length) none)[i]? = some (some v) := h2
      rcases List.getElem?_append_or z with z | z
      · simpa using z
      · exact absurd (List.eq_of_mem_replicate (List.mem_of_getElem? z)) (by simp)
    have par : ps[i]? = some y := by
      have lt : i < ps.length := hl ▸ (List.getElem?_eq_some_iff.mp given).1
      have z : N[i]? = some y := h1
      rw [← List.getElem?_take_of_lt lt, S.pre] at z
      exact z
    obtain ⟨u, hu, rv⟩ := r.get given
    exact ⟨u, rv, .inl ⟨S.par y (List.mem_of_getElem? par), NdefX.zip_look (S.pre ▸ S.nd.sublist (List.take_sublist ps.length N)) par hu⟩⟩
  · obtain ⟨_, rfl⟩ := one h
    exact ⟨_, _, hk _ _ hb0.1, rfl⟩
  · obtain ⟨_, rfl⟩ := one h
    exact hb0.2
  · show (start N vs).length = N.length
    unfold start
    rw [List.length_append, List.length_map, List.length_replicate]
    omega
end
end L2

namespace L2
open PySem PySem.Spec PyProof.Rows
/-- own classes, then the tail t -/
def refsTo (t : List Value) : List Value → Bool
  | .ref _ :: r => refsTo t r
  | l => decide (l = t)
theorem refsTo_contains {t : List Value} (Y : String) : ∀ l : List Value, refsTo t l = true → l.contains (.type Y) = t.contains (.type Y)
  | [], h => by
    have e : ([] : List Value) = t := of_decide_eq_true h
    rw [← e]
  | v :: r, h => by
    cases v with
    | ref c =>
      rw [List.contains_cons, refsTo_contains Y r h]
      rfl
    | _ =>
      have e := of_decide_eq_true h
      rw [← e]
/-- what the written part says of the def's surroundings -/
structure SupK (B newId initId : String) (bmB : List Value) (P : Program) (K : PySem.W.Frag) (mg : Str → Option Value) (C f : Addr) (fd : FuncData) (ar : Arg) : Prop where
  fn : ∃ oc od osl, K.lookup f = some ⟨oc, od, .func fd, osl⟩
  hp : (fd.params.posonlyargs ++ fd.params.args).head? = some ar
  loc : fd.scope.names.lookup ar.arg = some .local
  code : ∃ cda k1 k2 vsc k3 file tf, fd.code = .ref cda ∧ K.lookup cda = some ⟨k1, k2, .fields vsc, k3⟩ ∧ vsc[2]? = some (.str file tf) ∧ ((P.main.file : Str) == file) = true
  top : (P.main.scope.names.lookup ("super" : Str)).isSome = false
  ms : mg "super" = none
  cls : ∃ nm q N bs bm sn sub ab col dd k0 k1 k2 k3 k5, K.lookup C = some (excClassObj nm q C N bs bm true sn sub ab col dd k0 k1 k2 k3 k5 newId) ∧ refsTo bmB bm = true
  sup : PySem.W.ks_superIn K C C "__init__" = some (some (.builtin initId))
  sB : PySem.W.subIn K (.ref C) (.type B) = some true
  sC : PySem.W.subIn K (.ref C) (.ref C) = some true
  op : PySem.W.nsIn K cStatics "thirdparty.any" = some none
section
variable {CX : CXT} {P : Program} {w : World} {K : PySem.W.Frag} {mg : Str → Option Value} {base : Heap} {N ps : List Str} {fd : FuncData} {f cc C a : Addr} {A : Around} {outer : List Env} {s0 s : Shared} {H0 H : Hp} {E : XK} {σ : St} {cd1 : Option Addr} {sl1 : Array (Option Value)} {ar : Arg}
  {e : Expr} {ta : TA} {p0 p1 p2 p3 p4 : Pos} {body : List Stmt} {R : Hp → Prop} {B newId initId : String} {bmB : List Value}
theorem boot_super : bootBuiltins ("super" : Str) = some (.type "super") := by decide +kernel
theorem sup_run (S : SupScope N ps fd cc) (hcc : K.lookup cc = some ⟨.type "cell", cd1, .cell (some (.ref C)), sl1⟩) (FB : ExcBaseFacts B newId initId bmB) (KF : PySem.W.KxsFacts B initId) (T : SupK B newId initId bmB P K mg C f fd ar) (h0 : N[0]? = some ar.arg)
    (I : Inv (cxS CX P w K mg base N fd f A outer s0 H0 E) [] σ H s) (hσ : σ[0]? = some (some (.ref a))) (ea : H a = some (exo a C none)) (ha : PA (cxS CX P w K mg base N fd f A outer s0 H0 E) [e] ta)
    (h : ta σ H fun vs H1 => vs.length ≤ 1000 ∧ H1 a = some (exo a C none) ∧ R H1)
    (hst : starEach [e] (callEnv fd s0.heap.objs.size f) = [(false, eval e (callEnv fd s0.heap.objs.size f))] := by rfl)
    {pl : Sem Bool}
    (hcall : eval (.Call (.Attribute (.Call (.Name "super" p0) [] [] p1) "__init__" p2) [e] [] p3) (callEnv fd s0.heap.objs.size f) = (do
      let ov ← attributeBase (.Call (.Name "super" p0) [] [] p1) "__init__" (callEnv fd s0.heap.objs.size f) (eval (.Call (.Name "super" p0) [] [] p1) (callEnv fd s0.heap.objs.size f))
      standAt p2.atName
      let (f', first) ← holding [ov] (getMethod ov "__init__" pl)
      callWith p3 f' first (backTo p3 (starEach [e] (callEnv fd s0.heap.objs.size f))) []) := by rfl) :
    PySem.wpAt (model P w) (A.deeper (callEnv fd s0.heap.objs.size f)) (.func body (callEnv fd s0.heap.objs.size f)) (eval (.Call (.Attribute (.Call (.Name "super" p0) [] [] p1) "__init__" p2) [e] [] p3) (callEnv fd s0.heap.objs.size f))
      (fun _ s' => ∃ H', Inv (cxS CX P w K mg base N fd f A outer s0 H0 E) [] σ H' s' ∧ R H') (cxS CX P w K mg base N fd f A outer s0 H0 E).xe s := by
  obtain ⟨oc, od, osl, lkf⟩ := T.fn
  obtain ⟨cda, k1, k2, vsc, k3, file, tf, hco, hcda, hvs, hfile⟩ := T.code
  have KX : K.In s.heap := I.kIn
  refine ks_wpAt_MethodCall (pl := pl) ?_ hcall
  refine ks_wpAt_super_base (f := f) (cc := cda) S.sup S.cls (by decide) rfl (KX _ _ lkf) rfl T.hp hco (KX _ _ hcda) rfl hvs hfile T.top ?_
  -- super
  obtain ⟨mb, b1, b2⟩ := I.mod.blt
  have hkind : (callEnv fd s0.heap.objs.size f).scope.kind = .function := S.kind
  have hsup : (callEnv fd s0.heap.objs.size f).kindOf "super" = some .globalImplicit := S.sup
  have ldS : ∀ Q : Value → Shared → Prop, Q (.type "super") s → wpAny (model P w) (A.deeper (callEnv fd s0.heap.objs.size f)) (loadName (callEnv fd s0.heap.objs.size f) "super") Q (cxS CX P w K mg base N fd f A outer s0 H0 E).xe s := fun Q hq => by
    unfold loadName
    simp only [Env.blockKind, hkind, hsup, ScopeKind.isAnnotationScope, Bool.false_and, Bool.false_eq_true, if_false]
    exact Calls.loadGlobal_builtin (by show s.heap.Ns fd.globals mg; rw [S.glob]; exact I.mod.glob.keeps I.bk) T.ms (by show s.heap.Ns fd.builtins mb; rw [S.blt]; exact b1.keeps I.bk) ((b2 _ (by decide)).trans boot_super) hq
  refine ldS _ ⟨rfl, ?_⟩
  -- __class__
  have hcell : s.heap.IsCell cc (some (.ref C)) := ⟨_, KX _ _ hcc, rfl⟩
  refine wpAny_loadName_free hkind S.cls (by show fd.closure.lookup _ = _; rw [S.clo]; rfl) hcell ?_
  -- self
  obtain ⟨m, hns, hl⟩ := I.loc
  obtain ⟨u, ru, hlook⟩ := hl 0 ar.arg (.ref a) h0 hσ (.inl T.loc)
  obtain rfl : u = Value.ref a := ru
  have hml : m ar.arg = some (.ref a) := by
    rcases hlook with ⟨_, z⟩ | ⟨z, _⟩
    · exact z
    · have z' : fd.scope.names.lookup ar.arg = some .cell ∨ fd.scope.names.lookup ar.arg = some .free := z
      rw [T.loc] at z'
      rcases z' with z' | z' <;> cases z'
  refine wpAny_loadName_local hkind T.loc hns hml ?_
  -- the class, the object
  obtain ⟨nm, q, NN, bs, bm, sn, sub, ab, col, dd, c0, c1, c2, c3, c5, hC, hbm⟩ := T.cls
  have hCh := KX _ _ hC
  obtain ⟨t1, hoa⟩ := exo_at I.hok ea
  obtain ⟨hp, g, d, t, os⟩ := s
  refine ks_wpAny_isType_cls hCh rfl ⟨rfl, ?_⟩
  refine ks_wpAny_call_super hCh rfl hoa rfl (fun c z => nomatch z) (PySem.W.looks_subIn KX T.sC) (fun h1 hso k1' => ?_)
  -- the bound __init__
  have KX1 : K.In h1 := KX.keeps k1'
  have hcl : PySem.W.clsIn K C = some { name := nm, bases := bs, mro := .ref C :: bm, ns := NN, qualname := q, hasDict := true, slotNames := sn, subclasses := sub, abstract := ab, collection := col, hasDel := false } := by unfold PySem.W.clsIn; rw [hC] <;> rfl
  have hal : PySem.W.alongIn K "__init__" (((Value.ref C :: bm).dropWhile (· != .ref C)).drop 1) = some (some (.builtin initId)) := by
    have z := T.sup
    unfold PySem.W.ks_superIn at z
    rw [hcl] at z
    exact z
  have hoa1 := k1' _ _ hoa
  have inst1 : PySem.W.InstAt h1 a { cls := .ref C, dict := none, data := .fields #[.ref t1, .none, .none, .none, .bool false, .none] } C none := ⟨hoa1, rfl, rfl, trivial⟩
  have hI1 : PySem.W.Looks (model P w) h1 (isInstance (.ref a) (.type B)) true := inst1.type.andThen (PySem.W.looks_subIn KX1 T.sB)
  refine PySem.W.kxs_getMethod KF hso (PySem.W.looks_opaque KX1 T.op) (l₀ := .ref C :: bm) (fun A Q E s k q => wpAny_bind ((PySem.W.looks_clsIn KX1 hcl) A _ E s k (wpAny_pure q))) rfl KX1 hal hI1 (PySem.W.ks_ne KX1 inst1 hcl) (by decide) ?_
  -- its argument
  have kk : ∀ b o, hp.get? b = some o → (h1.push (PySem.W.kxs_mw initId a)).get? b = some o := fun b o z => Heap.get?_push_of_some _ (k1' b o z)
  have I2 : Inv (cxS CX P w K mg base N fd f A outer s0 H0 E) [] σ H ⟨h1.push (PySem.W.kxs_mw initId a), g, d, t + 1, os⟩ := I.kept (t' := t + 1) kk
  have hwr : (h1.push (PySem.W.kxs_mw initId a)).get? h1.objs.size = some (PySem.W.kxs_mw initId a) := Heap.get?_push_at rfl rfl
  have I1 : Inv (cxS CX P w K mg base N fd f A outer s0 H0 E) [] σ H ⟨h1, g, d, t + 1, os⟩ := I.kept (t' := t + 1) k1'
  have I3 : Inv (cxS CX P w K mg base N fd f A outer s0 H0 E) [(h1.objs.size, PySem.W.kxs_mw initId a)] σ H ⟨h1.push (PySem.W.kxs_mw initId a), g, d, t + 1, os⟩ := I2.pins_of fun p hp' => by
    obtain rfl := List.mem_singleton.mp hp'
    exact ⟨hwr, I1.hok.fresh (Nat.le_refl _), Nat.ne_of_gt I1.lt, I1.nofs (Nat.le_refl _), fun v z => by cases z⟩
  rw [hst]
  refine PySem.W.kxs_callWith (i := initId) (x := a) rfl ?_
  refine Calls.evalArgs_plain ?_
  have hrun := ha.run p3 [(h1.objs.size, PySem.W.kxs_mw initId a)] _ σ H _ I3 h
  rw [show starEach [e] (cxS CX P w K mg base N fd f A outer s0 H0 E).env = [(false, eval e (callEnv fd s0.heap.objs.size f))] from hst] at hrun
  refine thn hrun fun us s2 ⟨vs, H1, I4, r4, hl, ea4, q4⟩ => ?_
  have hu2 : s2.heap.get? h1.objs.size = some (PySem.W.kxs_mw initId a) := (I4.pin _ (List.mem_append_right _ (List.mem_singleton.mpr rfl))).1
  refine ⟨hu2, ?_⟩
  show wpAny _ _ (call (.ref h1.objs.size) us) _ _ _
  have I5 : Inv (cxS CX P w K mg base N fd f A outer s0 H0 E) [] σ H1 s2 := I4.pins_of (fun p hp' => by cases hp')
  obtain ⟨t4, ho4⟩ := exo_at I5.hok ea4
  have hC2 := I5.kIn _ _ hC
  have hz : us.length ≤ sizeLine := by
    rw [← Paired.length r4, sizeLine_eq]
    omega
  have fin : ∀ h', (∀ b o, b ≠ a → s2.heap.get? b = some o → h'.get? b = some o) → (∃ t5 : Addr, h'.get? a = some ({ cls := .ref C, dict := none, data := .fields #[.ref t5, .none, .none, .none, .bool false, .none] } : Obj)) → ∃ H', Inv (cxS CX P w K mg base N fd f A outer s0 H0 E) [] σ H' { s2 with heap := h' } ∧ R H' := fun h' k ⟨t5, hx⟩ => by
    have J := I5.write (t' := s2.toks) (x := a) (e := a) (o := exo a C none) (by rw [ea4]; exact True.intro) (.inl rfl) k ⟨_, hx⟩ (exo_ok hx)
    have eu : upd H1 a (exo a C none) = H1 := by
      funext b
      by_cases hb : b = a
      · rw [hb, upd_same, ea4]
      · rw [upd_ne hb]
    rw [eu] at J
    exact ⟨H1, J, q4⟩
  obtain ⟨hp2, g2, d2, tk2, os2⟩ := s2
  refine wpAny_call (codeAny_of_tree ?_)
  show wpAny _ _ (callAny (.ref h1.objs.size) ⟨us, []⟩) _ _ _
  simp only [callAny]
  refine wpAny_bind (wpAny_load hu2 ?_)
  simp only [PySem.W.kxs_mw, show (Value.type "method-wrapper" == Value.type "method" || Value.type "method-wrapper" == Value.type "builtin_function_or_method" || Value.type "method-wrapper" == Value.type "method-wrapper") = true by decide, if_true]
  refine PySem.W.KFB.if_so (by decide) ?_
  refine wpAny_bind (PySem.W.check_bound_init FB.toExcCallFacts hC2 ho4 rfl ?_)
  refine wpAny_bind (wpAny_pure (wpAny_pure ?_))
  refine ⟨plainId_quiet FB.init.plain _, codeAny_builtin FB.initEntry ?_⟩
  exact PySem.W.exc_init_tree (cls := .ref C) (t0 := t4) (dv := none) (c2 := .none) (c3 := .none) (b4 := .bool false) ho4 hz fun h' k e' t' => fin h' k ⟨_, e'⟩
end
end L2

namespace L2
open PySem PySem.Spec PyProof.Rows
section
variable {CX : CXT} {P : Program} {w : World} {K : PySem.W.Frag} {mg : Str → Option Value} {base : Heap} {k : Nat} {N ps : List Str} {fd : FuncData} {f cc C : Addr} {cd1 : Option Addr} {sl1 : Array (Option Value)} {ar : Arg} {sp : Sp}
  {e : Expr} {p0 p1 p2 p3 p4 : Pos} {rest : List Stmt} {B newId initId : String} {bmB : List Value}
/-- an own exception's __init__ that begins with super().__init__(e) -/
theorem fn_sup (S : SupScope N ps fd cc) (hcc : K.lookup cc = some ⟨.type "cell", cd1, .cell (some (.ref C)), sl1⟩) (FB : ExcBaseFacts B newId initId bmB) (KF : PySem.W.KxsFacts B initId) (T : SupK B newId initId bmB P K mg C f fd ar) (h0 : N[0]? = some ar.arg) (hcd : PySem.W.codeIn K fd.code fd.qualname = true)
    (hbody : fd.body = .stmts (.Expr (.Call (.Attribute (.Call (.Name "super" p0) [] [] p1) "__init__" p2) [e] [] p3) p4 :: rest)) (len : ∀ vs H Q E, sp vs H Q E → vs.length = ps.length)
    (hst : ∀ env, starEach [e] env = [(false, eval e env)] := by intro env; rfl) {pl : Env → Sem Bool}
    (hcall : ∀ env, eval (.Call (.Attribute (.Call (.Name "super" p0) [] [] p1) "__init__" p2) [e] [] p3) env = (do
      let ov ← attributeBase (.Call (.Name "super" p0) [] [] p1) "__init__" env (eval (.Call (.Name "super" p0) [] [] p1) env)
      standAt p2.atName
      let (f', first) ← holding [ov] (getMethod ov "__init__" (pl env))
      callWith p3 f' first (backTo p3 (starEach [e] env)) []) := by intro env; rfl)
    (hin : ∀ L, interactive (callEnv fd L f) = false) (hsw : ∀ L, swapsWith (.Call (.Attribute (.Call (.Name "super" p0) [] [] p1) "__init__" p2) [e] [] p3) none p4.line (callEnv fd L f) = pure false)
    (h : ∀ (A : Around) (outer : List Env) (s : Shared) (H : Hp) (vs : List V) (Q : VK) (E : XK), A.guards = some [] → Room k (A.deeper (callEnv fd s.heap.objs.size f)) → sp vs H Q E →
      ∃ (a : Addr) (ta : TA) (tr : TS), (start N vs)[0]? = some (some (.ref a)) ∧ H a = some (exo a C none) ∧ PA (cxS CX P w K mg base N fd f A outer s H E) [e] ta ∧ PSs (cxS CX P w K mg base N fd f A outer s H E) rest tr ∧
        ta (start N vs) H (fun us H1 => us.length ≤ 1000 ∧ H1 a = some (exo a C none) ∧ tr { nx := fun _ H' => Q .non H', rt := Q } (start N vs) H1)) :
    FnG P w K mg base CX (k + 1) f fd ps sp := by
  refine ⟨len, fun A outer s H args us vs Q E gd hr e0 hb r hsp => ?_⟩
  have KX : K.In s.heap := e0.mod.kin.keeps fun b o e => (e0.bs b o e).1
  obtain ⟨oc, od, osl, lkf⟩ := T.fn
  refine ks_codeAny_call_defAt hr.depth (KX _ _ lkf) rfl (e0.mod.nolimit.keeps fun b o e => (e0.bs b o e).1) (PySem.W.codeRec_of KX hcd) hbody hb S.nocell (fun x hx => S.par x.1 (List.of_mem_zip hx).1) (fun h1 hns kk => ?_) S.co S.gen S.kind
  obtain ⟨a, ta, tr, ha0, hea, hta, htr, hq⟩ := h A outer s H vs Q E gd (hr.deeper _) hsp
  have I := invS_start (CX := CX) (E := E) (f := f) S hcc hr.hd e0 (len _ _ _ _ hsp) r (tk := s.toks + (ps.zip us).length) hns kk
  refine ks_wpAt_execs_cons (ks_wpAt_Expr_any (PySem.wpAt_mono (sup_run (pl := pl _) S hcc FB KF T h0 I ha0 hea hta hq (hst _) (hcall _)) (fun v s1 ⟨H1, I1, q1⟩ => ?_) fun e s' hs => hs) (hin _) (hsw _))
  refine PySem.wpAt_of_wpAny (wpAny_mono (htr.run [] s1 _ H1 _ I1 q1) (fun fl s' hs => ?_) fun e s' hs => hs)
  cases fl with
  | ret u => obtain ⟨v, σ', H', J, rv, q⟩ := hs; exact ⟨v, H', J.os, J.bare, J.base, J.hok, rv, q⟩
  | next => obtain ⟨σ', H', J, q⟩ := hs; exact ⟨V.non, H', J.os, J.bare, J.base, J.hok, rfl, q⟩
  | brk => obtain ⟨_, _, _, q⟩ := hs; exact False.elim q
  | cont => obtain ⟨_, _, _, q⟩ := hs; exact False.elim q
end
end L2

namespace L2
open PySem PySem.Spec PyProof.Rows
theorem make_guards {A : Around} {C : Addr} {us : List Value} {kw : List (Str × Value)} : (A.under (.builtin "type.__call__" ⟨.ref C :: us, kw⟩)).guards = A.guards := by
  first | rfl | simp [Around.under]
theorem deeper_guards {A : Around} {env : Env} : (A.deeper env).guards = A.guards := by
  first | rfl | simp [Around.deeper]
/-- an exception object of C is laid: its args, then itself -/
theorem exc_laid {X : Cx} {pins : List (Addr × Obj)} {σ : St} {G : Hp} {s0 : Shared} {args : List Value} {C : Addr} (J : Inv X pins σ G s0) :
    (∀ b o, s0.heap.get? b = some o → ((s0.heap.push (PySem.W.kdv_tup args)).push (PySem.HandSPX.excO C s0.heap.objs.size)).get? b = some o) ∧
    Inv X pins σ (upd G (s0.heap.objs.size + 1) (exo (s0.heap.objs.size + 1) C none)) { s0 with heap := (s0.heap.push (PySem.W.kdv_tup args)).push (PySem.HandSPX.excO C s0.heap.objs.size) } := by
  have stays : ∀ b o, s0.heap.get? b = some o → ((s0.heap.push (PySem.W.kdv_tup args)).push (PySem.HandSPX.excO C s0.heap.objs.size)).get? b = some o := fun b o z => Heap.get?_push_of_some _ (Heap.get?_push_of_some _ z)
  exact ⟨stays, J.laid (t' := s0.toks) (o := exo (s0.heap.objs.size + 1) C none) stays (Nat.le_succ _) (exo_ok (by heap_get))⟩
/-- C(e, ..): an own exception over ValueError, whose __init__ is told where no repr is under way -/
theorem pmk_oexG {X : Cx} {CX : CXT} {x : Str} {C g : Addr} {n : Nat} {fd : FuncData} {ps : List Str} {pr : Sp} {ds : List Value} {dvs : List V} {e : Expr} {es : List Expr} {ta : TA} {p pos : Pos} (cls : OexC X.K C) (init : PySem.W.findIn X.K (.ref C) "__init__" = some (some (.ref g))) (isfn : PySem.W.typeIn X.K (.ref g) = some (.type "function"))
    (F : FnG X.prog X.w X.K X.mg X.base CX n g fd ps pr) (quiet : X.A.guards = some []) (room : Room (n + 1) X.A) (bn : Binds X.K fd ps ds) (dv : Vals dvs ds) (pass : Passes CX X (fun _ _ _ => False)) (gl : Gl X x) (at_ : X.mg x = some (.ref C)) (args : PA X (e :: es) ta)
    (nd : (x == ("__debug__" : Str)) = false := by decide) (st : starEach (e :: es) X.env = (false, eval e X.env) :: starEach es X.env := by rfl) (pl : (backTo pos (starEach es X.env)).any (·.1) = false := by rfl) :
    PMk X (.Call (.Name x p) (e :: es) [] pos) (tMkO C pr dvs ta) := by
  intro pins s0 σ G W J w
  have vals := args.run pos pins s0 σ G _ J w
  refine wpAny_Call_Name_kw (ld_glob J gl at_ (PySem.W.callWith_K (h₀ := X.base) J.ok.mod.kin cls.kC (thn vals ?_) st pl) nd)
  rintro us ⟨hp, gens, dr, tk, os⟩ ⟨as, G1, J1, rel, few, wish⟩
  refine ⟨J1.kIn, ?_⟩
  show wpAny _ _ (PySem.call (.ref C) us) _ _ _
  obtain ⟨_, _, _, _, bm, _, _, _, _, _, _, _, _, _, _, look, tail⟩ := cls.cls
  obtain ⟨stays, J2⟩ := exc_laid (args := us) (C := C) J1
  have w1 := wish (hp.objs.size + 1) (J1.hok.fresh (Nat.le_succ hp.objs.size))
  have rel2 : Vals (V.ref (hp.objs.size + 1) :: (as ++ dvs)) (Value.ref (hp.objs.size + 1) :: (us ++ ds)) := .cons rfl (rel.append dv)
  have many : (Value.ref (hp.objs.size + 1) :: us ++ ds).length = ps.length := rel2.length.symm.trans (F.len _ _ _ _ w1)
  have run := F.run _ X.stack _ _ ⟨Value.ref (hp.objs.size + 1) :: us, []⟩ _ _ _ (fun _ _ _ => False) (make_guards.trans quiet) (room.make C us []) (J2.env0.make C us []) (bn _ (Value.ref (hp.objs.size + 1) :: us) J2.kIn many) rel2 w1
  have line : us.length ≤ sizeLine := Nat.le_trans (Nat.le_of_eq (Paired.length rel).symm) (Nat.le_trans few (by rw [sizeLine_eq]; decide))
  refine wpAny_call (PySem.HandSPX.call_own PySem.F.excBase_ValueError (fun Y => PySem.HandSPX.refsVE_contains Y bm tail) (J1.kIn _ _ look) (PySem.W.looks_findIn J1.kIn init) (fun self => PySem.W.bind_fn J1.kIn self isfn) line (codeAny_mono run ?_))
  rintro (er | fl) s3 z
  · exact pass pins σ _ _ er s3 J2 z
  · cases fl with
    | ret u =>
      obtain ⟨_, G3, same, bare, un, ok, none_, rfl, d, fs, at3, own, new, w3⟩ := z
      exact ⟨none_, mk_end (raises_own cls.exC cls.tyC) J1 (Nat.le_succ _) stays un ok same bare at3 own new w3⟩
    | _ => exact z.elim
end L2

/-! C(): an own exception without fields, whose __init__ says super().__init__(..) -/
namespace L2
open PySem PySem.Spec PyProof.Rows
section
variable {X : Cx}
/-- what happened after an exception object was laid at a, told of the heaps without a -/
theorem un_less {fs : List Addr} {H1 H2 : Hp} {hp hp2 h2 G : Heap} {a : Addr} {o : HO} (un : Un fs [] (upd H1 a o) H2 hp2 h2) (stays : ∀ b ob, hp.get? b = some ob → hp2.get? b = some ob) (above : hp.objs.size ≤ a) (new : H1 a = none) (same : ∀ b, b ≠ a → G.get? b = h2.get? b) : Un fs [] H1 (del H2 a) hp G := by
  have off : ∀ {b : Addr} {ob : Obj}, hp.get? b = some ob → b ≠ a := fun z e => absurd (Heap.lt_size z) (by rw [e]; exact Nat.not_lt.mpr above)
  have offH : ∀ {b : Addr} {t : HO}, H1 b = some t → b ≠ a := fun z e => by rw [e, new] at z; exact nomatch z
  have old : ∀ {b : Addr}, b ≠ a → upd H1 a o b = H1 b := fun z => upd_ne z
  constructor
  case keep => exact fun b ob z n p q => (same b (off z)).trans (un.keep b ob (stays b ob z) ((old (off z)).trans n) p q)
  case slot =>
    intro b ob z n p q
    obtain ⟨sl, r⟩ := un.slot b ob (stays b ob z) ((old (off z)).trans n) p q
    exact ⟨sl, (same b (off z)).trans r⟩
  case free => exact fun b ob z n q => (del_ne (off z)).trans (un.free b ob (stays b ob z) ((old (off z)).trans n) q)
  case there =>
    intro b ob z q
    obtain ⟨ob2, r⟩ := un.there b ob (stays b ob z) q
    exact ⟨ob2, (same b (off z)).trans r⟩
  case tups => exact fun b xs z => (del_ne (offH z)).trans (un.tups b xs ((old (offH z)).trans z))
  case frzs => exact fun b t v z => (del_ne (offH z)).trans (un.frzs b t v ((old (offH z)).trans z))
  case tbls =>
    intro b ps z
    obtain ⟨m, r⟩ := un.tbls b ps ((old (offH z)).trans z)
    exact ⟨m, (del_ne (offH z)).trans r⟩
/-- the tracked objects without the exception object -/
theorem hok_less {P : Program} {w : World} {H : Hp} {h G : Heap} {a C : Addr} (ok : HOk P w H h) (ea : H a = some (exo a C none)) (same : ∀ b, b ≠ a → G.get? b = h.get? b) : HOk P w (del H a) G := by
  intro b o z
  have nb : b ≠ a := by
    rintro rfl
    rw [del_same] at z
    exact nomatch z
  rw [del_ne nb] at z
  have own : ∀ {c : Addr}, H c = some (.own b) → c ≠ a := fun y => at_ne ea y exo_own
  refine (ok b o z).stay ?_ (fun c y => (del_ne (own y)).trans y) fun c xs y => (del_ne (at_ne ea y exo_tup)).trans y
  rintro c v (rfl | y) r
  · exact (same c nb).trans r
  · exact (same c (own y)).trans r
/-- C() -/
def tMkS0 (C : Addr) (sp : Sp) : St → Hp → XK → Prop := fun σ H Q => ∀ a, H a = none → sp [.ref a] (upd H a (exo a C none)) (fun v H2 => v = .non ∧ H2 a = some (exo a C none) ∧ Q (.ref C) none (del H2 a)) (fun _ _ _ => False)
/-- C is an own exception class over a built-in one -/
structure OexB (newId : String) (bmB : List Value) (K : PySem.W.Frag) (C : Addr) : Prop where
  cls : ∃ nm q N bs bm sn sub ab col dd k0 k1 k2 k3 k5, K.lookup C = some (excClassObj nm q C N bs bm true sn sub ab col dd k0 k1 k2 k3 k5 newId) ∧ refsTo bmB bm = true
  exc : PySem.W.subIn K (.ref C) (.type "BaseException") = some true ∧ PySem.W.typeIn K (.ref C) = some (.type "type") ∧ PySem.W.keepIn K (.ref C) = true
theorem pmk_sup0 {CX : CXT} {x : Str} {C g : Addr} {n : Nat} {fd : FuncData} {ps : List Str} {pr : Sp} {B newId initId : String} {bmB : List Value} {p pos : Pos} (FB : ExcBaseFacts B newId initId bmB) (cls : OexB newId bmB X.K C) (init : PySem.W.findIn X.K (.ref C) "__init__" = some (some (.ref g))) (isfn : PySem.W.typeIn X.K (.ref g) = some (.type "function"))
    (F : FnG X.prog X.w X.K X.mg X.base CX n g fd ps pr) (quiet : X.A.guards = some []) (room : Room (n + 1) X.A) (bn : Binds X.K fd ps []) (pass : Passes CX X (fun _ _ _ => False)) (gl : Gl X x) (at_ : X.mg x = some (.ref C))
    (nd : (x == ("__debug__" : Str)) = false := by decide) :
    PMk X (.Call (.Name x p) [] [] pos) (tMkS0 C pr) := by
  rintro pins ⟨hp, gens, dr, tk, os⟩ σ G W J w
  refine wpAny_Call_Name_kw (ld_glob J gl at_ (PySem.W.callWith_K0 J.kIn cls.exc.2.2 ?_) nd)
  change wpAny _ _ (PySem.call (.ref C) []) _ _ _
  obtain ⟨_, _, _, _, bm, _, _, _, _, _, _, _, _, _, _, look, tail⟩ := cls.cls
  obtain ⟨stays, J2⟩ := exc_laid (args := []) (C := C) J
  have unknown := J.hok.fresh (Nat.le_succ hp.objs.size)
  have w1 := w _ unknown
  have rel : Vals [V.ref (hp.objs.size + 1)] [Value.ref (hp.objs.size + 1)] := .cons rfl .nil
  have many : ([Value.ref (hp.objs.size + 1)] ++ []).length = ps.length := rel.length.symm.trans (F.len _ _ _ _ w1)
  have run := F.run _ X.stack _ _ ⟨[Value.ref (hp.objs.size + 1)], []⟩ _ _ _ (fun _ _ _ => False) (make_guards.trans quiet) (room.make C [] []) (J2.env0.make C [] []) (bn _ [Value.ref (hp.objs.size + 1)] J2.kIn many) rel w1
  refine wpAny_call (PySem.HandSPX.call_own FB (fun Y => refsTo_contains Y bm tail) (J.kIn _ _ look) (PySem.W.looks_findIn J.kIn init) (fun self => PySem.W.bind_fn J.kIn self isfn) (Nat.zero_le _) (codeAny_mono run ?_))
  rintro (er | fl) ⟨h3, gens3, dr3, tk3, os3⟩ z
  · exact pass pins σ _ _ er _ J2 z
  · cases fl with
    | ret u =>
      obtain ⟨_, G3, same, bare, un, ok, none_, rfl, ea, w3⟩ := z
      obtain ⟨_, obj⟩ := exo_at ok ea
      obtain ⟨h4, rest, gone⟩ := restrict h3 fun b => decide (b ≠ hp.objs.size + 1)
      have alike : ∀ b, b ≠ hp.objs.size + 1 → h4.get? b = h3.get? b := fun b nb => rest b (decide_eq_true nb)
      have lost : h4.get? (hp.objs.size + 1) = none := gone _ (by simp)
      have J4 := J.call' (ch := []) (s' := ⟨h4, gens3, dr3, tk3, os3⟩) same (un_less un stays (Nat.le_succ _) unknown alike) (hok_less ok ea alike) bare (fun b y => absurd y (by simp))
      have back : ∀ b o, h4.get? b = some o → h3.get? b = some o := by
        intro b o y
        rcases Nat.decEq b (hp.objs.size + 1) with nb | rfl
        · exact (alike b nb).symm.trans y
        · rw [lost] at y
          exact nomatch y
      exact ⟨none_, _, _, _, _, _, .ref C, none, rfl, J4, back, lost, obj, ⟨rfl, rfl⟩, rfl, rfl, del_same, rfl, bare, raises_own cls.exc.1 cls.exc.2.1, w3⟩
    | _ => exact z.elim
end
end L2

/-! repr of lists whose elements have a __repr__ of their own. -/
namespace L2
open PySem PySem.Spec PyProof.Rows
theorem rl_depth {A : Around} {args : Args} : (A.under (.builtin "list.__repr__.loop" args)).depth ≤ A.depth + 1 := by
  first | exact Nat.le_of_eq rfl | simp [Around.under, Code.weight, Code.isCreation, Code.isGuard, Code.isCaller, Code.frames, Code.isFrame, guardIds]
theorem rl_units {A : Around} {args : Args} : (A.under (.builtin "list.__repr__.loop" args)).units ≤ A.units + 1 := by
  first | exact Nat.le_of_eq rfl | simp [Around.under, Code.cUnits, Code.frames, Code.isFrame]
theorem rl_frames {A : Around} {args : Args} : (A.under (.builtin "list.__repr__.loop" args)).frames = A.frames := by
  first | rfl | simp [Around.under, Code.envs, Code.isFrame, pushEnvs]
theorem rl_handled {A : Around} {args : Args} : (A.under (.builtin "list.__repr__.loop" args)).handled = A.handled := by
  first | rfl | simp [Around.under]
theorem Room.rl {k : Nat} {A : Around} (r : Room (k + 1) A) (args : Args) : Room k (A.under (.builtin "list.__repr__.loop" args)) :=
  ⟨by rw [rl_handled]; exact r.hd, by have := r.dp; have := @rl_depth A args; omega, by have := r.un; have := @rl_units A args; omega⟩
/-- v is shown as t, wherever there is room; J holds of the heap before and behind -/
def Sh (X : Cx) (k : Nat) (J : Hp → Prop) (v : V) (t : Str) : Prop :=
  ∀ (A' : Around) (pins : List (Addr × Obj)) (s : Shared) (σ : St) (H : Hp) (u : Value) (b : Nat) (E : Value → Shared → Prop) (Q : Str → Shared → Prop), A'.frames = some X.stack → Room k A' → Inv X pins σ H s → J H → RelV v u → b + t.length ≤ sizeLine →
    (∀ s' H', Inv X pins σ H' s' → J H' → Q t s') → wpAny (model X.prog X.w) A' (pyReprUnder b u) Q E s
theorem Sh.mono {X : Cx} {j k : Nat} {J : Hp → Prop} {v : V} {t : Str} (S : Sh X j J v t) (h : j ≤ k) : Sh X k J v t := fun A' pins s σ H u b E Q hf hr => S A' pins s σ H u b E Q hf (hr.mono h)
section
variable {X : Cx} {k : Nat} {J : Hp → Prop}
theorem sh_int {i : Int} (hi : i.natAbs.log2 < 1920) : Sh X k J (.int i) (toString i) := by
  intro A' pins s σ H u b E Q hf hr I j r hb q
  obtain ⟨t, rfl⟩ := r
  exact ReprIs.int t hi b hb A' E s Q fun tk => q _ H (I.tok tk) j
/-- an instance that has its own __repr__ -/
theorem sh_own {C g a : Addr} {sp : Sp} {t : Str} (hs : PySem.W.findIn X.K (.ref C) "__repr__" = some (some (.ref g))) (hf : PySem.W.isFn X.K (.ref g) = true) (F : FnR X.prog X.w X.K X.mg X.base CX0 k g sp)
    (hi : ∀ H, J H → ∃ dx fs, H a = some (.ins C dx fs)) (hsp : ∀ H, J H → sp [.ref a] H (fun r H' => r = .str t ∧ J H') E0) : Sh X k J (.ref a) t := by
  intro A' pins s σ H u b E Q hfr hr I j r hb q
  obtain rfl : u = Value.ref a := r
  obtain ⟨dx, fs, ha⟩ := hi H j
  obtain ⟨mA, M, _⟩ := ins_get I.hok ha
  obtain ⟨od, It, _⟩ := M.look
  refine wpAny_pyReprUnder_ref (by omega) ?_
  unfold pyReprObjUnder pyReprObjBy
  refine wpAny_bind (wpAny_cRoomFor hr.units0 ?_)
  refine wpAny_bind (wpAny_bind (It.type.here ((PySem.W.looks_findIn I.kIn hs).here ?_)))
  show wpAny _ _ (if (some (Value.ref g)).isNone = true then _ else _) _ _ _
  rw [if_neg (by simp)]
  have hcall : wpAny (model X.prog X.w) A' (call (.ref g) [.ref a]) (fun v s' => ∃ y tk, v = .str y tk ∧ Q y s') E s := by
    refine wpAny_call (codeAny_mono (F A' X.stack s H [.ref a] [.ref a] _ E0 hr ⟨hfr, I.env0.mod, I.env0.bs, I.env0.bsz, I.env0.funs, I.env0.frf, I.env0.hok, I.env0.bare⟩ (.cons rfl .nil) (hsp H j)) fun r s' hq => ?_)
    cases r with
    | error e => exact False.elim hq
    | ok fl =>
      cases fl with
      | ret u =>
        obtain ⟨v, H', I', rv, ev, j'⟩ := I.after hq
        subst ev
        obtain ⟨tk, rfl⟩ := rv
        exact ⟨t, tk, rfl, q _ _ I' j'⟩
      | next => exact False.elim hq
      | brk => exact False.elim hq
      | cont => exact False.elim hq
  refine wpAny_bind (m := callSpecialIfBoundBy? _ (.ref a) (Str.ofString "__repr__")) ?_
  simp only [callSpecialIfBoundBy?, bindSpecialIfBound?]
  refine wpAny_holding (wpAny_bind (wpAny_bind (wpAny_bind (It.type.here ((PySem.W.looks_findIn I.kIn hs).here ?_)))))
  refine wpAny_bind (wpAny_askSetting (wpAny_ite ?_))
  have fin : ∀ {Q' : Option Value → Shared → Prop}, (∀ y tk s', Q y s' → Q' (some (.str y tk)) s') → wpAny (model X.prog X.w) A' (call (.ref g) ([.ref a] ++ []) >>= fun v => pure (some v)) Q' E s := fun {Q'} hq => wpAny_bind (wpAny_mono hcall (fun v s' ⟨y, tk, e, h'⟩ => by subst e; exact wpAny_pure (hq y tk s' h')) fun _ _ h' => h')
  have fin2 : ∀ y tk s', Q y s' → wpAny (model X.prog X.w) A' (do if ← isInstance (.str y tk) (.type "str") then pure (Value.str y tk) else raiseError "TypeError" s!"__repr__ returned non-string (type {← typeNameOf (.str y tk)})") (fun v s' => ∃ x u, v = .str x u ∧ Q x s') E s' := fun y tk s' h => by
    refine wpAny_bind (wpAny_isInstance (T := "str") (b := true) rfl isSubtype_str_str ?_)
    exact wpAny_pure ⟨y, tk, rfl, h⟩
  split
  · exact wpAny_bind ((PySem.W.bind_fn I.kIn _ (beq_iff_eq.mp hf)).here (wpAny_pure (fin fin2)))
  · exact wpAny_tryCatch (wpAny_bind ((PySem.W.bind_fn I.kIn _ (beq_iff_eq.mp hf)).here (wpAny_pure (fin fin2))))
end
end L2

namespace L2
open PySem PySem.Spec PyProof.Rows
theorem in1_depth {A : Around} : A.in1.depth ≤ A.depth + 1 := by
  first | exact Nat.le_of_eq rfl | exact Nat.le_succ _ | simp [Around.in1]
theorem Room.in1' {k : Nat} {A : Around} (r : Room (k + 1) A) : Room k A.in1 :=
  ⟨r.hd, by have := r.dp; have := @in1_depth A; omega, by have := r.un; have e : A.in1.units = A.units + 1 := rfl; omega⟩
section
variable {X : Cx} {k : Nat} {J : Hp → Prop}
/-- repr(x), x an instance with its own __repr__ -/
theorem call_reprO {C g : Addr} {sp : Sp} {E : XK} (hs : PySem.W.findIn X.K (.ref C) "__repr__" = some (some (.ref g))) (hf : PySem.W.isFn X.K (.ref g) = true) (F : FnR X.prog X.w X.K X.mg X.base CX0 k g sp) (hr : Room (k + 1) X.A) :
    CallR X (.builtin "repr") (fun us H Q => ∃ a dx fs, us = [.ref a] ∧ H a = some (.ins C dx fs) ∧ sp [.ref a] H (fun v H' => ∃ t, v = .str t ∧ Q (.str t) H') E0) := by
  rintro pins s σ H _ us Q I r ⟨a, dx, fs, rfl, ha, q⟩
  rcases vals1 r with ⟨_, rfl, rfl⟩
  have M := (ins_get I.hok ha).choose_spec.1
  obtain ⟨od, It, _⟩ := M.look
  obtain ⟨m, hF⟩ := I.fr
  refine PySem.W.repr_K (by have := hr.un; show X.A.units + 1 < cLine; omega) hF I.ok.mod.kin It hs hf ?_
  have run := F X.A.in1 X.stack s H [.ref a] [.ref a] _ E0 hr.in1' I.env0.in1 (show Vals [V.ref a] [Value.ref a] from .cons rfl .nil) q
  refine wpAny_call (codeAny_mono run ?_)
  rintro (er | fl) s1 z
  · exact False.elim z
  · cases fl with
    | ret u =>
      obtain ⟨_, H1, J1, rv, t, rfl, w⟩ := I.after z
      obtain ⟨tk, rfl⟩ := rv
      exact ⟨.str t, H1, J1, ⟨tk, rfl⟩, w⟩
    | _ => exact False.elim z
end
end L2

/-! x op y, x == y, x != y, str(x): x an instance with own methods, y an instance, an int or a text. -/
namespace L2
open PySem PySem.Spec PyProof.Rows
section
variable {X : Cx} {k : Nat} {pins : List (Addr × Obj)} {σ : St} {H : Hp} {s : Shared}
theorem run_fnA {A' : Around} {f : Addr} {sp : Sp} {Q : VK} {us : List Value} {vs : List V} {E : Value → Shared → Prop} (F : FnR X.prog X.w X.K X.mg X.base CX0 k f sp) (hf : A'.frames = some X.stack) (hr : Room k A') (I : Inv X pins σ H s) (r : Vals vs us) (h : sp vs H Q E0) :
    wpAny (model X.prog X.w) A' (call (.ref f) us) (EP X pins σ Q) E s := by
  refine wpAny_call (codeAny_mono (F A' X.stack s H us vs Q E0 hr ⟨hf, I.env0.mod, I.env0.bs, I.env0.bsz, I.env0.funs, I.env0.frf, I.env0.hok, I.env0.bare⟩ r h) fun r s' hq => ?_)
  cases r with
  | error e => exact False.elim hq
  | ok fl =>
    cases fl with
    | ret u => exact I.after hq
    | next => exact False.elim hq
    | brk => exact False.elim hq
    | cont => exact False.elim hq
/-- the right side: an instance of C, an int, a text -/
inductive Side (C : Addr) (H : Hp) : V → Value → Prop where
  | ins {b dy : Addr} {gs : List (Str × V)} (h : H b = some (.ins C dy gs)) : Side C H (.ref b) (.ref C)
  | int (i : Int) : Side C H (.int i) (.type "int")
  | str (t : Str) : Side C H (.str t) (.type "str")
theorem Side.look {C : Addr} {y : V} {u tb : Value} (d : Side C H y tb) (I : Inv X pins σ H s) (r : RelV y u) : PySem.W.Looks (model X.prog X.w) s.heap (typeOf u) tb := by
  cases d with
  | ins h =>
    obtain rfl : u = Value.ref _ := r
    obtain ⟨mA, M, _⟩ := ins_get I.hok h
    obtain ⟨od, J, _⟩ := M.look
    exact J.type
  | int i =>
    obtain ⟨t, rfl⟩ := r
    exact PySem.W.Looks.of_pure rfl
  | str x =>
    obtain ⟨t, rfl⟩ := r
    exact PySem.W.Looks.of_pure rfl
/-- x op y, y an instance or an int -/
def rOwnM (C : Addr) (sp : Sp) : R2 := fun x y H Q => ∃ a dx fs, x = .ref a ∧ H a = some (.ins C dx fs) ∧ ((∃ b dy gs, y = .ref b ∧ H b = some (.ins C dy gs)) ∨ ∃ i, y = .int i) ∧ sp [x, y] H Q E0
theorem op_ownM {C g : Addr} {op : Operator} {sp : Sp} {fo ro : Option Value} (hc : PySem.W.selfFirst X.K C = true) (hs : PySem.W.findIn X.K (.ref C) (PySem.dunder op.info.2) = some (some (.ref g))) (hf : PySem.W.isFn X.K (.ref g) = true)
    (hr2 : PySem.W.findIn X.K (.ref C) (dunderR op.info.2) = some none) (h1 : PySem.W.findIn X.K (.type "int") (PySem.dunder op.info.2) = some fo) (h2 : PySem.W.findIn X.K (.type "int") (dunderR op.info.2) = some ro) (hsub : PySem.W.subIn X.K (.type "int") (.ref C) = some false)
    (F : FnR X.prog X.w X.K X.mg X.base CX0 k g sp) (hr : Room k X.A) : OpR X (binaryOp op) (rOwnM C sp) := by
  intro pins s σ H x y v u Q I rx ry h
  obtain ⟨a, dx, fs, rfl, ha, hy, q⟩ := h
  cases (show v = Value.ref a from rx)
  obtain ⟨mA, M, _⟩ := ins_get I.hok ha
  obtain ⟨od, J, _⟩ := M.look
  obtain ⟨m, hF⟩ := I.fr
  have run : wpAny (model X.prog X.w) X.A (call (.ref g) [.ref a, u]) (PySem.W.CmpBack (EP X pins σ Q)) X.xe s := by
    refine wpAny_mono (run_fnA (vs := [.ref a, y]) F I.ok.frames hr I (.cons rfl (.cons ry .nil)) q) (fun w s' z => ?_) fun _ _ x => x
    obtain ⟨z', H', I', rz, qz⟩ := z
    exact SlX.cmpback rz ⟨z', H', I', rz, qz⟩
  rcases hy with ⟨b, dy, gs, rfl, hb⟩ | ⟨i, rfl⟩
  · cases (show u = Value.ref b from ry)
    obtain ⟨mB, M', _⟩ := ins_get I.hok hb
    obtain ⟨od', J', _⟩ := M'.look
    exact PySem.W.binop_K hF I.ok.mod.kin J J'.type hc hs hf run
  · obtain ⟨t, rfl⟩ := ry
    exact PySem.W.ksp_binT (T := "int") hF I.ok.mod.kin J rfl hc hs hf hr2 (.inl rfl) h1 h2 hsub run
/-- what the own __eq__ is asked -/
def rOwnEq (C : Addr) (sp : Sp) (neg : Bool) : R2 := fun x y H Q => ∃ a dx fs tb, x = .ref a ∧ H a = some (.ins C dx fs) ∧ Side C H y tb ∧ sp [x, y] H (fun v H' => ∃ b, v = .bl b ∧ Q (.bl (xor neg b)) H') E0
theorem op_ownEq {C g : Addr} {sp : Sp} (hs : PySem.W.findIn X.K (.ref C) "__eq__" = some (some (.ref g))) (hf : PySem.W.isFn X.K (.ref g) = true) (hi : PySem.W.notFirst X.K C (.type "int") = true) (hst : PySem.W.notFirst X.K C (.type "str") = true)
    (F : FnR X.prog X.w X.K X.mg X.base CX0 k g sp) (hr : Room k X.A) : OpR X (compareOp .Eq) (rOwnEq C sp false) := by
  intro pins s σ H x y v u Q I rx ry h
  obtain ⟨a, dx, fs, tb, rfl, ha, hy, q⟩ := h
  cases (show v = Value.ref a from rx)
  obtain ⟨mA, M, _⟩ := ins_get I.hok ha
  obtain ⟨od, J, _⟩ := M.look
  obtain ⟨m, hF⟩ := I.fr
  have hn : PySem.W.notFirst X.K C tb = true := by
    cases hy with
    | ins _ => unfold PySem.W.notFirst; simp
    | int _ => exact hi
    | str _ => exact hst
  show wpAny _ _ (richCompare .Eq (.ref a) u) _ _ _
  refine PySem.W.cmp_K hr.units0 hF I.ok.mod.kin J (hy.look I ry) hn hs hf ?_
  refine wpAny_mono (run_fnA (vs := [.ref a, y]) F I.ok.frames hr I (.cons rfl (.cons ry .nil)) q) (fun w s' z => ?_) fun _ _ x => x
  obtain ⟨z', H', I', rz, b, rfl, qz⟩ := z
  obtain rfl : w = Value.bool b := rz
  exact ⟨.bl b, H', I', rfl, by rw [Bool.false_xor] at qz; exact qz⟩
theorem op_ownNe {C g : Addr} {sp : Sp} (hs : PySem.W.findIn X.K (.ref C) "__eq__" = some (some (.ref g))) (hf : PySem.W.isFn X.K (.ref g) = true) (hne : PySem.W.findIn X.K (.ref C) "__ne__" = some (some (.builtin "object.__ne__"))) (hm : PySem.W.mroIn X.K C (.type "object") = some true)
    (hi : PySem.W.notFirst X.K C (.type "int") = true) (hst : PySem.W.notFirst X.K C (.type "str") = true)
    (F : FnR X.prog X.w X.K X.mg X.base CX0 k g sp) (hr : Room (k + 1) X.A) : OpR X (compareOp .NotEq) (rOwnEq C sp true) := by
  intro pins s σ H x y v u Q I rx ry h
  obtain ⟨a, dx, fs, tb, rfl, ha, hy, q⟩ := h
  cases (show v = Value.ref a from rx)
  obtain ⟨mA, M, _⟩ := ins_get I.hok ha
  obtain ⟨od, J, _⟩ := M.look
  have hn : PySem.W.notFirst X.K C tb = true := by
    cases hy with
    | ins _ => unfold PySem.W.notFirst; simp
    | int _ => exact hi
    | str _ => exact hst
  have one : wpAny (model X.prog X.w) X.A (tryCompare (.ref a) "__ne__" u) (fun r s' => ∃ v, r = some v ∧ EP X pins σ Q v s') X.xe s := by
    unfold tryCompare
    have hc : wpAny (model X.prog X.w) X.A (call (.builtin "object.__ne__") [.ref a, u]) (fun v s' => ∃ b, v = .bool b ∧ EP X pins σ Q (.bool b) s') X.xe s := by
      refine wpAny_call (codeAny_call_builtin PySem.F.cmp_object.ne.plain PySem.F.cmpEntry_ne (PySem.W.check_slot PySem.F.cmpKind_ne PySem.F.cmpSplit_ne (J.type.andThen (PySem.W.looks_mroIn I.kIn hm)) (PySem.F.cmpArgs_ne _ _) ?_))
      unfold Builtin.«object.__ne__»
      refine wpAny_bind (m := slotArgs "__ne__" 1 _) (wpAny_pure ?_)
      refine wpAny_bind (m := cRoomFor _ _) (wpAny_cRoomFor (by have := hr.un; show X.A.units + 1 < cLine; omega) ?_)
      refine wpAny_bind (m := callSpecialIfBound? (.ref a) (Str.ofString "__eq__") [u]) (PySem.W.ifBound_K I.kIn J hs hf (wpAny_mono (run_fnA (A' := X.A.in1) (vs := [.ref a, y]) F I.ok.frames hr.in1 I (.cons rfl (.cons ry .nil)) q) (fun w s' z => ?_) fun _ _ x => x))
      obtain ⟨z', H', I', rz, b, rfl, qz⟩ := z
      obtain rfl : w = Value.bool b := rz
      refine wpAny_bind (m := truthy (.bool b)) (wpAny_truthy_bool (wpAny_pure ⟨_, rfl, .bl (!b), H', I', rfl, by rw [Bool.true_xor] at qz; exact qz⟩))
    refine wpAny_bind (m := callSpecialIfBound? (.ref a) (Str.ofString "__ne__") [u]) ?_
    simp only [callSpecialIfBound?, bindSpecialIfBound?]
    refine wpAny_holding (wpAny_bind (wpAny_bind (wpAny_bind (J.type.here ((PySem.W.looks_findIn I.kIn hne).here ?_)))))
    simp only [PySem.F.cmp_object.ne.bind]
    refine wpAny_bind (wpAny_askSetting (wpAny_ite ?_))
    have fin : ∀ {Q' : Option Value → Shared → Prop}, (∀ b s', EP X pins σ Q (.bool b) s' → Q' (some (.bool b)) s') → wpAny (model X.prog X.w) X.A (call (.builtin "object.__ne__") ([.ref a] ++ [u]) >>= fun v => pure (some v)) Q' X.xe s := fun {Q'} hq => wpAny_bind (wpAny_mono hc (fun v s' ⟨b, e, h'⟩ => by subst e; exact wpAny_pure (hq b s' h')) fun _ _ h' => h')
    split
    · exact wpAny_bind (wpAny_pure (wpAny_pure (fin fun b s' h' => wpAny_pure ⟨_, rfl, h'⟩)))
    · exact wpAny_tryCatch (wpAny_bind (wpAny_pure (wpAny_pure (fin fun b s' h' => wpAny_pure ⟨_, rfl, h'⟩))))
  have apart : (Value.ref C != tb) = true → PySem.W.subIn X.K tb (.ref C) = some false := fun z => by
    rcases Bool.or_eq_true_iff.mp hn with y | y
    · exact absurd (beq_iff_eq.mp y) (by intro e; rw [e] at z; simp at z)
    · exact beq_iff_eq.mp y
  show wpAny _ _ (richCompare .NotEq (.ref a) u) _ _ _
  simp only [richCompare, oneThing_ref, cmpInfo_NotEq]
  refine wpAny_holding (wpAny_bind (wpAny_cRoomFor hr.units0 (wpAny_bind (J.type.here (wpAny_bind ((hy.look I ry).here ?_))))))
  by_cases z : (Value.ref C != tb) = true
  · rw [if_pos z]
    exact wpAny_bind ((PySem.W.looks_subIn I.kIn (apart z)).here (wpAny_bind (wpAny_mono one (fun _ _ ⟨_, e, y⟩ => by subst e; exact wpAny_pure y) fun _ _ y => y)))
  · rw [if_neg z]
    first
      | exact wpAny_bind (wpAny_pure (wpAny_bind (wpAny_mono one (fun _ _ ⟨_, e, y⟩ => by subst e; exact wpAny_pure y) fun _ _ y => y)))
      | exact wpAny_bind (wpAny_mono one (fun _ _ ⟨_, e, y⟩ => by subst e; exact wpAny_pure y) fun _ _ y => y)
/-- str(x) by the own __str__ -/
theorem call_strO {C g : Addr} {sp : Sp} (hs : PySem.W.findIn X.K (.ref C) "__str__" = some (some (.ref g))) (hf : PySem.W.isFn X.K (.ref g) = true) (F : FnR X.prog X.w X.K X.mg X.base CX0 k g sp) (hr : Room (k + 2) X.A) :
    CallR X (.type "str") (fun us H Q => ∃ a dx fs, us = [.ref a] ∧ H a = some (.ins C dx fs) ∧ sp [.ref a] H (fun v H' => ∃ t, v = .str t ∧ Q (.str t) H') E0) := by
  rintro pins s σ H _ us Q I r ⟨a, dx, fs, rfl, ha, q⟩
  rcases vals1 r with ⟨_, rfl, rfl⟩
  have M := (ins_get I.hok ha).choose_spec.1
  obtain ⟨od, It, _⟩ := M.look
  refine PySem.W.kso_call (by have := hr.un; show X.A.units + 1 + 1 < cLine; omega) I.kIn It hs hf ?_
  refine wpAny_mono (run_fnA (A' := X.A.in1.in1) (vs := [.ref a]) F I.ok.frames hr.in1.in1 I (.cons rfl .nil) q) (fun w s' z => ?_) fun _ _ x => x
  obtain ⟨z', H', I', rz, t, rfl, qz⟩ := z
  obtain ⟨tk, rfl⟩ := rz
  exact ⟨.str t, H', I', ⟨tk, rfl⟩, qz⟩
end
end L2

/-! How values are shown, wherever a repr may be under way: B, the containers that must not be under way. -/
namespace L2
open PySem PySem.Spec PyProof.Rows
def Clr (g : List Code) (B : Addr → Prop) : Prop := ∀ c, B c → Clear g c
theorem Clr.nil (B : Addr → Prop) : Clr [] B := fun c _ => Clear.nil c
/-- v is shown as t: within a container, by !r, by repr(..); J holds of the heap before and behind -/
structure Sg (X : Cx) (k : Nat) (J : Hp → Prop) (B : Addr → Prop) (v : V) (t : Str) : Prop where
  under : ∀ (A' : Around) (g : List Code) (pins : List (Addr × Obj)) (s : Shared) (σ : St) (H : Hp) (u : Value) (b : Nat) (E : Value → Shared → Prop) (Q : Str → Shared → Prop), A'.frames = some X.stack → A'.guards = some g → Clr g B → Room k A' → Inv X pins σ H s → J H → RelV v u → b + t.length ≤ sizeLine →
    (∀ s' H', Inv X pins σ H' s' → J H' → Q t s') → wpAny (model X.prog X.w) A' (pyReprUnder b u) Q E s
  obj : ∀ (A' : Around) (g : List Code) (pins : List (Addr × Obj)) (s : Shared) (σ : St) (H : Hp) (u : Value) (E : Value → Shared → Prop) (Q : Value → Shared → Prop), A'.frames = some X.stack → A'.guards = some g → Clr g B → Room k A' → Inv X pins σ H s → J H → RelV v u → t.length ≤ sizeLine →
    (∀ s' H' tk, Inv X pins σ H' s' → J H' → Q (.str t tk) s') → wpAny (model X.prog X.w) A' (pyReprObj u) Q E s
  call : ∀ (A' : Around) (g : List Code) (pins : List (Addr × Obj)) (s : Shared) (σ : St) (H : Hp) (u : Value) (E : Value → Shared → Prop) (Q : Value → Shared → Prop), A'.frames = some X.stack → A'.guards = some g → Clr g B → Room (k + 1) A' → Inv X pins σ H s → J H → RelV v u → t.length ≤ sizeLine →
    (∀ s' H' tk, Inv X pins σ H' s' → J H' → Q (.str t tk) s') → wpAny (model X.prog X.w) A' (PySem.call (.builtin "repr") [u]) Q E s
theorem Sg.mono {X : Cx} {j k : Nat} {J : Hp → Prop} {B B' : Addr → Prop} {v : V} {t : Str} (S : Sg X j J B v t) (h : j ≤ k) (hB : ∀ b, B b → B' b) : Sg X k J B' v t :=
  ⟨fun A' g pins s σ H u b E Q hf hg hc hr => S.under A' g pins s σ H u b E Q hf hg (fun c hc' => hc c (hB c hc')) (hr.mono h), fun A' g pins s σ H u E Q hf hg hc hr => S.obj A' g pins s σ H u E Q hf hg (fun c hc' => hc c (hB c hc')) (hr.mono h),
   fun A' g pins s σ H u E Q hf hg hc hr => S.call A' g pins s σ H u E Q hf hg (fun c hc' => hc c (hB c hc')) (hr.mono (Nat.succ_le_succ h))⟩
section
variable {X : Cx} {k : Nat} {J : Hp → Prop} {B : Addr → Prop}
theorem sg_int {i : Int} (hi : i.natAbs.log2 < 1920) : Sg X k J B (.int i) (toString i) :=
  ⟨fun A' g pins s σ H u b E Q hf hg hc hr I j r hb q => by
    obtain ⟨t, rfl⟩ := r
    exact ReprIs.int t hi b hb A' E s Q fun tk => q _ H (I.tok tk) j,
  fun A' g pins s σ H u E Q hf hg hc hr I j r hb q => by
    obtain ⟨t, rfl⟩ := r
    exact pyReprObj_int hi (q _ H _ (I.tok _) j),
  fun A' g pins s σ H u E Q hf hg hc hr I j r hb q => by
    obtain ⟨t, rfl⟩ := r
    exact PySem.P.repr_of_int hi (q _ H _ (I.tok _) j)⟩
theorem sg_str {x : Str} (hx : (reprText x).length ≤ sizeLine) : Sg X k J B (.str x) (reprText x) :=
  ⟨fun A' g pins s σ H u b E Q hf hg hc hr I j r hb q => by
    obtain ⟨t, rfl⟩ := r
    exact ReprIs.str x t hx b hb A' E s Q fun tk => q _ H (I.tok tk) j,
  fun A' g pins s σ H u E Q hf hg hc hr I j r hb q => by
    obtain ⟨t, rfl⟩ := r
    exact pyReprObj_str (q _ H _ (I.tok _) j) hx,
  fun A' g pins s σ H u E Q hf hg hc hr I j r hb q => by
    obtain ⟨t, rfl⟩ := r
    exact PySem.P.repr_of_str (q _ H _ (I.tok _) j) hx⟩
theorem sg_bl {x : Bool} : Sg X k J B (.bl x) (if x then "True" else "False") :=
  ⟨fun A' g pins s σ H u b E Q hf hg hc hr I j r hb q => by
    obtain rfl : u = Value.bool x := r
    exact ReprIs.bool x b hb A' E s Q fun tk => q _ H (I.tok tk) j,
  fun A' g pins s σ H u E Q hf hg hc hr I j r hb q => by
    obtain rfl : u = Value.bool x := r
    exact pyReprObj_bool (q _ H _ (I.tok _) j),
  fun A' g pins s σ H u E Q hf hg hc hr I j r hb q => by
    obtain rfl : u = Value.bool x := r
    exact PySem.P.repr_of_bool (q _ H _ (I.tok _) j)⟩
theorem sg_non : Sg X k J B .non "None" :=
  ⟨fun A' g pins s σ H u b E Q hf hg hc hr I j r hb q => by
    obtain rfl : u = Value.none := r
    exact ReprIs.none b hb A' E s Q fun tk => q _ H (I.tok tk) j,
  fun A' g pins s σ H u E Q hf hg hc hr I j r hb q => by
    obtain rfl : u = Value.none := r
    exact pyReprObj_none (q _ H _ (I.tok _) j),
  fun A' g pins s σ H u E Q hf hg hc hr I j r hb q => by
    obtain rfl : u = Value.none := r
    exact PySem.P.repr_of_none (q _ H _ (I.tok _) j)⟩
/-- the empty list -/
theorem sg_nil {a : Addr} (hJ : ∀ H, J H → H a = some (.lst [])) : Sg X k J B (.ref a) "[]" :=
  ⟨fun A' g pins s σ H u b E Q hf hg hc hr I j r hb q => by
    obtain rfl : u = Value.ref a := r
    obtain ⟨_, its, nn, rv, ha⟩ := (show ObjOk X.prog X.w H s.heap a (.lst []) from I.hok a _ (hJ H j))
    cases rv
    exact wpAny_pyReprUnder_ref (by omega) (wpAny_pyReprObjUnder_list_empty ⟨_, ha, rfl⟩ hr.units0 ha rfl ⟨_, _, rfl, q _ H (I.tok _) j⟩),
  fun A' g pins s σ H u E Q hf hg hc hr I j r hb q => by
    obtain rfl : u = Value.ref a := r
    obtain ⟨_, its, nn, rv, ha⟩ := (show ObjOk X.prog X.w H s.heap a (.lst []) from I.hok a _ (hJ H j))
    cases rv
    exact wpAny_pyReprObj_list_empty ⟨_, ha, rfl⟩ hr.units0 ha rfl (q _ H _ (I.tok _) j),
  fun A' g pins s σ H u E Q hf hg hc hr I j r hb q => by
    obtain rfl : u = Value.ref a := r
    obtain ⟨_, its, nn, rv, ha⟩ := (show ObjOk X.prog X.w H s.heap a (.lst []) from I.hok a _ (hJ H j))
    cases rv
    exact call_repr_slot (by have := hr.un; omega) ⟨_, ha, rfl⟩ F.slot_list_repr.toG (call_list_repr_empty ⟨_, ha, rfl⟩ ha rfl ⟨_, _, rfl, q _ H _ (I.tok _) j⟩)⟩
end
end L2

namespace L2
open PySem PySem.Spec PyProof.Rows
abbrev lobj (acc : Array Value) (c : Nat) : Obj := { cls := .type "list", dict := none, data := .seq acc c, slots := #[] }
/-- a shown list bounds its length and its items' texts -/
theorem shown_in_line {xs : List V} {ts : List Str} (same : ts.length = xs.length) (fits : (listText ts).length ≤ sizeLine) : xs.length ≤ sizeLine ∧ ∀ t ∈ ts, t.length ≤ sizeLine := by
  obtain ⟨all, each, _⟩ := textFrom_len ts 0 "["
  have whole : (listText ts).length = (textFrom 0 "[" ts).length + 1 := strLen_append _ _
  have none_ : ¬ (0 : Nat) > 0 := by decide
  simp only [none_, if_false] at all
  exact ⟨by omega, fun t ht => Nat.le_trans (each t ht) (by omega)⟩
section
variable {X : Cx} {k : Nat} {J : Hp → Prop} {B : Addr → Prop}
theorem rg_run {A : Around} {g : List Code} {R : Result → Shared → Prop} {a P : Addr} {xs : List V} {ts : List Str} {b : Nat} {pins : List (Addr × Obj)} {σ : St} (hfr : A.frames = some X.stack) (hg : A.guards = some g) (hcl : Clr g B) (hna : ¬ B a) (hr : Room (k + 1) A) (hJ : ∀ H, J H → H a = some (.lst xs))
    (hlen : ts.length = xs.length) (hT : ∀ (i : Nat) (v : V), xs[i]? = some v → ∃ t, ts[i]? = some t ∧ Sg X k J B v t) (hsz : b + (listText ts).length ≤ sizeLine)
    (hP1 : X.s_0.heap.objs.size ≤ P) (hP2 : ∀ p ∈ X.pn ++ pins, p.1 ≠ P)
    (hR : ∀ s' H' u, Inv X pins σ H' s' → J H' → R (.ok (.ret (.str (listText ts) u))) s') :
    ∀ (n i : Nat) (s : Shared) (H : Hp) (acc : Array Value) (c : Nat) (done : List (Str × Tok)), xs.length - i = n → i ≤ xs.length → Inv X ((P, lobj acc c) :: pins) σ H s → J H → acc.toList = strValues done → done.map (·.1) = ts.take i →
    codeAny (model X.prog X.w) A (.builtin "list.__repr__.loop" ⟨[.ref a, rawInt i, .ref P, rawInt ((b + piled (ts.take i) : Nat) : Int)], []⟩) R s := by
  obtain ⟨hsz1, hsz2⟩ := shown_in_line hlen (Nat.le_trans (Nat.le_add_left _ _) hsz)
  have hsz3 : (listText ts).length ≤ sizeLine := by omega
  have hp3 := piled_le_listText ts
  have drop : ∀ {acc : Array Value} {c : Nat} {H : Hp} {s : Shared}, Inv X ((P, lobj acc c) :: pins) σ H s → Inv X pins σ H s := fun I => I.pins_of fun p hp => I.pin p (List.mem_append_right _ (List.mem_cons_of_mem _ hp))
  intro n
  induction n with
  | zero =>
    intro i s H acc c done hk hi I j hacc hdone
    have hin : i = xs.length := by omega
    obtain ⟨_, its, nn, rv, ha⟩ := (show ObjOk X.prog X.w H s.heap a (.lst xs) from I.hok a _ (hJ H j))
    have hlv := rv.length
    obtain ⟨hPo, hPn, hPl, hPf, _⟩ := I.pin (P, lobj acc c) (List.mem_append_right _ List.mem_cons_self)
    refine codeAny_builtin F.entry_list_repr_loop ?_
    show wpAny _ _ (Builtin.«list.__repr__.loop» ⟨[.ref a, .int i 0, .ref P, .int ((b + piled (ts.take i) : Nat) : Int) 0], []⟩) _ _ s
    rw [repr_loop_tree]
    refine wpAny_bind (wpAny_listItems ha rfl ?_)
    have over : its.toArray[(i : Int).toNat]? = none := by simp [hin, hlv]
    have whole : done.map (·.1) = ts := by simpa [hin, ← hlen] using hdone
    rw [over]
    dsimp only
    unfold reprEnd
    exact wpAny_bind (wpAny_listItems hPo rfl (by rw [hacc, repr_fold, whole]; exact wpAny_bind (wpAny_pure (wpAny_bind (wpAny_mkStr (wpAny_pure (hR _ H _ ((drop I).tok _) j)) hsz3)))))
  | succ n ih =>
    intro i s H acc c done hk hi I j hacc hdone
    have hlt : i < xs.length := by omega
    obtain ⟨_, its, nn, rv, ha⟩ := (show ObjOk X.prog X.w H s.heap a (.lst xs) from I.hok a _ (hJ H j))
    have hlv := rv.length
    obtain ⟨t, ht, hrep⟩ := hT i xs[i] (by simp [hlt])
    obtain ⟨u, hu, ru⟩ := rv.get (show xs[i]? = some xs[i] by simp [hlt])
    have grown := And.intro (piled_take_succ ht) (piled_take_le ts (i + 1))
    obtain ⟨hp1, hp2⟩ := grown
    have here : its.toArray[(i : Int).toNat]? = some u := by simpa using hu
    refine codeAny_builtin F.entry_list_repr_loop ?_
    change wpAny _ _ (Builtin.«list.__repr__.loop» ⟨[.ref a, .int i 0, .ref P, .int ((b + piled (ts.take i) : Nat) : Int) 0], []⟩) _ _ s
    rw [repr_loop_tree]
    refine wpAny_bind (wpAny_listItems ha rfl ?_)
    rw [here, Int.toNat_natCast]
    dsimp only
    refine wpAny_bind (wpAny_holding (hrep.under _ _ ((P, lobj acc c) :: pins) s σ H u (b + piled (ts.take i) + 1) _ _ (by rw [rl_frames]; exact hfr) (guards_under_guard (isGuard_list_loop _) hg) (fun c hc => (hcl c hc).cons (a := a) fun e => hna (e ▸ hc)) (hr.rl _) I j ru (by omega) fun s1 H1 I1 j1 => ?_))
    have short := hsz2 t (List.mem_of_getElem? ht)
    refine wpAny_bind (wpAny_mkStr (wpAny_bind ?_) short)
    change wpAny _ _ (updateSeq P _) _ _ _
    have hasz : acc.size ≤ sizeLine := by
      have gathered := congrArg List.length hacc
      have told := congrArg List.length hdone
      simp only [strValues, List.length_map, List.length_take, Array.length_toList] at gathered told
      omega
    obtain ⟨hPo, hPn, hPl, hPf, _⟩ := I1.pin (P, lobj acc c) (List.mem_append_right _ List.mem_cons_self)
    refine wpAny_updateSeq hPo rfl (wpAny_pure ⟨F.quiet_list_repr_loop _, ?_⟩) hasz
    rw [show ((i : Int) + 1) = ((i + 1 : Nat) : Int) by omega, show b + piled (ts.take i) + (t.length + 2) = b + piled (ts.take (i + 1)) by omega]
    obtain ⟨c', hself⟩ : ∃ c', (s1.heap.update P (Obj.mapSeq (·.push (.str t s1.toks)))).get? P = some (lobj (acc.push (.str t s1.toks)) c') := ⟨_, Heap.get?_update_self _ hPo rfl⟩
    refine ih (i + 1) _ H1 (acc.push (.str t s1.toks)) c' (done ++ [(t, s1.toks)]) (by omega) hlt ?_ j1 (by simp [hacc, strValues]) (by simp [List.take_add_one, ht, hdone])
    refine Inv.pins_of (pins := pins) ?_ fun p hp => ?_
    · refine ((drop I1).tok (s1.toks + 1)).turned (it := P) (t' := s1.toks + 1) (fun b o hb e => (Heap.get?_update_other _ _ (fun h : P = b => hb h.symm)).trans e) hPn hPl (.inr hP1) (fun x c' hc z => ?_) hP2
      obtain ⟨v, o, ho, hd⟩ := I1.cell x c' hc
      rw [z, hPo] at ho
      cases ho
      cases hd
    · rcases List.mem_cons.mp hp with rfl | hp
      · exact ⟨hself, hPn, hPl, hPf, fun v z => by cases z⟩
      · obtain ⟨q1, q2, q3, q4, q5⟩ := I1.pin p (List.mem_append_right _ (List.mem_cons_of_mem _ hp))
        exact ⟨(Heap.get?_update_other _ _ (fun h : P = p.1 => hP2 p (List.mem_append_right _ hp) h.symm)).trans q1, q2, q3, q4, q5⟩
/-- what listReprAt does -/
theorem rg_at {A : Around} {g : List Code} {R : Result → Shared → Prop} {a : Addr} {xs : List V} {ts : List Str} {b : Nat} {pins : List (Addr × Obj)} {σ : St} {s : Shared} {H : Hp} (hfr : A.frames = some X.stack) (hg : A.guards = some g) (hcl : Clr g fun c => c = a ∨ B c) (hna : ¬ B a) (hr : Room (k + 1) A) (I : Inv X pins σ H s) (j : J H) (hJ : ∀ H, J H → H a = some (.lst xs)) (hne : xs ≠ [])
    (hlen : ts.length = xs.length) (hT : ∀ (i : Nat) (v : V), xs[i]? = some v → ∃ t, ts[i]? = some t ∧ Sg X k J B v t) (hsz : b + (listText ts).length ≤ sizeLine)
    (hR : ∀ s' H' u, Inv X pins σ H' s' → J H' → R (.ok (.ret (.str (listText ts) u))) s') :
    wpAny (model X.prog X.w) A.in1 (Builtin.listReprAt b ⟨[.ref a], []⟩) (fun fin s' => match fin with | .done f => R (.ok f) s' | .again c' => c'.quiet = true ∧ codeAny (model X.prog X.w) A c' R s') (fun e s' => R (.error e) s') s := by
  obtain ⟨_, its, nn, rv, ha⟩ := (show ObjOk X.prog X.w H s.heap a (.lst xs) from I.hok a _ (hJ H j))
  cases its with
  | nil =>
    cases rv
    exact absurd rfl hne
  | cons x l =>
    have hca : Clear g a := hcl a (.inl rfl)
    refine wpAny_list_repr_head (A := A.in1) (g := g) hg (fun v rest kw hm => listSameRef_of_ne (hca _ _ _ _ hm)) ha rfl ?_
    refine wpAny_bind (m := newList []) (wpAny_newObj_type ?_)
    refine wpAny_pure ⟨F.quiet_list_repr_loop _, ?_⟩
    have kk : ∀ b o, s.heap.get? b = some o → (s.heap.push (lobj #[] 0)).get? b = some o := fun b o e => Heap.get?_push_of_some _ e
    have I1 : Inv X pins σ H { s with heap := s.heap.push (lobj #[] 0), toks := s.toks } := I.kept (t' := s.toks) kk
    have hget : (s.heap.push (lobj #[] 0)).get? s.heap.objs.size = some (lobj #[] 0) := Heap.get?_push_size _ rfl
    have nP : ∀ p ∈ X.pn ++ pins, p.1 ≠ s.heap.objs.size := fun p hp => Nat.ne_of_lt (Heap.lt_size (I.pin p hp).1)
    have I2 : Inv X ((s.heap.objs.size, lobj #[] 0) :: pins) σ H { s with heap := s.heap.push (lobj #[] 0), toks := s.toks } := I1.pins_of fun p hp => by
      rcases List.mem_cons.mp hp with rfl | hp
      · exact ⟨hget, I.hok.fresh (Nat.le_refl _), Nat.ne_of_gt I.lt, I.nofs (Nat.le_refl _), fun v z => by cases z⟩
      · exact I1.pin p (List.mem_append_right _ hp)
    exact rg_run (A := A) (R := R) (b := b) (σ := σ) (pins := pins) hfr hg (fun c hc => hcl c (.inr hc)) hna hr hJ hlen hT hsz I.sz nP hR xs.length 0 _ H #[] 0 [] (by omega) (Nat.zero_le _) I2 j rfl rfl
theorem rg_call {A : Around} {g : List Code} {E : Value → Shared → Prop} {Q : Value → Shared → Prop} {a : Addr} {xs : List V} {ts : List Str} {pins : List (Addr × Obj)} {σ : St} {s : Shared} {H : Hp} (hfr : A.frames = some X.stack) (hg : A.guards = some g) (hcl : Clr g fun c => c = a ∨ B c) (hna : ¬ B a) (hr : Room (k + 1) A) (I : Inv X pins σ H s) (j : J H) (hJ : ∀ H, J H → H a = some (.lst xs)) (hne : xs ≠ [])
    (hlen : ts.length = xs.length) (hT : ∀ (i : Nat) (v : V), xs[i]? = some v → ∃ t, ts[i]? = some t ∧ Sg X k J B v t) (hsz : (listText ts).length ≤ sizeLine)
    (hR : ∀ s' H' u, Inv X pins σ H' s' → J H' → Q (.str (listText ts) u) s') : wpAny (model X.prog X.w) A (call (.builtin "list.__repr__") [.ref a]) Q E s := by
  obtain ⟨_, its, nn, rv, ha⟩ := (show ObjOk X.prog X.w H s.heap a (.lst xs) from I.hok a _ (hJ H j))
  exact wpAny_call (codeAny_call_builtin F.slot_list_repr.plain F.entry_list_repr (F.slot_list_repr.check _ _ _ _ _ _ _ _ ⟨_, ha, rfl⟩ (F.args_list_repr_1 _)
    (rg_at (R := callEnd Q E) (b := 0) hfr hg hcl hna hr I j hJ hne hlen hT (by omega) hR)))
/-- a list -/
theorem sg_list {a : Addr} {xs : List V} {ts : List Str} (hJ : ∀ H, J H → H a = some (.lst xs)) (hne : xs ≠ []) (hna : ¬ B a) (hlen : ts.length = xs.length) (hT : ∀ (i : Nat) (v : V), xs[i]? = some v → ∃ t, ts[i]? = some t ∧ Sg X k J B v t) :
    Sg X (k + 1) J (fun c => c = a ∨ B c) (.ref a) (listText ts) :=
  ⟨fun A' g pins s σ H u b E Q hf hg hc hr I j r hb q => by
    obtain rfl : u = Value.ref a := r
    obtain ⟨_, its, nn, rv, ha⟩ := (show ObjOk X.prog X.w H s.heap a (.lst xs) from I.hok a _ (hJ H j))
    refine wpAny_pyReprUnder_ref (by omega) (wpAny_pyReprObjUnder_twin (twin := "list.__repr__.under") ⟨_, ha, rfl⟩ F.slot_list_repr.toG rfl hr.units0 ?_)
    exact call_twin_plain F.plain_list_repr_under F.entry_list_repr_under F.check_list_repr_under ⟨_, ha, rfl⟩ F.slot_list_repr.toG (F.args_list_repr_1 _)
      (rg_at (R := callEnd _ E) (b := b) hf hg hc hna hr I j hJ hne hlen hT hb fun s' H' u I' j' => ⟨⟨_, _, rfl⟩, _, _, rfl, q s' H' I' j'⟩),
  fun A' g pins s σ H u E Q hf hg hc hr I j r hb q => by
    obtain rfl : u = Value.ref a := r
    obtain ⟨_, its, nn, rv, ha⟩ := (show ObjOk X.prog X.w H s.heap a (.lst xs) from I.hok a _ (hJ H j))
    have hTy : s.TypeIs (.ref a) "list" := ⟨_, ha, rfl⟩
    unfold pyReprObj
    refine wpAny_bind (wpAny_cRoomFor hr.units0 ?_)
    refine wpAny_bind (wpAny_specialOf (name := Str.ofString "__repr__") hTy F.slot_list_repr.lookup ?_)
    refine wpAny_bind (m := callSpecialIfBound? (.ref a) (Str.ofString "__repr__")) (wpAny_callSpecialIfBound?_slot (name := Str.ofString "__repr__") hTy F.slot_list_repr ?_)
    refine rg_call hf hg hc hna hr I j hJ hne hlen hT hb fun s' H' u I' j' => ?_
    exact wpAny_bind (wpAny_isInstance (T := "str") (b := true) rfl isSubtype_str_str (wpAny_pure (q s' H' u I' j'))),
  fun A' g pins s σ H u E Q hf hg hc hr I j r hb q => by
    obtain rfl : u = Value.ref a := r
    obtain ⟨_, its, nn, rv, ha⟩ := (show ObjOk X.prog X.w H s.heap a (.lst xs) from I.hok a _ (hJ H j))
    refine call_repr_slot (by have := hr.un; omega) ⟨_, ha, rfl⟩ F.slot_list_repr.toG ?_
    exact rg_call (A := A'.in1) hf hg hc hna hr.in1' I j hJ hne hlen hT hb fun s' H' u I' j' => ⟨_, _, rfl, q s' H' u I' j'⟩⟩
end
end L2

namespace L2
open PySem PySem.Spec PyProof.Rows PySem.Builtin
inductive SgAll (X : Cx) (k : Nat) (J : Hp → Prop) (B : Addr → Prop) : List V → List Str → Prop
  | nil : SgAll X k J B [] []
  | cons {v : V} {t : Str} {vs : List V} {ts : List Str} : Sg X k J B v t → SgAll X k J B vs ts → SgAll X k J B (v :: vs) (t :: ts)
theorem SgAll.length {X : Cx} {k : Nat} {J : Hp → Prop} {B : Addr → Prop} : ∀ {vs : List V} {ts : List Str}, SgAll X k J B vs ts → ts.length = vs.length
  | _, _, .nil => rfl
  | _, _, .cons _ h => by simp [h.length]
theorem SgAll.at_ {X : Cx} {k : Nat} {J : Hp → Prop} {B : Addr → Prop} : ∀ {vs : List V} {ts : List Str}, SgAll X k J B vs ts → ∀ (i : Nat) (v : V), vs[i]? = some v → ∃ t, ts[i]? = some t ∧ Sg X k J B v t
  | _, _, .nil, i, v, h => by simp at h
  | _, _, .cons h r, 0, v, e => by
    obtain rfl := Option.some.inj e
    exact ⟨_, rfl, h⟩
  | _, _, .cons h r, i + 1, v, e => r.at_ i v (by simpa using e)
theorem SgAll.mono {X : Cx} {j k : Nat} {J : Hp → Prop} {B B' : Addr → Prop} (h : j ≤ k) (hB : ∀ b, B b → B' b) : ∀ {vs : List V} {ts : List Str}, SgAll X j J B vs ts → SgAll X k J B' vs ts
  | _, _, .nil => .nil
  | _, _, .cons a r => .cons (a.mono h hB) (r.mono h hB)
theorem tr_depth {A : Around} {args : Args} : (A.under (.builtin "tuple.__repr__" args)).depth ≤ A.depth + 1 := by
  first | exact Nat.le_of_eq rfl | simp [Around.under, Code.weight, Code.isCreation, Code.isGuard, Code.isCaller, Code.frames, Code.isFrame, guardIds]
theorem tr_frames {A : Around} {args : Args} : (A.under (.builtin "tuple.__repr__" args)).frames = A.frames := by
  first | rfl | simp [Around.under, Code.envs, Code.isFrame, pushEnvs]
theorem tr_handled {A : Around} {args : Args} : (A.under (.builtin "tuple.__repr__" args)).handled = A.handled := by
  first | rfl | simp [Around.under]
theorem tu_depth {A : Around} {args : Args} : (A.under (.builtin "tuple.__repr__.under" args)).depth ≤ A.depth + 1 := by
  first | exact Nat.le_of_eq rfl | simp [Around.under, Code.weight, Code.isCreation, Code.isGuard, Code.isCaller, Code.frames, Code.isFrame, guardIds]
theorem tu_frames {A : Around} {args : Args} : (A.under (.builtin "tuple.__repr__.under" args)).frames = A.frames := by
  first | rfl | simp [Around.under, Code.envs, Code.isFrame, pushEnvs]
theorem tu_handled {A : Around} {args : Args} : (A.under (.builtin "tuple.__repr__.under" args)).handled = A.handled := by
  first | rfl | simp [Around.under]
theorem Room.tr {k : Nat} {A : Around} (r : Room (k + 1) A) (args : Args) : Room k (A.under (.builtin "tuple.__repr__" args)) :=
  ⟨by rw [tr_handled]; exact r.hd, by have := r.dp; have := @tr_depth A args; omega, by have := r.un; have := units_under_tuple_repr A args; omega⟩
theorem Room.tu {k : Nat} {A : Around} (r : Room (k + 1) A) (args : Args) : Room k (A.under (.builtin "tuple.__repr__.under" args)) :=
  ⟨by rw [tu_handled]; exact r.hd, by have := r.dp; have := @tu_depth A args; omega, by have := r.un; have := units_under_tuple_repr_under A args; omega⟩
section
variable {X : Cx} {k : Nat} {J : Hp → Prop} {B : Addr → Prop}
theorem tg_fold {A : Around} {g : List Code} {E : Value → Shared → Prop} {pins : List (Addr × Obj)} {σ : St} (hfr : A.frames = some X.stack) (hg : A.guards = some g) (hcl : Clr g B) (hr : Room k A) :
    ∀ (vs : List V) (us : List Value) (ts : List Str) (acc : Array Str) (n : Nat) (s : Shared) (H : Hp) (Q : (Array Str × Nat) → Shared → Prop), Vals vs us → SgAll X k J B vs ts → n + piled ts ≤ sizeLine → Inv X pins σ H s → J H →
    (∀ s' H', Inv X pins σ H' s' → J H' → Q ⟨acc ++ ts.toArray, n + piled ts⟩ s') → wpAny (model X.prog X.w) A (forIn us (⟨acc, n⟩ : (Array Str × Nat)) tupBody) Q E s := by
  intro vs
  induction vs with
  | nil =>
    intro us ts acc n s H Q rv hT _ I j h
    cases rv
    cases hT
    have h0 := h s H I j
    simp only [List.forIn_nil]
    exact wpAny_pure (by simpa [piled] using h0)
  | cons x l ih =>
    intro us ts acc n s H Q rv hT hn I j h
    cases rv with
    | cons r rr =>
      cases hT with
      | cons hx hl =>
        rename_i t ts'
        rw [piled_cons] at hn
        rw [List.forIn_cons]
        refine wpAny_bind (wpAny_bind (hx.under _ _ pins s σ H _ (n + 1) _ _ hfr hg hcl hr I j r (by omega) fun s1 H1 I1 j1 => wpAny_pure ?_))
        refine ih _ ts' (acc.push t) (n + (t.length + 2)) _ H1 Q rr hl (by omega) I1 j1 fun s2 H2 I2 j2 => ?_
        have h1 := h s2 H2 I2 j2
        have e : n + piled (t :: ts') = n + (t.length + 2) + piled ts' := by rw [piled_cons]; omega
        rw [e] at h1
        simpa using h1
theorem tg_at {A : Around} {g : List Code} {R : Result → Shared → Prop} {a : Addr} {xs : List V} {ts : List Str} {b : Nat} {pins : List (Addr × Obj)} {σ : St} {s : Shared} {H : Hp} {id : String} {rest : List Value}
    (hcg : (Code.builtin id ⟨.ref a :: rest, []⟩).isGuard = true) (hru : Room k (A.under (.builtin id ⟨.ref a :: rest, []⟩))) (hfu : (A.under (.builtin id ⟨.ref a :: rest, []⟩)).frames = some X.stack) (hg : A.guards = some g) (hcl : Clr g fun c => c = a ∨ B c) (hna : ¬ B a) (I : Inv X pins σ H s) (j : J H) (hJ : ∀ H, J H → H a = some (.tup xs))
    (hT : SgAll X k J B xs ts) (hsz : b + (tupleText ts).length ≤ sizeLine) (hR : ∀ s' H' u, Inv X pins σ H' s' → J H' → R (.ok (.ret (.str (tupleText ts) u))) s') :
    wpOwn (model X.prog X.w) A (.builtin id ⟨.ref a :: rest, []⟩) (Builtin.tupleReprAt b ⟨[.ref a], []⟩) (fun fin s' => match fin with | .done f => R (.ok f) s' | .again c' => c'.quiet = true ∧ codeAny (model X.prog X.w) A c' R s') (fun e s' => R (.error e) s') s := by
  obtain ⟨_, its, rv, ob, ha, hc, hd⟩ := (show ObjOk X.prog X.w H s.heap a (.tup xs) from I.hok a _ (hJ H j))
  obtain ⟨n, hd⟩ := hd
  have hca : Clear g a := hcl a (.inl rfl)
  have hlen : ts.length = its.toArray.size := by rw [hT.length, rv.length]; simp
  have hp := piled_le_tupleText ts
  have hsz0 := Nat.le_trans (Nat.le_add_left (tupleText ts).length b) hsz
  rw [tuple_repr_tree, tupleReprUnderWay_eq]
  refine wpOwn_bind (wpOwn_stackTailAny hg (tupGuardF_off _) (tupGuardF_pos _) ?_)
  have away : (g.any fun c => tupGuardF (.ref a) (c, default)) = false := List.any_eq_false.mpr fun c hcm => by simp [tupGuardF_of_clear hca c hcm]
  rw [away]
  refine wpOwn_of_wpAny ?_
  show wpAny _ _ (tupleReprRest b (.ref a)) _ _ s
  unfold tupleReprRest Builtin.Tuple.tupleItemsOf
  refine wpAny_bind (wpAny_bind (wpAny_seqItems ha hd (wpAny_pure ?_)))
  rw [← Array.forIn_toList]
  refine wpAny_bind (tg_fold (pins := pins) (σ := σ) hfu (guards_under_guard hcg hg) (fun c hc => (hcl c (.inr hc)).cons (a := a) fun e => hna (e ▸ hc)) hru xs _ ts _ _ _ H _ rv hT (by omega) I j fun s1 H1 I1 j1 => ?_)
  refine wpAny_bind (wpAny_mkStr (wpAny_pure ?_) (by simpa [tupleText, hlen] using hsz0))
  have h1 := hR { s1 with toks := s1.toks + 1 } H1 s1.toks (I1.tok _) j1
  simpa [tupleText, hlen] using h1
end
end L2

namespace L2
open PySem PySem.Spec PyProof.Rows PySem.Builtin
section
variable {X : Cx} {k : Nat} {J : Hp → Prop} {B : Addr → Prop}
/-- a tuple -/
theorem sg_tup {a : Addr} {xs : List V} {ts : List Str} (hJ : ∀ H, J H → H a = some (.tup xs)) (hna : ¬ B a) (hT : SgAll X k J B xs ts) : Sg X (k + 1) J (fun c => c = a ∨ B c) (.ref a) (tupleText ts) :=
  ⟨fun A' g pins s σ H u b E Q hf hg hc hr I j r hb q => by
    obtain rfl : u = Value.ref a := r
    obtain ⟨_, its, rv, ob, ha, hcl, hd⟩ := (show ObjOk X.prog X.w H s.heap a (.tup xs) from I.hok a _ (hJ H j))
    refine wpAny_pyReprUnder_ref (by omega) (wpAny_pyReprObjUnder_twin (twin := "tuple.__repr__.under") ⟨_, ha, hcl⟩ F.slot_tuple_repr rfl hr.units0 ?_)
    exact call_twin_own (F.quiet_tuple_repr_under _) F.entry_tuple_repr_under F.check_tuple_repr_under ⟨_, ha, hcl⟩ F.slot_tuple_repr (F.args_tuple_repr_1 _)
      (tg_at (R := callEnd _ E) (b := b) (isGuard_tuple_repr_under _) (hr.tu _) (by rw [tu_frames]; exact hf) hg hc hna I j hJ hT hb fun s' H' u I' j' => ⟨⟨_, _, rfl⟩, _, _, rfl, q s' H' I' j'⟩),
  fun A' g pins s σ H u E Q hf hg hc hr I j r hb q => by
    obtain rfl : u = Value.ref a := r
    obtain ⟨_, its, rv, ob, ha, hcl, hd⟩ := (show ObjOk X.prog X.w H s.heap a (.tup xs) from I.hok a _ (hJ H j))
    have hTy : s.TypeIs (.ref a) "tuple" := ⟨_, ha, hcl⟩
    unfold pyReprObj
    refine wpAny_bind (wpAny_cRoomFor hr.units0 ?_)
    refine wpAny_bind (wpAny_specialOf (name := Str.ofString "__repr__") hTy F.slot_tuple_repr.lookup ?_)
    refine wpAny_bind (m := callSpecialIfBound? (.ref a) (Str.ofString "__repr__")) (wpAny_callSpecialIfBound?_slotG (name := Str.ofString "__repr__") hTy F.slot_tuple_repr ?_)
    refine wpAny_call (codeAny_call_builtin_own (Code.quiet_builtin _ (by decide +kernel)) F.entry_tuple_repr (F.slot_tuple_repr.check _ _ _ _ _ _ _ _ hTy (F.args_tuple_repr_1 _)
      (tg_at (R := callEnd _ E) (b := 0) (isGuard_tuple_repr _) (hr.tr _) (by rw [tr_frames]; exact hf) hg hc hna I j hJ hT (by omega) fun s' H' u I' j' => ?_)))
    exact wpAny_bind (wpAny_isInstance (T := "str") (b := true) rfl isSubtype_str_str (wpAny_pure (q s' H' u I' j'))),
  fun A' g pins s σ H u E Q hf hg hc hr I j r hb q => by
    obtain rfl : u = Value.ref a := r
    obtain ⟨_, its, rv, ob, ha, hcl, hd⟩ := (show ObjOk X.prog X.w H s.heap a (.tup xs) from I.hok a _ (hJ H j))
    have hTy : s.TypeIs (.ref a) "tuple" := ⟨_, ha, hcl⟩
    refine call_repr_slot (by have := hr.un; omega) hTy F.slot_tuple_repr ?_
    exact wpAny_call (codeAny_call_builtin_own (Code.quiet_builtin _ (by decide +kernel)) F.entry_tuple_repr (F.slot_tuple_repr.check _ _ _ _ _ _ _ _ hTy (F.args_tuple_repr_1 _)
      (tg_at (A := A'.in1) (R := callEnd _ E) (b := 0) (isGuard_tuple_repr _) (hr.in1'.tr _) (by rw [tr_frames]; exact hf) hg hc hna I j hJ hT (by omega) fun s' H' u I' j' => ⟨_, _, rfl, q s' H' u I' j'⟩)))⟩
/-- the empty dict -/
theorem sg_d0 {a : Addr} (hJ : ∀ H, J H → H a = some (.dK [])) (hB : B a) : Sg X (k + 1) J B (.ref a) (dictText []) :=
  ⟨fun A' g pins s σ H u b E Q hf hg hc hr I j r hb q => by
    obtain rfl : u = Value.ref a := r
    obtain ⟨_, hS, vs, rv, ob, es, ep, ha, hx, hd, hk, hp, hnd⟩ := (show ObjOk X.prog X.w H s.heap a (.dK []) from I.hok a _ (hJ H j))
    cases rv
    have he : es.toList = [] := by cases hes : es.toList with | nil => rfl | cons a b => rw [hes] at hp; cases hp
    refine (ReprK.dict (as := []) (h₀ := s.heap) (d := 0) ha hx.1 hd hS (by simp) (by rw [he]; exact .nil)) b hb A' g E s Q hg (fun c hc' => hc c (by rw [List.mem_singleton.mp hc']; exact hB)) (by have := hr.un; omega) (fun _ _ e => e) fun h' tk hkp => ?_
    exact q _ H (I.kept hkp) j,
  fun A' g pins s σ H u E Q hf hg hc hr I j r hb q => by
    obtain rfl : u = Value.ref a := r
    obtain ⟨_, hS, vs, rv, ob, es, ep, ha, hx, hd, hk, hp, hnd⟩ := (show ObjOk X.prog X.w H s.heap a (.dK []) from I.hok a _ (hJ H j))
    cases rv
    have he : es.toList = [] := by cases hes : es.toList with | nil => rfl | cons a b => rw [hes] at hp; cases hp
    refine wpAny_pyReprObj_dictK (as := []) (h₀ := s.heap) (d := 0) ha hx.1 hd hS (by simp) (by rw [he]; exact .nil) hg (fun c hc' => hc c (by rw [List.mem_singleton.mp hc']; exact hB)) (by have := hr.un; omega) (fun _ _ e => e) (fun h' u tk hkp => ?_) hb
    exact q _ H _ (I.kept hkp) j,
  fun A' g pins s σ H u E Q hf hg hc hr I j r hb q => by
    obtain rfl : u = Value.ref a := r
    obtain ⟨_, hS, vs, rv, ob, es, ep, ha, hx, hd, hk, hp, hnd⟩ := (show ObjOk X.prog X.w H s.heap a (.dK []) from I.hok a _ (hJ H j))
    cases rv
    have he : es.toList = [] := by cases hes : es.toList with | nil => rfl | cons a b => rw [hes] at hp; cases hp
    refine call_repr_slot (by have := hr.un; omega) ⟨_, ha, hx.1⟩ F.slot_dict_repr ?_
    refine call_dict_reprK (A := A'.in1) (as := []) (h₀ := s.heap) (d := 0) ha hx.1 hd hS (by simp) (by rw [he]; exact .nil) hg (fun c hc' => hc c (by rw [List.mem_singleton.mp hc']; exact hB)) (by have := hr.un; show A'.units + 1 + 1 < cLine; omega) (fun _ _ e => e) (fun h' u tk hkp => ?_) hb
    exact ⟨_, _, rfl, q _ H _ (I.kept hkp) j⟩⟩
/-- repr(v) -/
theorem call_sg (gd : X.A.guards = some []) (hr : Room (k + 1) X.A) : CallR X (.builtin "repr") (fun us H Q => ∃ (v : V) (t : Str) (J : Hp → Prop) (B : Addr → Prop), us = [v] ∧ J H ∧ Sg X k J B v t ∧ t.length ≤ sizeLine ∧ ∀ H', J H' → Q (.str t) H') := by
  intro pins s σ H xs us Q I r h
  obtain ⟨v, t, J, B, rfl, j, S, hz, q⟩ := h
  obtain ⟨u, rfl, ru⟩ := vals1 r
  exact S.call X.A [] pins s σ H u _ _ I.ok.frames gd (Clr.nil _) hr I j ru hz fun s' H' tk I' j' => ⟨.str t, H', I', ⟨tk, rfl⟩, q H' j'⟩
/-- {e!r} -/
def tFmtG (X : Cx) (k : Nat) (te : TE) : TE := fun σ H Q => te σ H fun v H1 => ∃ (t : Str) (J : Hp → Prop) (B : Addr → Prop), J H1 ∧ Sg X k J B v t ∧ t.length ≤ sizeLine ∧ ∀ H', J H' → Q (.str t) H'
theorem pe_fmtG {e : Expr} {te : TE} {pos : Pos} (gd : X.A.guards = some []) (hr : Room k X.A) (he : PE X e te) : PE X (.FormattedValue e 114 none pos) (tFmtG X k te) := by
  refine ⟨fun pins s σ H Q I h => ?_⟩
  refine wpAny_FormattedValue_repr (thn (he.run pins s σ H _ I h) fun u s1 ⟨v, H1, I1, rv, t, J, B, j, S, hz, q⟩ => ?_)
  refine S.obj X.A [] pins s1 σ H1 u _ _ I.ok.frames gd (Clr.nil _) hr I1 j rv hz fun s' H' tk I' j' => ?_
  exact wpAny_formatField_str ⟨.str t, H', I'.tok _, ⟨_, rfl⟩, q H' j'⟩ ⟨.str t, H', I'.tok _, ⟨_, rfl⟩, q H' j'⟩ hz
end
end L2

namespace L2
open PySem PySem.Spec PyProof.Rows
section
variable {X : Cx} {k : Nat} {J : Hp → Prop} {B : Addr → Prop}
theorem obj_own {C g a : Addr} {sp : Sp} {t : Str} (hs : PySem.W.findIn X.K (.ref C) "__repr__" = some (some (.ref g))) (hf : PySem.W.isFn X.K (.ref g) = true) (F : FnR X.prog X.w X.K X.mg X.base CX0 k g sp)
    (hi : ∀ H, J H → ∃ dx fs, H a = some (.ins C dx fs)) (hsp : ∀ H, J H → sp [.ref a] H (fun r H' => r = .str t ∧ J H') E0) :
    ∀ (A' : Around) (g : List Code) (pins : List (Addr × Obj)) (s : Shared) (σ : St) (H : Hp) (u : Value) (E : Value → Shared → Prop) (Q : Value → Shared → Prop), A'.frames = some X.stack → A'.guards = some g → Clr g B → Room k A' → Inv X pins σ H s → J H → RelV (.ref a) u → t.length ≤ sizeLine →
    (∀ s' H' tk, Inv X pins σ H' s' → J H' → Q (.str t tk) s') → wpAny (model X.prog X.w) A' (pyReprObj u) Q E s := by
  intro A' g' pins s σ H u E Q hfr _ _ hr I j r hb q
  obtain rfl : u = Value.ref a := r
  obtain ⟨dx, fs, ha⟩ := hi H j
  obtain ⟨mA, M, _⟩ := ins_get I.hok ha
  obtain ⟨od, It, _⟩ := M.look
  rw [pyReprObj_eq_pyReprObjBy]
  unfold pyReprObjBy
  refine wpAny_bind (wpAny_cRoomFor hr.units0 ?_)
  refine wpAny_bind (wpAny_bind (It.type.here ((PySem.W.looks_findIn I.kIn hs).here ?_)))
  show wpAny _ _ (if (some (Value.ref g)).isNone = true then _ else _) _ _ _
  rw [if_neg (by simp)]
  have hcall : wpAny (model X.prog X.w) A' (call (.ref g) [.ref a]) (fun v s' => ∃ y tk, v = .str y tk ∧ Q (.str y tk) s') E s := by
    refine wpAny_call (codeAny_mono (F A' X.stack s H [.ref a] [.ref a] _ E0 hr ⟨hfr, I.env0.mod, I.env0.bs, I.env0.bsz, I.env0.funs, I.env0.frf, I.env0.hok, I.env0.bare⟩ (.cons rfl .nil) (hsp H j)) fun r s' hq => ?_)
    cases r with
    | error e => exact False.elim hq
    | ok fl =>
      cases fl with
      | ret u =>
        obtain ⟨v, H', I', rv, ev, j'⟩ := I.after hq
        subst ev
        obtain ⟨tk, rfl⟩ := rv
        exact ⟨t, tk, rfl, q _ _ tk I' j'⟩
      | next => exact False.elim hq
      | brk => exact False.elim hq
      | cont => exact False.elim hq
  refine wpAny_bind (m := callSpecialIfBoundBy? _ (.ref a) (Str.ofString "__repr__")) ?_
  simp only [callSpecialIfBoundBy?, bindSpecialIfBound?]
  refine wpAny_holding (wpAny_bind (wpAny_bind (wpAny_bind (It.type.here ((PySem.W.looks_findIn I.kIn hs).here ?_)))))
  refine wpAny_bind (wpAny_askSetting (wpAny_ite ?_))
  have fin : ∀ {Q' : Option Value → Shared → Prop}, (∀ y tk s', Q (.str y tk) s' → Q' (some (.str y tk)) s') → wpAny (model X.prog X.w) A' (call (.ref g) ([.ref a] ++ []) >>= fun v => pure (some v)) Q' E s := fun {Q'} hq => wpAny_bind (wpAny_mono hcall (fun v s' ⟨y, tk, e, h'⟩ => by subst e; exact wpAny_pure (hq y tk s' h')) fun _ _ h' => h')
  have fin2 : ∀ y tk s', Q (.str y tk) s' → wpAny (model X.prog X.w) A' (do if ← isInstance (.str y tk) (.type "str") then pure (Value.str y tk) else raiseError "TypeError" s!"__repr__ returned non-string (type {← typeNameOf (.str y tk)})") Q E s' := fun y tk s' h => by
    refine wpAny_bind (wpAny_isInstance (T := "str") (b := true) rfl isSubtype_str_str ?_)
    exact wpAny_pure h
  split
  · exact wpAny_bind ((PySem.W.bind_fn I.kIn _ (beq_iff_eq.mp hf)).here (wpAny_pure (fin fin2)))
  · exact wpAny_tryCatch (wpAny_bind ((PySem.W.bind_fn I.kIn _ (beq_iff_eq.mp hf)).here (wpAny_pure (fin fin2))))
/-- an instance that has its own __repr__ -/
theorem sg_own {C g a : Addr} {sp : Sp} {t : Str} (hs : PySem.W.findIn X.K (.ref C) "__repr__" = some (some (.ref g))) (hf : PySem.W.isFn X.K (.ref g) = true) (F : FnR X.prog X.w X.K X.mg X.base CX0 k g sp)
    (hi : ∀ H, J H → ∃ dx fs, H a = some (.ins C dx fs)) (hsp : ∀ H, J H → sp [.ref a] H (fun r H' => r = .str t ∧ J H') E0) : Sg X k J B (.ref a) t :=
  ⟨fun A' g' pins s σ H u b E Q hfr _ _ hr I j r hb q => sh_own hs hf F hi hsp A' pins s σ H u b E Q hfr hr I j r hb q, obj_own hs hf F hi hsp,
  fun A' g' pins s σ H u E Q hfr _ _ hr I j r hb q => by
    obtain rfl : u = Value.ref a := r
    obtain ⟨dx, fs, ha⟩ := hi H j
    obtain ⟨mA, M, _⟩ := ins_get I.hok ha
    obtain ⟨od, It, _⟩ := M.look
    obtain ⟨m, hF⟩ := I.fr
    refine PySem.W.repr_K (by have := hr.un; show A'.units + 1 < cLine; omega) hF I.ok.mod.kin It hs hf ?_
    refine wpAny_call (codeAny_mono (F A'.in1 X.stack s H [.ref a] [.ref a] _ E0 hr.in1' ⟨hfr, I.env0.mod, I.env0.bs, I.env0.bsz, I.env0.funs, I.env0.frf, I.env0.hok, I.env0.bare⟩ (.cons rfl .nil) (hsp H j)) fun r s' hq => ?_)
    cases r with
    | error e => exact False.elim hq
    | ok fl =>
      cases fl with
      | ret u =>
        obtain ⟨v, H', I', rv, ev, j'⟩ := I.after hq
        subst ev
        obtain ⟨tk, rfl⟩ := rv
        exact q _ _ tk I' j'
      | next => exact False.elim hq
      | brk => exact False.elim hq
      | cont => exact False.elim hq⟩
end
end L2

/-! repr of a list of shown values -/
namespace L2
open PySem PySem.Spec PyProof.Rows
/-- v is shown as t, whatever is under way -/
abbrev Shn (X : Cx) (k : Nat) (J : Hp → Prop) (v : V) (t : Str) : Prop := Sg X k J (fun _ => False) v t
theorem call_reprL {X : Cx} {k : Nat} (quiet : X.A.guards = some []) (room : Room (k + 2) X.A) :
    CallR X (.builtin "repr") fun us H Q => ∃ (a : Addr) (xs : List V) (ts : List Str) (J : Hp → Prop), us = [.ref a] ∧ J H ∧ (∀ G, J G → G a = some (.lst xs)) ∧ xs ≠ [] ∧ ts.length = xs.length ∧
      (∀ (i : Nat) (v : V), xs[i]? = some v → ∃ t, ts[i]? = some t ∧ Shn X k J v t) ∧ (listText ts).length ≤ sizeLine ∧ ∀ G, J G → Q (.str (listText ts)) G := by
  rintro pins s σ H _ us Q I r ⟨a, xs, ts, J, rfl, j, there, some_, many, each, fits, q⟩
  rcases vals1 r with ⟨_, rfl, rfl⟩
  exact (sg_list there some_ (fun z => z) many each).call X.A [] pins s σ H _ _ _ I.ok.frames quiet (Clr.nil _) room I j rfl fits fun s1 H1 tk I1 j1 => ⟨.str _, H1, I1, ⟨tk, rfl⟩, q H1 j1⟩
end L2

namespace L2
open PySem PySem.Spec PyProof.Rows
/-- isinstance(e, c), e the exception that the suite holds, with attributes or without -/
theorem call_isEF {X : Cx} {a D : Addr} {oe : Obj} {d : Option Addr} {pn : List (Addr × Obj)} (C : ExcC X.K D) (hz : Zc (.ref D) d oe) (hf : ∃ vs, oe.data = .fields vs) :
    CallR (X.suite a ((a, oe) :: pn)) (.builtin "isinstance") (fun xs H Q => (d = none ∨ ∃ dd fs, d = some dd ∧ H dd = some (.xd fs)) ∧ rIsE X.K D a xs H Q) := by
  intro pins s σ H xs us Q I r h
  obtain ⟨hdd, c, cv, b, rfl, hcv, e, q⟩ := h
  cases r with
  | cons rx rr =>
    cases rr with
    | cons rt rr =>
      cases rr
      cases rx
      have ec := hcv _ rt
      subst ec
      obtain ⟨hget, _⟩ := I.pin (a, oe) (List.mem_append.mpr (.inl List.mem_cons_self))
      obtain ⟨vs, hv⟩ := hf
      have J : ∃ od, PySem.W.InstAt s.heap a oe D od := by
        obtain ⟨oc, od, oda, osl⟩ := oe
        obtain ⟨h1, h2⟩ := hz
        dsimp only at h1 h2 hv
        subst h1 h2 hv
        rcases hdd with rfl | ⟨dd, fs, rfl, ho⟩
        · exact ⟨none, hget, rfl, rfl, trivial⟩
        · obtain ⟨mA, hns, hr⟩ := (show ObjOk X.prog X.w H s.heap dd (.xd fs) from I.hok dd _ ho)
          obtain ⟨od, ho, hl⟩ := lookIn_ns hns
          exact ⟨some od, hget, rfl, rfl, ho⟩
      obtain ⟨od, J⟩ := J
      exact PySem.W.kia_one (PySem.W.kitx_exc (by obtain ⟨cd, hc, _⟩ := PySem.W.any_some C.hd; rw [hc]; rfl) C.hg C.hk C.hs C.ha C.hn C.ht C.hm) I.kIn J e (fun z => nomatch z) fun tk => ⟨.bl b, H, I.kept (t' := tk) fun _ _ z => z, rfl, q⟩
end L2

/-! x(lambda: body, e): the lambda is called by a def with two parameters; no repr is under way. -/
namespace L2
open PySem PySem.Spec PyProof.Rows LamX
section
variable {X : Cx} {pins : List (Addr × Obj)} {σ : L2.St} {H : Hp} {s : Shared}
theorem pe_actG {CXg : CXT} {Eg : XK} {Ng : List Str} {qg : Str} {sg : Scope} {g f c' : Addr} {cdg pm ctv : Value} {params : Arguments} {body : Expr} {scope : Scope} {k i : Nat} {a : Str} {pn : List (Addr × Obj)} {xe : Value → Shared → Prop} {W : WX} {t : XK → TE} {p1 p2 : Pos}
    (gd : X.A.guards = some []) (I : Inv X pins σ H s) (L : LamS X.env.scope scope) (hf : s.heap.get? f = some (PySem.W.kla_obj "<lambda>" (X.env.qual ++ "<lambda>") params body scope (cloFrom X.env.cells scope.names []) pm c' ctv)) (hfn : H f = none) (hfr : f ∉ frs X.stack)
    (hbind : bindArgs (PySem.W.kla_fn "<lambda>" (X.env.qual ++ "<lambda>") params body scope (cloFrom X.env.cells scope.names []) pm (.ref c') ctv) ⟨[], []⟩ = pure [])
    (tk : Takes ((cxOf CXg X.prog X.w X.K X.mg X.base Ng qg sg g cdg X.A X.stack s H Eg).tr pn xe) W) (hr : Room (k + 1) (X.A.deeper (envOfC qg sg s.heap.objs.size g cdg)))
    (hbody : ∀ (A : Around) (outer : List Env) (s : Shared) (H : Hp) (E : XK), A.guards = some [] → Room k (A.deeper (lamEnv X scope s.heap.objs.size f c')) → PE (lamCx X A outer s H E scope f c') body (t E))
    (hN : Ng[i]? = some a) (hv : Vis sg a) (hd : (a == ("__debug__" : Str)) = false := by decide) (hcd : (a == ("__classdict__" : Str)) = false := by decide) :
    PE ((cxOf CXg X.prog X.w X.K X.mg X.base Ng qg sg g cdg X.A X.stack s H Eg).tr pn xe) (.Call (.Name a p1) [] [] p2)
      (fun σZ HZ Q => σZ[i]? = some (some (.ref f)) ∧ HZ c' = some (CodeO c' (X.env.qual ++ "<lambda>")) ∧ t (WE W σZ) σ HZ Q) := by
  refine ⟨fun pZ sZ σZ HZ Q JZ h => ?_⟩
  obtain ⟨hs, hc, ht⟩ := h
  refine wpAny_Call_Name_kw (thn ((pe_var (pos := p1) (i := i) hN hv hd hcd).run pZ sZ σZ HZ (fun v H1 => v = .ref f ∧ H1 = HZ) JZ ⟨.ref f, hs, rfl, rfl⟩) fun u s1 ⟨v, H1, J1, r1, e1, e2⟩ => ?_)
  subst e1
  rw [e2] at J1
  obtain rfl : u = Value.ref f := r1
  have hfun := J1.base.keep f _ hf hfn hfr (fun z => nomatch (show f ∈ ([] : List Addr) from z))
  refine PySem.W.callWith_F0 ⟨_, _, _, _, hfun⟩ ?_
  have un : Un (frs X.stack) [] H HZ s.heap s1.heap := J1.base
  obtain ⟨⟨oc, vs, t, hoc, hdc, hvc⟩, _, _⟩ := J1.hok c' _ hc
  have gd2 : (X.A.deeper (envOfC qg sg s.heap.objs.size g cdg)).guards = some [] := deeper_guards.trans gd
  have rc : codeAny (model X.prog X.w) (X.A.deeper (envOfC qg sg s.heap.objs.size g cdg)) (.call (.ref f) ⟨[], []⟩) (CR (L2.CX X.prog X.w) (envOfC qg sg s.heap.objs.size g cdg :: X.stack) X.prog X.w HZ s1 Q (WE W σZ)) s1 := by
    refine PySem.W.kla_callFunE hr.depth hfun rfl L.co L.gen rfl ⟨c', oc, vs, t, rfl, hoc, hdc, hvc⟩ ?_
    rw [hbind]
    refine wpAny_pure (wpAny_newFunctionEnv (fun y hy => (L.own y hy).2) (fun y hy => absurd hy (by simp)) (fun h₁ hns hsb => ⟨J1.nolimit.fresh _ hsb, ?_⟩) L.kind)
    show codeAny _ _ (.expr body (lamEnv X scope s1.heap.objs.size f c')) _ _
    have kp : ∀ b o, s1.heap.get? b = some o → h₁.get? b = some o := fun b o e => hsb.extBut b o (Nat.ne_of_lt (Heap.lt_size e)) (Heap.get?_push_of_some _ e)
    have J := lam_start2 (E := WE W σZ) (f := f) (c' := c') (tk := s1.toks + ([] : List (Str × Value)).length) I L J1.env0 hr.hd un hns kp
    refine PySem.W.kla_codeExpr (wpAny_mono ((hbody _ _ s1 HZ _ gd2 (hr.deeper _)).run [] _ _ HZ Q J ht) (fun v s' hq => ?_) fun e s' hq => hq)
    obtain ⟨w', G, JG, rv, q⟩ := hq
    exact ⟨w', G, JG.os, JG.bare, JG.base, JG.hok, rv, q⟩
  have out := passAt tk σZ
  refine wpAny_call (codeAny_mono rc ?_)
  rintro (er | fl) s2 z
  · exact out pZ HZ s1 er s2 J1 z
  · cases fl with
    | ret u => exact J1.after z
    | _ => exact z.elim
end
end L2

/-! x op y, x == y, o.m(y): y a value of a built-in type; the own method may raise. -/
namespace PySem.W
open Lean Elab Tactic Meta PySem PySem.Calls PyProof.Rows
section
variable {prog : Program} {w : World} {A : Around} {E : Value → Shared → Prop} {s : Shared} {K : Frag} {x C L f : Addr} {h₀ : Heap} {m : Str → Option Value} {ox : Obj} {od : Option Obj} {T : String}
theorem bin_oth {op : Operator} {b : Value} {fo ro : Option Value} {Q : Value → Shared → Prop} (R : Fr h₀ L s.heap m) (KI : K.In h₀) (I : InstAt s.heap x ox C od) (hb : Looks (model prog w) s.heap (typeOf b) (.type T)) (first : selfFirst K C = true)
    (meth : findIn K (.ref C) (PySem.dunder op.info.2) = some (some (.ref f))) (fn : isFn K (.ref f) = true) (refl : findIn K (.ref C) (dunderR op.info.2) = some none)
    (to : findIn K (.type T) (PySem.dunder op.info.2) = some fo) (tr : findIn K (.type T) (dunderR op.info.2) = some ro) (sub : subIn K (.type T) (.ref C) = some false)
    (go : wpAny (model prog w) A (call (.ref f) [.ref x, b]) (CmpBack Q) E s) : wpAny (model prog w) A (binaryOp op (.ref x) b) Q E s := by
  have KX := KI.keeps R.keep
  obtain ⟨cd, rest, c1, c2⟩ := ksp_first first
  rcases hop : op.info with ⟨sy, n⟩
  rw [hop] at meth refl to tr
  have tried := ksp_try KX I meth fn go
  obtain ⟨hp, gs, dr, tk, os⟩ := s
  have T1 : Looks (model prog w) hp (typeOf (.ref x)) (.ref C) := I.type
  have T2 : Looks (model prog w) hp (typeOf b) (.type T) := hb
  have F1 : Looks (model prog w) hp (fillsNumberSlot (.ref C) n) true := fills_K KX c1 c2 meth
  obtain ⟨rt, F2⟩ : ∃ rt, Looks (model prog w) hp (fillsNumberSlot (.type T) n) rt := ⟨_, ksp_fillsT KX to tr⟩
  have S1 : Looks (model prog w) hp (isSubtype (.type T) (.ref C)) false := looks_subIn KX sub
  have P1 : Looks (model prog w) hp (numberSlotInPython (.ref C) n) true := ksp_inPy KX meth refl (.inl rfl)
  have P2 : Looks (model prog w) hp (numberSlotInPython (.type T) n) false := Looks.of_pure rfl
  have R1 : Looks (model prog w) hp (typeLookup (.type T) (dunderR n)) ro := looks_findIn KX tr
  have other : (Value.ref C == Value.type T) = false := by
    refine Bool.eq_false_iff.mpr fun z => ?_
    cases beq_iff_eq.mp z
  simp only [binaryOp, hop]
  refine wpAny_holding ?_
  refine wpAny_bind ?_
  unfold binaryOp1
  refine wpAny_bind (T1.at ?_)
  refine wpAny_bind (T2.at ?_)
  refine wpAny_bind (F1.at ?_)
  simp only [other, Bool.false_eq_true, if_false]
  cases rt
  all_goals
    ksp_lk
    refine wpAny_mono tried ?_ (fun _ _ z => z)
    rintro r s' ⟨v, rfl, q⟩
    ksp_lk
    exact q
end
end PySem.W
namespace L2
open PySem PySem.Spec PyProof.Rows
/-- a value of a built-in type other than int, and the type's name -/
inductive OddV (H : Hp) : V → String → Prop where
  | non : OddV H .non "NoneType"
  | bl (b : Bool) : OddV H (.bl b) "bool"
  | str (x : Str) : OddV H (.str x) "str"
  | lst {a : Addr} {xs : List V} (e : H a = some (.lst xs)) : OddV H (.ref a) "list"
  | tup {a : Addr} {xs : List V} (e : H a = some (.tup xs)) : OddV H (.ref a) "tuple"
  | dK {a : Addr} {kvs : List (Key × V)} (e : H a = some (.dK kvs)) : OddV H (.ref a) "dict"
theorem OddV.same {H H' : Hp} {v : V} {T : String} (s : ∀ b o, H b = some o → H' b = some o) (h : OddV H v T) : OddV H' v T := by
  cases h with
  | non => exact .non
  | bl b => exact .bl b
  | str x => exact .str x
  | lst e => exact .lst (s _ _ e)
  | tup e => exact .tup (s _ _ e)
  | dK e => exact .dK (s _ _ e)
theorem OddV.ty {K : PySem.W.Frag} {H : Hp} {v : V} {T : String} (h : OddV H v T) : TyX K H v (.type T) := by
  cases h with
  | non => exact .base .non
  | bl b => exact .base (.bl b)
  | str x => exact .base (.str x)
  | lst e => exact .base (.lst e)
  | tup e => exact .base (.tup e)
  | dK e => exact .base (.dK e)
/-- of a class of the text: no built-in type is below it -/
structure TyC (K : PySem.W.Frag) (C : Addr) (T : String) : Prop where
  kit : PySem.W.kitOne K (.type T) (.ref C) = some false
  sub : PySem.W.subIn K (.type T) (.ref C) = some false
structure OddC (K : PySem.W.Frag) (C : Addr) : Prop where
  non : TyC K C "NoneType"
  bl : TyC K C "bool"
  str : TyC K C "str"
  lst : TyC K C "list"
  tup : TyC K C "tuple"
  dK : TyC K C "dict"
theorem OddV.tyc {K : PySem.W.Frag} {C : Addr} {H : Hp} {v : V} {T : String} (h : OddV H v T) (c : OddC K C) : TyC K C T := by
  cases h with
  | non => exact c.non
  | bl b => exact c.bl
  | str x => exact c.str
  | lst e => exact c.lst
  | tup e => exact c.tup
  | dK e => exact c.dK
theorem OddV.notFirst {K : PySem.W.Frag} {C : Addr} {H : Hp} {v : V} {T : String} (h : OddV H v T) (c : OddC K C) : PySem.W.notFirst K C (.type T) = true := by
  unfold PySem.W.notFirst
  rw [(h.tyc c).sub]
  simp
/-- what a type says of an operator's names -/
def TyOp (K : PySem.W.Frag) (op : Operator) (T : String) : Prop := ∃ fo ro, PySem.W.findIn K (.type T) (PySem.dunder op.info.2) = some fo ∧ PySem.W.findIn K (.type T) (dunderR op.info.2) = some ro
theorem tyop {K : PySem.W.Frag} {op : Operator} (ho : op = .Add ∨ op = .Sub ∨ op = .Mult) {H : Hp} {v : V} {T : String} (h : OddV H v T) : TyOp K op T := by
  rcases ho with rfl | rfl | rfl <;> cases h <;> exact ⟨_, _, rfl, rfl⟩
section
variable {X : Cx} {CX : CXT} {k : Nat} {C g : Addr} {sp : Sp} {fd : FuncData} {ps : List Str} {E : XK} {a b : Expr} {ta tb : TE} {pos : Pos}
def tBinX (C : Addr) (sp : Sp) (E : XK) (ta tb : TE) : TE := fun σ H Q => ta σ H fun x H1 => tb σ H1 fun y H2 => ∃ a dx fs T, x = .ref a ∧ H2 a = some (.ins C dx fs) ∧ OddV H2 y T ∧ sp [x, y] H2 Q E
/-- a op b by the own method, which may raise -/
theorem pe_binX {op : Operator} (ho : op = .Add ∨ op = .Sub ∨ op = .Mult) (oc : OddC X.K C) (hc : PySem.W.selfFirst X.K C = true) (hs : PySem.W.findIn X.K (.ref C) (PySem.dunder op.info.2) = some (some (.ref g))) (hf : PySem.W.isFn X.K (.ref g) = true)
    (hr2 : PySem.W.findIn X.K (.ref C) (dunderR op.info.2) = some none) (F : FnG X.prog X.w X.K X.mg X.base CX k g fd ps sp) (gd : X.A.guards = some []) (hr : Room k X.A) (hb : Binds X.K fd ps []) (hx : Passes CX X E) (ha : PE X a ta) (hbb : PE X b tb) :
    PE X (.BinOp a op b pos) (tBinX C sp E ta tb) := by
  refine ⟨fun pins s σ H Q I h => ?_⟩
  refine wpAny_BinOp (binT ha hbb I (R := fun x y H2 => ∃ a dx fs T, x = .ref a ∧ H2 a = some (.ins C dx fs) ∧ OddV H2 y T ∧ sp [x, y] H2 Q E) h fun v u s2 x y H2 I2 rx ry q => ?_)
  obtain ⟨a0, dx, fs, T, rfl, h0, od, q⟩ := q
  cases (show v = Value.ref a0 from rx)
  obtain ⟨mA, M, _⟩ := ins_get I2.hok h0
  obtain ⟨oD, J, _⟩ := M.look
  obtain ⟨m, hF⟩ := I2.fr
  obtain ⟨PP, KX, pp, _⟩ := kit_of I2 ry (od.ty (K := X.K))
  obtain ⟨fo, ro, t1, t2⟩ := tyop (K := X.K) ho od
  refine PySem.W.bin_oth hF I2.ok.mod.kin J (KX.ty _ _ I2.kIn pp) hc hs hf hr2 t1 t2 (od.tyc oc).sub ?_
  have q' : sp ([.ref a0, y] ++ []) H2 Q E := by rw [List.append_nil]; exact q
  refine wpAny_mono (run_fnG (vs := [.ref a0, y]) (us := [.ref a0, u]) F gd hr hb .nil hx I2 (.cons rfl (.cons ry .nil)) q') (fun w s' z => ?_) fun _ _ x => x
  obtain ⟨z', H', I', rz, qz⟩ := z
  exact SlX.cmpback rz ⟨z', H', I', rz, qz⟩
/-- x == y, y of a built-in type -/
theorem op_eqOdd (oc : OddC X.K C) (hs : PySem.W.findIn X.K (.ref C) "__eq__" = some (some (.ref g))) (hf : PySem.W.isFn X.K (.ref g) = true) (F : FnR X.prog X.w X.K X.mg X.base CX0 k g sp) (hr : Room k X.A) :
    OpR X (compareOp .Eq) (fun x y H Q => ∃ a dx fs T, x = .ref a ∧ H a = some (.ins C dx fs) ∧ OddV H y T ∧ sp [x, y] H (fun v H' => ∃ b, v = .bl b ∧ Q (.bl b) H') E0) := by
  intro pins s σ H x y v u Q I rx ry h
  obtain ⟨a, dx, fs, T, rfl, ha, od, q⟩ := h
  cases (show v = Value.ref a from rx)
  obtain ⟨mA, M, _⟩ := ins_get I.hok ha
  obtain ⟨oD, J, _⟩ := M.look
  obtain ⟨m, hF⟩ := I.fr
  obtain ⟨PP, KX, pp, _⟩ := kit_of I ry (od.ty (K := X.K))
  show wpAny _ _ (richCompare .Eq (.ref a) u) _ _ _
  refine PySem.W.cmp_K hr.units0 hF I.ok.mod.kin J (KX.ty _ _ I.kIn pp) (od.notFirst oc) hs hf ?_
  refine wpAny_mono (run_fnA (vs := [.ref a, y]) F I.ok.frames hr I (.cons rfl (.cons ry .nil)) q) (fun w s' z => ?_) fun _ _ x => x
  obtain ⟨z', H', I', rz, b, rfl, qz⟩ := z
  obtain rfl : w = Value.bool b := rz
  exact ⟨.bl b, H', I', rfl, qz⟩
end
end L2

/-! def f(cls, *v) that may raise, where no repr is under way; C.m(..) by it, and C.m(). -/
namespace L2
open PySem PySem.Spec PyProof.Rows
def FnRG (P : Program) (w : World) (K : PySem.W.Frag) (mg : Str → Option Value) (base : Heap) (CX : CXT) (k : Nat) (f : Addr) (sp : Sp) : Prop :=
  ∀ (A : Around) (outer : List Env) (s : Shared) (H : Hp) (us : List Value) (vs : List V) (Q : VK) (E : XK), A.guards = some [] → Room k A → Env0 P w K mg base A outer s H → Vals vs us → sp vs H Q E → codeAny (model P w) A (.call (.ref f) ⟨us, []⟩) (CR CX outer P w H s Q E) s
section
variable {P : Program} {w : World} {K : PySem.W.Frag} {mg : Str → Option Value} {base : Heap} {CX : CXT} {k : Nat} {f : Addr} {N ps : List Str} {sp : Sp} {oc dV kV doc pm cdv ct : Value} {od an : Option Addr} {osl : Array (Option Value)} {nm ql : Str} {pr : Arguments} {bd : List Stmt} {sc : Scope}
theorem fn_starG {pv : Str} (L : K.lookup f = some ⟨oc, od, .func (PySem.W.fnOf nm ql pr bd sc dV kV doc pm an cdv ct), osl⟩) (cd : PySem.W.codeIn K cdv ql = true) (S : FnScope N (ps ++ [pv]) sc) (up : StX.CXUp CX)
    (bind : ∀ us more : List Value, us.length = ps.length → bindArgs (PySem.W.fnOf nm ql pr bd sc dV kV doc pm an cdv ct) ⟨us ++ more, []⟩ = (newTuple more >>= fun t => pure (ps.zip us ++ [(pv, t)])))
    (run : ∀ (A : Around) (outer : List Env) (s : Shared) (H : Hp) (vs : List V) (Q : VK) (E : XK), A.guards = some [] → Room k (A.deeper (envOfC ql sc s.heap.objs.size f cdv)) → sp vs H Q E → ∃ t, PSs (cxOf CX P w K mg base N ql sc f cdv A outer s H E) bd t ∧ t { nx := fun _ H' => Q .non H', rt := Q } (start N vs) H) :
    FnRG P w K mg base CX (k + 1) f (fun vs H Q E => ∃ ws more, vs = ws ++ more ∧ ws.length = ps.length ∧ more.length ≤ sizeLine ∧ ∀ p, H p = Option.none → sp (ws ++ [V.ref p]) (upd H p (.tup more)) Q E) := by
  rintro A outer s H us _ Q E gd hr e0 r ⟨ws, more, rfl, hl, hz, hq⟩
  obtain ⟨a1, a2, rfl, q1, q2⟩ := StX.vals_split r
  have free : H s.heap.objs.size = Option.none := e0.hok.fresh (Nat.le_refl _)
  have n1 : a1.length = ps.length := q1.length.symm.trans hl
  have n2 : a2.length ≤ sizeLine := by
    have := q2.length
    omega
  refine StX.run_bnd L cd S hr e0 (G := fun xs H2 => ∃ p, H p = Option.none ∧ xs = ws ++ [V.ref p] ∧ H2 = upd H p (.tup more)) (fun A' Ex Q' h => ?_) ?_
  · rw [bind a1 a2 n1]
    refine wpAny_bind ?_
    refine wpAny_newTuple (wpAny_pure ?_) n2
    have ok : ObjOk P w (upd H s.heap.objs.size (.tup more)) (s.heap.push ({ cls := .type "tuple", data := .seq a2.toArray } : Obj)) s.heap.objs.size (.tup more) :=
      ⟨hz, a2, q2, ⟨_, Heap.get?_push_size _ rfl, rfl, _, rfl⟩⟩
    have un := StX.un_laid (fs := frs outer) (s := s) (o := ({ cls := .type "tuple", data := .seq a2.toArray } : Obj)) (u := .tup more) free
    have keep : ∀ b o, s.heap.get? b = some o → (s.heap.push ({ cls := .type "tuple", data := .seq a2.toArray } : Obj)).get? b = some o := fun b o q => Heap.get?_push_of_some _ q
    have len : (ws ++ [V.ref s.heap.objs.size]).length = (ps ++ [pv]).length := by
      rw [List.length_append, List.length_append, hl]
      rfl
    have z := h _ _ (ws ++ [V.ref s.heap.objs.size]) (a1 ++ [Value.ref s.heap.objs.size]) (StX.env0_laid e0 ok) un rfl (fun e s' => up outer s H _ _ E e s' un keep rfl) (q1.append (.cons rfl .nil)) len ⟨_, free, rfl, rfl⟩
    rw [List.zip_append n1.symm] at z
    exact z
  · rintro s2 _ _ ⟨p, hp, rfl, rfl⟩ hr'
    exact run A outer s2 _ _ Q E gd hr' (hq p hp)
end
section
variable {X : Cx} {CX : CXT} {k : Nat} {C p g : Addr} {mc : Value} {sp : Sp} {E : XK} {o e : Expr} {es : List Expr} {m : Str} {pos apos : Pos} {ta : TE} {t : TA} {pl : Sem Bool}
end
theorem PE.or {X : Cx} {e : Expr} {t t' : TE} (h : PE X e t) (h' : PE X e t') : PE X e (fun σ H Q => t σ H Q ∨ t' σ H Q) := ⟨fun pins s σ H Q I q => q.elim (h.run pins s σ H Q I) (h'.run pins s σ H Q I)⟩
end L2

/-! The end of a law row with lambdas whose defs are told by FnG. -/
namespace L2
open PySem PySem.Spec PyProof.Rows LamX
section
variable {P : Program} {w : World} {K : PySem.W.Frag} {mg mb : Str → Option Value} {CX : CXT} {k : Nat} {fa a : Addr} {fd : FuncData} {x : Str} {sp : Sp} {s₁ : Shared} {vs : List Value} {ns : List Int} {cs : List (Addr × Addr)}
abbrev emptyTab : Obj := { cls := .none, data := .fields #[] }
/-- the call from an abstract heap that tracks at most the script and the tables -/
theorem law_coreT (KX : K.In s₁.heap) (gl : s₁.heap.Ns mainGlobals mg) (bl : s₁.heap.Ns builtinsNs mb) (boot : ∀ x : Str, x ≠ "__name__" → mb x = bootBuiltins x) (lim : s₁.heap.NoLimit) (gens : s₁.gens = #[])
    (tabs : ∀ p ∈ cs, s₁.heap.get? p.2 = some emptyTab) (notK : ∀ p ∈ cs, K.lookup p.2 = none) (code : ∀ p ∈ cs, PySem.W.CodeHd s₁.heap p.1 p.2)
    (main : ∃ (bm : Addr) (ob : Obj), mg "__builtins__" = some (.ref bm) ∧ bm ≠ builtinsNs ∧ s₁.heap.get? bm = some ob ∧ ob.cls = .type "module" ∧ ob.dict = some builtinsNs ∧ ob.data = .plain)
    (ha : s₁.heap.get? a = some { cls := .type "list", data := .seq vs.toArray }) (room : Room k callerA)
    (F : ∀ base : Heap, K.In base → base.Ns mainGlobals mg → (∀ p ∈ cs, TabB base mg p.1 p.2) → FnG P w K mg base CX k fa fd [x] sp) (bind : ∀ (s : Shared) (u : Value), BindsTo s fd ⟨[u], []⟩ [(x, u)]) (noX : ∀ H e s', CX [] H s₁ (fun _ _ _ => False) e s' → False)
    (H : Hp) (atT : ∀ p ∈ cs, H p.2 = some (.tbl #[])) (frozen : ∀ b, (∀ p ∈ cs, b ≠ p.2) → H b = none ∨ ∃ o xs, H b = some (.frz o (.lst xs))) (wish : sp [.ref a] H (fun v _ => v = .bl true) fun _ _ _ => False) (hok : HOk P w H s₁.heap)
    (only : ∀ b, H b ≠ none → b = a ∨ ∃ p ∈ cs, b = p.2) (free : H a ≠ none → K.lookup a = none) :
    codeAny (model P w) callerA (.call (.ref fa) ⟨[.ref a], []⟩) (fun r s' => r = .ok (.ret (.bool true)) ∧ OldK s₁.heap s'.heap ∧ s'.os = s₁.os ∧ AllBare s'.gens) s₁ := by
  have untracked : ∀ {b : Addr} {o : Obj}, s₁.heap.get? b = some o → (∀ vs n, o.data ≠ .seq vs n) → o.data ≠ .fields #[] → H b = none := fun {b o} e q1 q2 => by
    refine Classical.byContradiction fun hb => ?_
    rcases only b hb with rfl | ⟨p, hp, rfl⟩
    · rw [ha] at e
      exact q1 _ _ (by rw [← Option.some.inj e])
    · rw [tabs p hp] at e
      exact q2 (by rw [← Option.some.inj e])
  have dicts : ∀ {b : Addr} {m : Str → Option Value}, s₁.heap.Ns b m → (hidT s₁.heap H).Ns b m := fun {b m} ⟨o, es, ep, e, d, r⟩ =>
    ⟨o, es, ep, hidT_get e (untracked e (fun _ _ z => nomatch d.symm.trans z) fun z => nomatch d.symm.trans z), d, r⟩
  have KB : K.In (hidT s₁.heap H) := fun b o e => hidT_get (KX b o e) (by
    refine Classical.byContradiction fun hb => ?_
    rcases only b hb with rfl | ⟨p, hp, rfl⟩
    · rw [free hb] at e
      cases e
    · rw [notK p hp] at e
      cases e)
  have mod : L2.Mod K mg (hidT s₁.heap H) := ⟨KB, dicts gl, ⟨mb, dicts bl, boot⟩, let ⟨mc, l1, l2⟩ := lim; ⟨mc, dicts l1, l2⟩⟩
  have TB : ∀ p ∈ cs, TabB (hidT s₁.heap H) mg p.1 p.2 := fun p hp => by
    have tp := tabs p hp
    constructor
    · obtain ⟨o, us, file, tf, flags, tg, inF, text, tt, c1, c2, c3, c4, c5, c6, c7, c8, c9, c10⟩ := code p hp
      refine ⟨o, us, file, tf, flags, tg, inF, text, tt, hidT_get c1 (untracked c1 (fun _ _ z => nomatch c3.symm.trans z) fun z => ?_), c2, c3, c4, c5, c6, c7, c8, c9, c10⟩
      have z2 : us = #[] := by
        have := c3.symm.trans z
        injection this
      subst z2
      simp at c4
    · obtain ⟨bm, ob, b1, b2, b3, b4, b5, b6⟩ := main
      refine ⟨bm, ob, b1, b2, fun z => ?_, fun z => ?_, hidT_get b3 (untracked b3 (fun _ _ z => nomatch b6.symm.trans z) fun z => nomatch b6.symm.trans z), b4, b5, b6⟩
      · obtain ⟨o, es, ep, e, d, _⟩ := gl
        rw [z, e] at b3
        cases b3
        exact nomatch d.symm.trans b6
      · rw [z, tp] at b3
        cases b3
        exact nomatch b6
    · intro z
      obtain ⟨o, es, ep, e, d, _⟩ := gl
      rw [z, tp] at e
      cases e
      exact nomatch d
  have start : Env0 P w K mg (hidT s₁.heap H) callerA [] s₁ H := ⟨rfl, mod, fun b o e => of_hidT e, Nat.le_of_eq (hidT_size _ _), trivial, (fun b hb => by cases hb), hok, .of_eq gens⟩
  refine codeAny_mono ((F _ KB (dicts gl) TB).run callerA [] s₁ H ⟨[.ref a], []⟩ [.ref a] [.ref a] _ _ rfl room start (bind s₁ (.ref a)) (.cons rfl .nil) wish) fun r s' h => ?_
  cases r with
  | error e => exact (noX H e s' h).elim
  | ok fl =>
    cases fl with
    | next => exact False.elim h
    | brk => exact False.elim h
    | cont => exact False.elim h
    | ret u =>
      obtain ⟨v, H', os, bare, un, after, r', q⟩ := h
      obtain rfl : v = .bl true := q
      obtain rfl : u = Value.bool true := r'
      have stays : ∀ b o, (∀ p ∈ cs, b ≠ p.2) → s₁.heap.get? b = some o → s'.heap.get? b = some o := fun b o nb e => by
        rcases frozen b nb with z | ⟨ob, xs, z⟩
        · exact un.keep b o e z (fun y => by cases y) (fun y => by cases y)
        · obtain ⟨e1, _⟩ := hok b _ z
          obtain ⟨e2, _⟩ := after b _ (un.frzs b ob _ z)
          rw [e] at e1
          cases e1
          exact e2
      have grows : ∀ p ∈ cs, ∃ more : Array Value, s'.heap.get? p.2 = some { cls := .none, data := .fields more } := fun p hp => by
        obtain ⟨more, z⟩ := un.tbls p.2 #[] (atT p hp)
        exact ⟨_, after p.2 _ z⟩
      have split : ∀ b : Addr, (∃ p ∈ cs, b = p.2) ∨ ∀ p ∈ cs, b ≠ p.2 := fun b => Classical.byCases .inl fun z => .inr fun p hp e => z ⟨p, hp, e⟩
      refine ⟨rfl, ⟨fun b o e => ?_, fun b o e => ?_⟩, os, bare⟩
      · rcases split b with ⟨p, hp, rfl⟩ | nb
        · obtain ⟨more, hm⟩ := grows p hp
          have e' := (tabs p hp).symm.trans e
          cases e'
          exact .inr (.inl ⟨((code p hp).tab (tabs p hp)).isCodeTable, rfl, #[], more, rfl, by rw [Array.empty_append]; exact hm⟩)
        · exact .inl (stays b o nb e)
      · rcases split b with ⟨p, hp, rfl⟩ | nb
        · obtain ⟨more, hm⟩ := grows p hp
          exact ⟨_, hm⟩
        · exact ⟨o, stays b o nb e⟩
open Classical in
/-- the script, if the text does not keep it, and the tables -/
noncomputable def startT (K : PySem.W.Frag) (a : Addr) (vs : List Value) (ns : List Int) (cs : List (Addr × Addr)) : Hp := fun b =>
  if b = a then (if K.lookup a = none then some (.frz { cls := .type "list", data := .seq vs.toArray } (.lst (ns.map V.int))) else none) else if ∃ p ∈ cs, b = p.2 then some (.tbl #[]) else none
theorem law_callT (KX : K.In s₁.heap) (gl : s₁.heap.Ns mainGlobals mg) (bl : s₁.heap.Ns builtinsNs mb) (boot : ∀ x : Str, x ≠ "__name__" → mb x = bootBuiltins x) (lim : s₁.heap.NoLimit) (gens : s₁.gens = #[])
    (tabs : ∀ p ∈ cs, s₁.heap.get? p.2 = some emptyTab) (notK : ∀ p ∈ cs, K.lookup p.2 = none) (code : ∀ p ∈ cs, PySem.W.CodeHd s₁.heap p.1 p.2)
    (main : ∃ (bm : Addr) (ob : Obj), mg "__builtins__" = some (.ref bm) ∧ bm ≠ builtinsNs ∧ s₁.heap.get? bm = some ob ∧ ob.cls = .type "module" ∧ ob.dict = some builtinsNs ∧ ob.data = .plain)
    (ha : s₁.heap.get? a = some { cls := .type "list", data := .seq vs.toArray }) (hi : IntsAre vs ns) (hl : ns.length ≤ sizeLine) (room : Room k callerA)
    (F : ∀ base : Heap, K.In base → base.Ns mainGlobals mg → (∀ p ∈ cs, TabB base mg p.1 p.2) → FnG P w K mg base CX k fa fd [x] sp) (bind : ∀ (s : Shared) (u : Value), BindsTo s fd ⟨[u], []⟩ [(x, u)]) (noX : ∀ H e s', CX [] H s₁ (fun _ _ _ => False) e s' → False)
    (hsp : ∀ H : Hp, (∀ p ∈ cs, H p.2 = some (.tbl #[])) → SqL K H a (ns.map V.int) → sp [.ref a] H (fun v _ => v = .bl true) fun _ _ _ => False) :
    codeAny (model P w) callerA (.call (.ref fa) ⟨[.ref a], []⟩) (fun r s' => r = .ok (.ret (.bool true)) ∧ OldK s₁.heap s'.heap ∧ s'.os = s₁.os ∧ AllBare s'.gens) s₁ := by
  have rv := vals_ints hi
  have apart : ∀ p ∈ cs, p.2 ≠ a := fun p hp z => by
    have e := tabs p hp
    rw [z, ha] at e
    cases e
  have atT : ∀ p ∈ cs, startT K a vs ns cs p.2 = some (.tbl #[]) := fun p hp => by
    unfold startT
    rw [if_neg (apart p hp), if_pos ⟨p, hp, rfl⟩]
  have atA : startT K a vs ns cs a = if K.lookup a = none then some (.frz { cls := .type "list", data := .seq vs.toArray } (.lst (ns.map V.int))) else none := by
    unfold startT
    rw [if_pos rfl]
  have list : SqL K (startT K a vs ns cs) a (ns.map V.int) := by
    cases hk : K.lookup a with
    | none => exact .inl (.inr ⟨_, by rw [atA, if_pos hk]⟩)
    | some o =>
      have e := KX a o hk
      rw [ha] at e
      cases e
      exact .inr ⟨_, vs.toArray, _, hk, rfl, rfl, rfl, by rw [List.size_toArray, hi.length]; exact hl, by simpa using rv⟩
  refine law_coreT KX gl bl boot lim gens tabs notK code main ha room F bind noX (startT K a vs ns cs) atT (fun b nb => ?_) (hsp _ atT list) (fun b u z => ?_) (fun b hb => ?_) fun z => ?_
  · by_cases hba : b = a
    · subst hba
      by_cases hk : K.lookup b = none
      · exact .inr ⟨_, _, by rw [atA, if_pos hk]⟩
      · exact .inl (by rw [atA, if_neg hk])
    · refine .inl ?_
      unfold startT
      rw [if_neg hba, if_neg fun ⟨p, hp, e⟩ => nb p hp e]
  · by_cases hba : b = a
    · subst hba
      rw [atA] at z
      by_cases hk : K.lookup b = none
      · rw [if_pos hk] at z
        cases z
        exact ⟨ha, by rw [List.length_map]; exact hl, vs, _, rv, ha⟩
      · rw [if_neg hk] at z
        cases z
    · unfold startT at z
      rw [if_neg hba] at z
      by_cases hp : ∃ p ∈ cs, b = p.2
      · rw [if_pos hp] at z
        cases z
        obtain ⟨p, h1, rfl⟩ := hp
        exact tabs p h1
      · rw [if_neg hp] at z
        cases z
  · by_cases hba : b = a
    · exact .inl hba
    · refine .inr (Classical.byContradiction fun hp => hb ?_)
      unfold startT
      rw [if_neg hba, if_neg hp]
  · refine Classical.byContradiction fun hk => z ?_
    rw [atA, if_neg hk]
end
/-- what is known of the law's promise at the head's heap -/
def LawT (l : PySem.W.OpenLaw) (w : World) (K : PySem.W.Frag) (CX : CXT) (k n : Nat) (x : Str) (mg : Str → Option Value) (fa : Addr) (h : Heap) : Prop :=
  ∃ (fd : FuncData) (cs : List (Addr × Addr)) (sp : Sp), (∀ p ∈ cs, h.get? p.2 = some emptyTab) ∧ (∀ p ∈ cs, K.lookup p.2 = none) ∧ (∀ p ∈ cs, PySem.W.CodeHd h p.1 p.2) ∧ (∀ (s : Shared) (u : Value), BindsTo s fd ⟨[u], []⟩ [(x, u)]) ∧
    (∀ (H : Hp) (a : Addr) (ns : List Int), ns.length ≤ n → (∀ p ∈ cs, H p.2 = some (.tbl #[])) → SqL K H a (ns.map V.int) → sp [.ref a] H (fun v _ => v = .bl true) fun _ _ _ => False) ∧
    ∀ base : Heap, K.In base → base.Ns mainGlobals mg → (∀ p ∈ cs, TabB base mg p.1 p.2) → FnG l.prog w K mg base CX k fa fd [x] sp
theorem walk_ofT {l : PySem.W.OpenLaw} {n k : Nat} {q : Program} {loose : List Str} {XP : (Str → Option Value) → Heap → Prop} {YP : World → Heap → Prop} {d : DefRec} {K : Params → PySem.W.Frag} {CX : World → CXT} {x : Str}
    (hn : l.most = some n) (hn2 : n ≤ sizeLine) (hdf : d.params.defaults = []) (hr : Room k callerA) (hY : ∀ (w : World) (h : Heap), YP w h → (K w.params).In h)
    (F : ∀ (w : World) (mg : Str → Option Value) (fa : Addr) (h : Heap), YP w h → (K w.params).In h → h.Ns mainGlobals mg → (∀ (d' : DefRec) (x : Str) (c P : Addr), (recsOf q).find? (fun e => e.name == x) = some d' → PySem.W.tabIn (K w.params) x = some (c, P) → PySem.W.CodeHd h c P ∧ h.get? P = some emptyTab) → mg d.name = some (.ref fa) → LawT l w (K w.params) (CX w) k n x mg fa h)
    (hCX : ∀ (w : World) (G : Hp) (s0 : Shared) (er : Value) (s1 : Shared), CX w [] G s0 (fun _ _ _ => False) er s1 → False) : PySem.W.WalkO q loose XP YP l.row.toRowW d [] (fun f vs => PySem.call f vs) := by
  refine Att.attach_call hn hdf ?_
  intro w s₀ s₁ mg mb fa _ _ _ _ a vs ns G Y _ _ _ hmg hobj hints hlen hg
  obtain ⟨fd, cs, sp, t1, t2, t3, hb, hsp, hF⟩ := F w mg fa _ Y (hY w _ Y) G.T.g (fun d' x c P h1 h2 => PySem.W.tab_of G.T (hY w _ Y) h1 h2) hmg
  exact law_callT (hY w _ Y) G.T.g G.T.b G.T.builtins G.T.nolimit hg t1 t2 t3 G.T.bmain hobj hints (Nat.le_trans hlen hn2) hr hF hb (fun H e s' => hCX w H s₁ e s') fun H hH hS => hsp H a ns hlen hH hS
end L2

/-! Rules beside the layer: t[::-1], x op y and -x by own methods. -/
namespace HT
open PySem PySem.Spec PyProof.Rows
section
variable {prog : Program} {w : World} {A : Around} {E : Value → Shared → Prop} {s : Shared}
theorem fm_congr {α β : Type} {f g : α → Option β} : ∀ (l : List α), (∀ x ∈ l, f x = g x) → l.filterMap f = l.filterMap g
  | [], _ => rfl
  | a :: t, h => by
    rw [List.filterMap_cons, List.filterMap_cons, h a (by simp), fm_congr t (fun x hx => h x (by simp [hx]))]
theorem getItem_tuple_rev {t sl : Addr} {items : Array Value} {vs : Value} {Q : Value → Shared → Prop} (ht : IsTup s.heap t items) (hs : s.heap.IsSliceOf sl .none .none vs) (ps : IsPart vs (some (-1)))
    (h : Q (.ref s.heap.objs.size) { s with heap := s.heap.push { cls := .type "tuple", data := .seq items.toList.reverse.toArray } })
    (hsz : items.size ≤ sizeLine) : wpAny (model prog w) A (getItem (.ref t) (.ref sl)) Q E s := by
  have htake : sizeOk (.seq items.toList.reverse.toArray) := by simpa [sizeOk] using hsz
  rcases id hs with ⟨os, hos, hcs, hds⟩
  have kind : s.TypeIs (.ref sl) "slice" := ⟨os, hos, hcs⟩
  have three : ∀ {A' : Around} {R : Value × Value × Value → Shared → Prop} {E' : Value → Shared → Prop}, R (.none, .none, vs) s → wpAny (model prog w) A' (Builtin.Slice.sliceFields (.ref sl)) R E' s := fun z => wpAny_bind (wpAny_field hos hds (x := .none) rfl (wpAny_bind (wpAny_field hos hds (x := .none) rfl (wpAny_bind (wpAny_field hos hds (x := vs) rfl (wpAny_pure z))))))
  unfold getItem
  try with_reducible refine wpAny_holding ?_
  first | refine wpAny_bind (wpAny_pure ?_) | skip
  refine wpAny_bind (wpAny_sequenceKey ht.typeIs (by decide) (wpAny_bind (wpAny_callSpecial?_slot (name := Str.ofString "__getitem__") ht.typeIs PyProof.Rows.slot_tuple_getitem (wpAny_call_entry PyProof.Rows.slot_tuple_getitem ht.typeIs entry_tuple_getitem ?_ (args_tuple_getitem _ _)))))
  change wpAny _ _ (Builtin.Tuple.tupleItemsOf (.ref t) >>= _) _ _ s
  refine wpAny_bind (tupleItemsOf_ ht (wpAny_bind (wpAny_typeOf kind ?_)))
  rw [if_pos (by decide)]
  unfold Builtin.Slice.sliceApplied
  refine wpAny_bind (wpAny_bind (three (wpAny_bind (slicePart_ ps ?_))))
  change wpAny _ _ (if ((-1 : Int) == 0) = true then _ else _) _ _ s
  rw [if_neg (by decide)]
  refine wpAny_bind (slicePart_none (wpAny_bind (slicePart_none (wpAny_bind (wpAny_pure ?_)))))
  have hadj : Builtin.Slice.sliceAdjust none none (-1) (items.size : Int) = ((items.size : Int) - 1, -1) := rfl
  have hpl : Builtin.Slice.slicePlaces ((items.size : Int) - 1) (-1) (-1) = items.size := by
    unfold Builtin.Slice.slicePlaces
    have h1 : ¬ ((-1 : Int) > 0) := by omega
    simp only [h1, if_false]
    split
    · have e : ((items.size : Int) - 1 - -1 - 1) / (- -1) = (items.size : Int) - 1 := by
        rw [show (- -1 : Int) = 1 by decide, Int.ediv_one]; omega
      rw [e]; omega
    · omega
  show wpAny _ _ (match Builtin.Slice.sliceAdjust none none (-1) (items.size : Int) with | (lo, hi) => pure (lo, (-1 : Int), Builtin.Slice.slicePlaces lo hi (-1))) _ _ s
  rw [hadj]
  show wpAny _ _ (pure ((items.size : Int) - 1, (-1 : Int), Builtin.Slice.slicePlaces ((items.size : Int) - 1) (-1) (-1))) _ _ s
  rw [hpl]
  refine wpAny_pure ?_
  have hno : ¬ ((((items.size : Int) - 1) == 0 && (-1 : Int) == 1 && items.size == items.size) = true) := by
    intro q
    rw [Bool.and_eq_true, Bool.and_eq_true] at q
    exact absurd q.1.2 (by decide)
  show wpAny _ _ (if (((items.size : Int) - 1) == 0 && (-1 : Int) == 1 && items.size == items.size) = true then _ else _) _ _ s
  rw [if_neg hno]
  have hpick : ((List.range items.size).filterMap fun (k : Nat) => items[((items.size : Int) - 1 + (k : Int) * -1).toNat]?).toArray = items.toList.reverse.toArray := by
    congr 1
    have e : (List.range items.size).filterMap (fun (k : Nat) => items[((items.size : Int) - 1 + (k : Int) * -1).toNat]?) = ((List.range items.size).map fun k => items.size - 1 - k).filterMap (items[·]?) := by
      rw [List.filterMap_map]
      refine fm_congr _ fun k hk => ?_
      have := List.mem_range.mp hk
      have e2 : ((items.size : Int) - 1 + (k : Int) * -1).toNat = items.size - 1 - k := by omega
      show _ = items[items.size - 1 - k]?
      rw [e2]
    rw [e, PySem.W.krv_range, List.filterMap_reverse, PySem.W.krv_all]
  rw [hpick]
  have made : ∀ {A' : Around} {R : Value → Shared → Prop} {E' : Value → Shared → Prop}, R (.ref s.heap.objs.size) { s with heap := s.heap.push { cls := .type "tuple", data := .seq items.toList.reverse.toArray } } → wpAny (model prog w) A' (Builtin.Tuple.tupleExact items.toList.reverse.toArray) R E' s := fun z => wpAny_newObj_type z htake
  first
    | exact wpAny_bind (made (wpAny_pure ⟨_, rfl, wpAny_pure h⟩))
    | exact wpAny_bind (made ⟨_, rfl, wpAny_pure h⟩)
    | exact wpAny_bind (wpAny_bind (made (wpAny_pure ⟨_, rfl, wpAny_pure h⟩)))
    | exact wpAny_bind (made (wpAny_bind (wpAny_pure ⟨_, rfl, wpAny_pure h⟩)))
end
end HT
namespace L2
open PySem PySem.Spec PyProof.Rows
section
variable {X : Cx}
/-- t[::-1], t a tuple -/
def tRevT (K : PySem.W.Frag) (te : TE) : TE := fun σ H Q => te σ H fun x H1 => ∃ a xs, x = .ref a ∧ SqT K H1 a xs ∧ ∀ p, H1 p = none → Q (.ref p) (upd H1 p (.tup xs.reverse))
theorem pe_revT {e : Expr} {te : TE} {k : Nat} {p1 p2 p3 pos : Pos} (he : PE X e te) : PE X (.Subscript e (.Slice none none (some (.UnaryOp .USub (.Constant (.int 1) k p1) p2)) p3) pos) (tRevT X.K te) := by
  constructor
  intro pins s0 σ H W J w
  have back : PO X (some (.UnaryOp .USub (.Constant (.int 1) k p1) p2)) (tPart (tUn (rU fun i => .int (-i)) (tC (.int 1)))) := po_some (pe_un un_neg pe_int)
  refine Subscript_ (thn (he.run pins s0 σ H _ J w) ?_)
  rintro _ s1 ⟨_, H1, J1, rel, a, xs, rfl, tup, w1⟩
  cases rel
  refine wpAny_Slice (thn (po_none.run pins s1 σ H1 (fun o G => o = none ∧ G = H1) J1 ⟨rfl, rfl⟩) ?_)
  rintro _ s2 ⟨_, _, J2, n2, rfl, rfl⟩
  refine thn (po_none.run pins s2 σ _ (fun o G => o = none ∧ G = _) J2 ⟨rfl, rfl⟩) ?_
  rintro _ s3 ⟨_, _, J3, n3, rfl, rfl⟩
  refine thn (back.run pins s3 σ _ (fun o G => o = some (-1) ∧ G = _) J3 ⟨1, rfl, -1, rfl, rfl, rfl⟩) ?_
  rintro step s4 ⟨_, _, J4, part, rfl, rfl⟩
  cases n2
  cases n3
  have J5 := J4.kept (t' := s4.toks) (h' := s4.heap.push { cls := .type "slice", data := .fields #[.none, .none, step] }) fun _ _ z => Heap.get?_push_of_some _ z
  obtain ⟨its, vals, isTup, line⟩ := J5.tuple tup
  have many : its.toArray.size ≤ sizeLine := by
    rw [List.size_toArray, ← vals.length]
    exact line
  change wpAny (model X.prog X.w) X.A (subscriptTail e (.Slice none none (some (.UnaryOp .USub (.Constant (.int 1) k p1) p2)) p3) (.ref a) (.ref s4.heap.objs.size)) (EP X pins σ W) X.xe { s4 with heap := s4.heap.push { cls := .type "slice", data := .fields #[.none, .none, step] } }
  refine tail_any (ops := [.ref a, .ref s4.heap.objs.size]) isTup.typeIs (PyProof.Rows.slot_tuple_getitem.lookup) (HT.getItem_tuple_rev isTup (Heap.IsSliceOf.new _ .none .none step) part ?_ many) (by with_unfolding_all rfl)
  have laid := J5.laid (t' := s4.toks) (o := .tup xs.reverse) (fun _ _ z => Heap.get?_push_of_some _ z) (Nat.le_refl _) ⟨by rw [List.length_reverse]; exact line, _, vals.reverse, IsTup.new _ _⟩
  exact ⟨.ref _, _, laid, rfl, w1 _ (J5.hok.fresh (Nat.le_refl _))⟩
/-! ### own operators -/
section
variable {CX : CXT} {n : Nat} {C g : Addr} {sp : Sp} {E : XK}
/-- x op y, both instances of the class at C, whose def for op is at g -/
def rOwnB (C : Addr) (sp : Sp) (E : XK) : R2 := fun x y H Q => ∃ a dx fs b dy gs, x = .ref a ∧ y = .ref b ∧ H a = some (.ins C dx fs) ∧ H b = some (.ins C dy gs) ∧ sp [x, y] H Q E
theorem op_ownB {op : Operator} (hc : PySem.W.selfFirst X.K C = true) (hs : PySem.W.findIn X.K (.ref C) (PySem.dunder op.info.2) = some (some (.ref g))) (hf : PySem.W.isFn X.K (.ref g) = true) (F : FnR X.prog X.w X.K X.mg X.base CX n g sp)
    (hr : Room n X.A) (hx : Passes CX X E) : OpR X (binaryOp op) (rOwnB C sp E) := by
  intro pins s σ H x y v u Q I rx ry h
  obtain ⟨a, dx, fs, b, dy, gs, rfl, rfl, ha, hb, q⟩ := h
  cases (show v = Value.ref a from rx)
  cases (show u = Value.ref b from ry)
  obtain ⟨mA, M, _⟩ := ins_get I.hok ha
  obtain ⟨mB, M', _⟩ := ins_get I.hok hb
  obtain ⟨od, J, _⟩ := M.look
  obtain ⟨od', J', _⟩ := M'.look
  obtain ⟨m, hF⟩ := I.fr
  refine PySem.W.binop_K hF I.ok.mod.kin J J'.type hc hs hf ?_
  refine wpAny_mono (wpAny_call (run_fnR (us := [.ref a, .ref b]) (vs := [.ref a, .ref b]) F hr hx I (.cons rfl (.cons rfl .nil)) q)) (fun w s' z => ?_) fun _ _ x => x
  obtain ⟨z', H', I', rz, qz⟩ := z
  exact SlX.cmpback rz ⟨z', H', I', rz, qz⟩
/-- -x, x an instance -/
def rOwnU (C : Addr) (sp : Sp) (E : XK) : V → Hp → VK → Prop := fun x H Q => ∃ a dx fs, x = .ref a ∧ H a = some (.ins C dx fs) ∧ sp [x] H Q E
theorem un_own (hs : PySem.W.findIn X.K (.ref C) "__neg__" = some (some (.ref g))) (hf : PySem.W.isFn X.K (.ref g) = true) (F : FnR X.prog X.w X.K X.mg X.base CX n g sp)
    (hr : Room n X.A) (hx : Passes CX X E) : UnR X (unaryOp .USub) (rOwnU C sp E) := by
  intro pins s σ H x v Q I rx h
  obtain ⟨a, dx, fs, rfl, ha, q⟩ := h
  cases (show v = Value.ref a from rx)
  obtain ⟨mA, M, _⟩ := ins_get I.hok ha
  obtain ⟨od, J, _⟩ := M.look
  unfold unaryOp
  refine wpAny_holding ?_
  show wpAny _ _ (if (UnaryOp.USub == UnaryOp.Not) = true then _ else _) _ _ s
  rw [if_neg (by decide)]
  refine wpAny_bind (m := callSpecial? (.ref a) "__neg__") (PySem.W.special_fn I.kIn J hs (beq_iff_eq.mp hf) ?_)
  refine wpAny_mono (wpAny_call (run_fnR (us := [.ref a]) (vs := [.ref a]) F hr hx I (.cons rfl .nil) q)) (fun w s' z => ?_) fun _ _ x => x
  exact wpAny_pure z
end
end
end L2

/-! x op y: y an instance of another class; C(e, ..) by an __init__ with *args that may raise, where no repr is under way. -/
namespace PySem.W
open Lean Elab Tactic Meta PySem PySem.Calls PyProof.Rows
section
variable {prog : Program} {w : World} {A : Around} {E : Value → Shared → Prop} {s : Shared} {K : Frag} {x C D L f g : Addr} {h₀ : Heap} {m : Str → Option Value} {ox : Obj} {od : Option Obj}
theorem bin_ref {op : Operator} {b : Value} {Q : Value → Shared → Prop} (R : Fr h₀ L s.heap m) (KI : K.In h₀) (I : InstAt s.heap x ox C od) (hb : Looks (model prog w) s.heap (typeOf b) (.ref D)) (ne : C ≠ D) (first : selfFirst K C = true) (first2 : selfFirst K D = true)
    (meth : findIn K (.ref C) (PySem.dunder op.info.2) = some (some (.ref f))) (fn : isFn K (.ref f) = true) (refl : findIn K (.ref C) (dunderR op.info.2) = some none)
    (meth2 : findIn K (.ref D) (PySem.dunder op.info.2) = some (some (.ref g))) (refl2 : findIn K (.ref D) (dunderR op.info.2) = some none) (sub : subIn K (.ref D) (.ref C) = some false)
    (go : wpAny (model prog w) A (call (.ref f) [.ref x, b]) (CmpBack Q) E s) : wpAny (model prog w) A (binaryOp op (.ref x) b) Q E s := by
  have KX := KI.keeps R.keep
  obtain ⟨cd, rest, c1, c2⟩ := ksp_first first
  obtain ⟨cd2, rest2, d1, d2⟩ := ksp_first first2
  rcases hop : op.info with ⟨sy, n⟩
  rw [hop] at meth refl meth2 refl2
  have tried := ksp_try KX I meth fn go
  obtain ⟨hp, gs, dr, tk, os⟩ := s
  have T1 : Looks (model prog w) hp (typeOf (.ref x)) (.ref C) := I.type
  have T2 : Looks (model prog w) hp (typeOf b) (.ref D) := hb
  have F1 : Looks (model prog w) hp (fillsNumberSlot (.ref C) n) true := fills_K KX c1 c2 meth
  have F2 : Looks (model prog w) hp (fillsNumberSlot (.ref D) n) true := fills_K KX d1 d2 meth2
  have S1 : Looks (model prog w) hp (isSubtype (.ref D) (.ref C)) false := looks_subIn KX sub
  have P1 : Looks (model prog w) hp (numberSlotInPython (.ref C) n) true := ksp_inPy KX meth refl (.inl rfl)
  have P2 : Looks (model prog w) hp (numberSlotInPython (.ref D) n) true := ksp_inPy KX meth2 refl2 (.inl rfl)
  have other : (Value.ref C == Value.ref D) = false := by
    refine Bool.eq_false_iff.mpr fun z => ?_
    cases beq_iff_eq.mp z
    exact ne rfl
  simp only [binaryOp, hop]
  refine wpAny_holding ?_
  refine wpAny_bind ?_
  unfold binaryOp1
  refine wpAny_bind (T1.at ?_)
  refine wpAny_bind (T2.at ?_)
  refine wpAny_bind (F1.at ?_)
  simp only [other, Bool.false_eq_true, if_false]
  ksp_lk
  refine wpAny_mono tried ?_ (fun _ _ z => z)
  rintro r s' ⟨v, rfl, q⟩
  ksp_lk
  exact q
end
end PySem.W
namespace L2
open PySem PySem.Spec PyProof.Rows
section
variable {X : Cx} {CX : CXT} {k : Nat} {C D g g2 : Addr} {sp : Sp} {fd : FuncData} {ps : List Str} {E : XK} {a b : Expr} {ta tb : TE} {pos : Pos}
def tBinY (C D : Addr) (sp : Sp) (E : XK) (ta tb : TE) : TE := fun σ H Q => ta σ H fun x H1 => tb σ H1 fun y H2 => ∃ a dx fs b dy gs, x = .ref a ∧ y = .ref b ∧ H2 a = some (.ins C dx fs) ∧ H2 b = some (.ins D dy gs) ∧ sp [x, y] H2 Q E
/-- a op b by the own method, which may raise; b is an instance of another class -/
theorem pe_binY {op : Operator} (ne : C ≠ D) (hc : PySem.W.selfFirst X.K C = true) (hc2 : PySem.W.selfFirst X.K D = true) (hs : PySem.W.findIn X.K (.ref C) (PySem.dunder op.info.2) = some (some (.ref g))) (hf : PySem.W.isFn X.K (.ref g) = true)
    (hr2 : PySem.W.findIn X.K (.ref C) (dunderR op.info.2) = some none) (hs2 : PySem.W.findIn X.K (.ref D) (PySem.dunder op.info.2) = some (some (.ref g2))) (hr3 : PySem.W.findIn X.K (.ref D) (dunderR op.info.2) = some none) (hsub : PySem.W.subIn X.K (.ref D) (.ref C) = some false)
    (F : FnG X.prog X.w X.K X.mg X.base CX k g fd ps sp) (gd : X.A.guards = some []) (hr : Room k X.A) (hb : Binds X.K fd ps []) (hx : Passes CX X E) (ha : PE X a ta) (hbb : PE X b tb) :
    PE X (.BinOp a op b pos) (tBinY C D sp E ta tb) := by
  refine ⟨fun pins s σ H Q I h => ?_⟩
  refine wpAny_BinOp (binT ha hbb I (R := fun x y H2 => ∃ a dx fs b dy gs, x = .ref a ∧ y = .ref b ∧ H2 a = some (.ins C dx fs) ∧ H2 b = some (.ins D dy gs) ∧ sp [x, y] H2 Q E) h fun v u s2 x y H2 I2 rx ry q => ?_)
  obtain ⟨a0, dx, fs, b0, dy, gs, rfl, rfl, h0, h1, q⟩ := q
  cases (show v = Value.ref a0 from rx)
  cases (show u = Value.ref b0 from ry)
  obtain ⟨mA, M, _⟩ := ins_get I2.hok h0
  obtain ⟨oD, J, _⟩ := M.look
  obtain ⟨mB, M', _⟩ := ins_get I2.hok h1
  obtain ⟨oD', J', _⟩ := M'.look
  obtain ⟨m, hF⟩ := I2.fr
  refine PySem.W.bin_ref hF I2.ok.mod.kin J J'.type ne hc hc2 hs hf hr2 hs2 hr3 hsub ?_
  have q' : sp ([.ref a0, .ref b0] ++ []) H2 Q E := by rw [List.append_nil]; exact q
  refine wpAny_mono (run_fnG (vs := [.ref a0, .ref b0]) (us := [.ref a0, .ref b0]) F gd hr hb .nil hx I2 (.cons rfl (.cons rfl .nil)) q') (fun w s' z => ?_) fun _ _ x => x
  obtain ⟨z', H', I', rz, qz⟩ := z
  exact SlX.cmpback rz ⟨z', H', I', rz, qz⟩
/-- a op b, b an int -/
def tBinI (C : Addr) (sp : Sp) (E : XK) (ta tb : TE) : TE := fun σ H Q => ta σ H fun x H1 => tb σ H1 fun y H2 => ∃ a dx fs i, x = .ref a ∧ y = .int i ∧ H2 a = some (.ins C dx fs) ∧ sp [x, y] H2 Q E
theorem pe_binI {op : Operator} {fo ro : Option Value} (hc : PySem.W.selfFirst X.K C = true) (hs : PySem.W.findIn X.K (.ref C) (PySem.dunder op.info.2) = some (some (.ref g))) (hf : PySem.W.isFn X.K (.ref g) = true)
    (hr2 : PySem.W.findIn X.K (.ref C) (dunderR op.info.2) = some none) (h1 : PySem.W.findIn X.K (.type "int") (PySem.dunder op.info.2) = some fo) (h2 : PySem.W.findIn X.K (.type "int") (dunderR op.info.2) = some ro) (hsub : PySem.W.subIn X.K (.type "int") (.ref C) = some false)
    (F : FnG X.prog X.w X.K X.mg X.base CX k g fd ps sp) (gd : X.A.guards = some []) (hr : Room k X.A) (hb : Binds X.K fd ps []) (hx : Passes CX X E) (ha : PE X a ta) (hbb : PE X b tb) :
    PE X (.BinOp a op b pos) (tBinI C sp E ta tb) := by
  refine ⟨fun pins s σ H Q I h => ?_⟩
  refine wpAny_BinOp (binT ha hbb I (R := fun x y H2 => ∃ a dx fs i, x = .ref a ∧ y = .int i ∧ H2 a = some (.ins C dx fs) ∧ sp [x, y] H2 Q E) h fun v u s2 x y H2 I2 rx ry q => ?_)
  obtain ⟨a0, dx, fs, i, rfl, rfl, h0, q⟩ := q
  cases (show v = Value.ref a0 from rx)
  obtain ⟨t, rfl⟩ := ry
  obtain ⟨mA, M, _⟩ := ins_get I2.hok h0
  obtain ⟨oD, J, _⟩ := M.look
  obtain ⟨m, hF⟩ := I2.fr
  refine PySem.W.ksp_binT (T := "int") hF I2.ok.mod.kin J rfl hc hs hf hr2 (.inl rfl) h1 h2 hsub ?_
  have q' : sp ([.ref a0, .int i] ++ []) H2 Q E := by rw [List.append_nil]; exact q
  refine wpAny_mono (run_fnG (vs := [.ref a0, .int i]) (us := [.ref a0, .int i t]) F gd hr hb .nil hx I2 (.cons rfl (.cons ⟨t, rfl⟩ .nil)) q') (fun w s' z => ?_) fun _ _ x => x
  obtain ⟨z', H', I', rz, qz⟩ := z
  exact SlX.cmpback rz ⟨z', H', I', rz, qz⟩
end
/-- what a call's end says, told again of the caller: errors by hx, a value by the wish -/
theorem ended {X : Cx} {CX : CXT} {E : XK} {pins : List (Addr × Obj)} {σ : L2.St} {H : Hp} {s0 : Shared} {W : VK} {R : Value → Shared → Prop} (pass : Passes CX X E) (J : Inv X pins σ H s0)
    (back : ∀ u s1, EP X pins σ W u s1 → R u s1) : ∀ (r : Except Value Flow) (s1 : Shared), CR CX X.stack X.prog X.w H s0 W E r s1 → (match r with | .ok (.ret u) => R u s1 | .ok _ => False | .error er => X.xe er s1) := by
  rintro (er | fl) s1 z
  · exact pass pins σ H s0 er s1 J z
  · cases fl with
    | ret u => exact back u s1 (J.after z)
    | _ => exact z
/-- a new instance of C by an __init__ that is told where no repr is under way -/
theorem made_by {X : Cx} {CX : CXT} {n : Nat} {C g : Addr} {pr : Sp} {E : XK} {pins : List (Addr × Obj)} {σ : L2.St} {H : Hp} {s0 : Shared} {W : VK} {args : List Value} {as : List V} (mk : Mk X.K C g) (init : FnRG X.prog X.w X.K X.mg X.base CX n g pr) (quiet : X.A.guards = some []) (room : Room (n + 1) X.A) (pass : Passes CX X E) (J : Inv X pins σ H s0) (rel : Vals as args)
    (wish : ∀ o od, H o = none → H od = none → od ≠ o → pr (.ref o :: as) (upd (upd H od (.own o)) o (.ins C od [])) (fun v H2 => v = .non ∧ W (.ref o) H2) E) : wpAny (model X.prog X.w) X.A (PySem.call (.ref C) args) (EP X pins σ W) X.xe s0 := by
  have J2 : Inv X pins σ _ _ := Inv.made (C := C) J
  have w := wish _ _ (J.hok.fresh (Nat.le_succ s0.heap.objs.size)) (J.hok.fresh (Nat.le_refl s0.heap.objs.size)) (Nat.ne_of_lt (Nat.lt_succ_self _))
  have run := init _ X.stack _ _ (Value.ref (s0.heap.objs.size + 1) :: args) _ _ E (make_guards.trans quiet) (room.make C args []) (J2.env0.make C args []) (show Vals (V.ref (s0.heap.objs.size + 1) :: as) _ from .cons rfl rel) w
  refine wpAny_call (make_map (f := g) J.kIn mk.makes mk.init (beq_iff_eq.mp mk.fn) (codeAny_mono run fun r s1 z => ?_))
  have d := ended (W := fun v H2 => v = .non ∧ W (.ref (s0.heap.objs.size + 1)) H2) (R := fun u s2 => RelV .non u ∧ EP X pins σ W (.ref (s0.heap.objs.size + 1)) s2) pass J2 (fun u s2 ⟨v, H2, I2, ru, ev, q⟩ => ⟨by rw [← ev]; exact ru, .ref _, H2, I2, rfl, q⟩) r s1 z
  cases r with
  | error er => exact d
  | ok fl =>
    cases fl with
    | ret u => exact d
    | _ => exact d.elim
theorem pe_makeRG {X : Cx} {CX : CXT} {n : Nat} {C g : Addr} {pr : Sp} {E : XK} {nm : Str} {e1 : Expr} {er : List Expr} {ta : TA} {pn pc : Pos} (mk : Mk X.K C g) (init : FnRG X.prog X.w X.K X.mg X.base CX n g pr) (quiet : X.A.guards = some []) (room : Room (n + 1) X.A) (gl : Gl X nm) (at_ : X.mg nm = some (.ref C)) (pass : Passes CX X E) (args : PA X (e1 :: er) ta) (nd : (nm == ("__debug__" : Str)) = false := by decide)
    (st : starEach (e1 :: er) X.env = (false, eval e1 X.env) :: starEach er X.env := by rfl) (pl : (backTo pc (starEach er X.env)).any (·.1) = false := by rfl) : PE X (.Call (.Name nm pn) (e1 :: er) [] pc) (StX.tMakeR C pr E ta) :=
  ⟨fun pins s0 σ H W J w => wpAny_Call_Name_kw (ld_glob J gl at_ (PySem.W.callWith_K (h₀ := X.base) J.ok.mod.kin mk.kp (thn (args.run pc pins s0 σ H _ J w) fun us s1 ⟨as, H1, J1, rel, w1⟩ => ⟨J1.kIn, made_by mk init quiet room pass J1 rel w1⟩) st pl) nd)⟩
end L2

/-! a, b = xs of a list. -/
namespace L2
open PySem PySem.Spec PyProof.Rows
section
variable {X : Cx}
/-- a, b = xs, xs a list -/
def gTupL (K : PySem.W.Frag) (n : Nat) (t : TGs) : TG := fun v σ H Q => ∃ a xs, v = .ref a ∧ SqL K H a xs ∧ xs.length = n ∧ t xs σ H Q
theorem pg_tupL {es : List Expr} {k : Nat} {t : TGs} {n : Nat} {pos : Pos} (hc : X.calm = true) (h : PGs X es t)
    (hn : (assignEach es X.env).length = n := by rfl) (hst : (assignEach es X.env).findIdx? (·.1) = none := by rfl) : PG X (.Tuple es k pos) (gTupL X.K n t) := by
  refine ⟨fun pins s σ H v u Q I r hw => ?_⟩
  obtain ⟨a, xs, e1, hq, hl, hw⟩ := hw
  subst e1
  cases r
  obtain ⟨its, rv, ht, hz⟩ := I.list hq
  rw [assign_Tuple]
  refine wpAny_bind (wpAny_standAt ?_)
  unfold unpack
  rw [hst]
  refine wpAny_bind (wpAny_holding ?_)
  have e : (assignEach es X.env).length = its.toArray.size := by simp [hn, ← hl, rv.length]
  rw [e]
  refine PySem.W.kun_itemsOf (I.ok.hd hc) ht.isList fun h' hx => ?_
  have I1 : Inv X pins σ H { s with heap := h' } := I.kept (t' := s.toks) fun b o e => hx b o (Nat.ne_of_lt (Heap.lt_size e)) e
  exact h.run pins _ σ H xs _ Q I1 (by simpa using rv) hw
end
end L2

/-! o.m(k = v): a method with keywords alone. -/
namespace L2
open PySem PySem.Spec PyProof.Rows
def g2 : List Value → List Value → List Value
  | [u], [w] => [u, w]
  | _, _ => []
def gV2 : List V → List V → List V
  | [u], [w] => [u, w]
  | _, _ => []
/-- one by position (self), one by name -/
theorem KBinds.two {K : PySem.W.Frag} {fd : FuncData} {a b : Str} (h : ∀ u w : Value, bindArgs fd ⟨[u], [(b, w)]⟩ = pure [(a, u), (b, w)]) : KBinds K fd [a, b] [b] g2 gV2 :=
  ⟨fun s us ws _ hl => by
    match us, ws, hl with
    | [u], [w], _ => exact .of_eq (h u w)
    | [], _, hl => simp [g2] at hl
    | _ :: _ :: _, _, hl => simp [g2] at hl
    | [_], [], hl => simp [g2] at hl
    | [_], _ :: _ :: _, hl => simp [g2] at hl, fun {vs us zs ws} r rz => by
    cases r with
    | nil => exact .nil
    | cons r1 r2 =>
      cases r2 with
      | cons _ _ => exact .nil
      | nil =>
        cases rz with
        | nil => exact .nil
        | cons z1 z2 =>
          cases z2 with
          | nil => exact .cons r1 (.cons z1 .nil)
          | cons _ _ => exact .nil⟩
def tMethK (C : Addr) (m : Str) (sp : Sp) (E : XK) (ta : TE) (tk : TA) : TE := fun σ H Q => ta σ H fun x H1 => ∃ a dx fs, x = .ref a ∧ H1 a = some (.ins C dx fs) ∧ fs.lookup m = none ∧ tk σ H1 fun zs H2 => sp (gV2 [x] zs) H2 Q E
theorem pe_methK {X : Cx} {CX : CXT} {k : Nat} {C f : Addr} {m : Str} {fd : FuncData} {ps ks : List Str} {sp : Sp} {E : XK} {o : Expr} {kws : List Keyword} {ta : TE} {tk : TA} {apos pos : Pos} {pl : Sem Bool} (he : PE X o ta) (c : Cls X.K C) (hm : Meth X.K C m f) (F : FnOk X.prog X.w X.K X.mg X.base CX k f fd ps sp) (hr : Room k X.A)
    (hb : KBinds X.K fd ps ks g2 gV2) (hx : Passes CX X E) (hkw : PK X kws tk)
    (hall : (backToKw pos (keywordEach kws X.env)).all (·.1.isSome) = true := by rfl) (hks : (backToKw pos (keywordEach kws X.env)).filterMap (·.1) = ks := by rfl)
    (hpl : ((backTo pos (starEach [] X.env)).any (·.1) || (backToKw pos (keywordEach kws X.env)).any (·.1.isNone)) = false := by rfl)
    (ht : eval (.Call (.Attribute o m apos) [] kws pos) X.env = (do
      let ov ← eval o X.env
      standAt apos.atName
      let (f, first) ← holding [ov] (getMethod ov m pl)
      callWith pos f first (backTo pos (starEach [] X.env)) (backToKw pos (keywordEach kws X.env))) := by rfl) :
    PE X (.Call (.Attribute o m apos) [] kws pos) (tMethK C m sp E ta tk) := by
  constructor
  intro pins s0 σ H W J w
  have obj := he.run pins s0 σ H _ J w
  refine PySem.W.methodCall_KW (pl := pl) (thn obj ?_) ht
  rintro _ s1 ⟨_, H1, J1, rel, a, dx, fs, rfl, ea, lk, w1⟩
  cases rel
  refine getmeth_ok J1 ea c hm lk (PySem.W.callWith_KW0 (h₀ := X.base) (first := [.ref a]) J.ok.mod.kin hm.kp hall (thn (hkw.run pos pins s1 σ H1 _ J1 w1) ?_) hpl)
  rintro vals s2 ⟨zs, H2, J2, rz, w2⟩
  refine ⟨J2.kIn, ?_⟩
  rw [hks]
  exact run_fnk (us := [.ref a]) (vs := [.ref a]) F hr hb hx J2 (Paired.cons rfl Paired.nil) rz w2
end L2

/-! try: .. except x1 as n: .. except x2 as n: ..; one of the clauses takes whatever the body lets out. -/
namespace L2
open PySem PySem.Spec PyProof.Rows
abbrev Suite := Addr → Value → Option Addr → TS
/-- behind a clause its name is gone -/
def Ends.gone (D : Ends) (i : Nat) : Ends where
  nx := fun τ G => D.nx (τ.set i none) G
  rt := D.rt
  bk := fun τ G => D.bk (τ.set i none) G
  ct := fun τ G => D.ct (τ.set i none) G
/-- the first clause that fits has what it wants -/
def Fits (K : PySem.W.Frag) (i : Nat) (D : Ends) : List (Value × Suite) → WX
  | [] => fun _ _ _ _ => False
  | one :: more => fun cls d τ G => (PySem.W.exmOne K cls one.1 = some true ∧ ∀ a, G a = none → one.2 a cls d (D.gone i) (τ.set i (some (.ref a))) G) ∨ (PySem.W.exmOne K cls one.1 = some false ∧ Fits K i D more cls d τ G)
inductive Clauses (X : Cx) (n : Str) : List ExceptHandler → List (Value × Suite) → Prop
  | nil : Clauses X n [] []
  | cons {x : Str} {one : Value × Suite} {st : Stmt} {sts : List Stmt} {p1 p2 : Pos} {hs : List ExceptHandler} {more : List (Value × Suite)} (named : Names X x one.1)
      (suite : ∀ (a : Addr) (oe : Obj) (cls : Value) (d : Option Addr) (pn : List (Addr × Obj)), Zc cls d oe → (∃ vs, oe.data = .fields vs) → PSs (X.suite a ((a, oe) :: pn)) (st :: sts) (one.2 a cls d)) (rest : Clauses X n hs more) :
      Clauses X n (.ExceptHandler (some (.Name x p1)) (some n) (st :: sts) p2 :: hs) (one :: more)
section
variable {X : Cx} {n : Str} {i : Nat} {D : Ends} {pins : List (Addr × Obj)} {τ : St} {G : Hp} {a B : Addr} {cls : Value} {d : Option Addr}
/-- the handlers, once the exception at a has landed: every landing of it keeps the invariant, and a is apart -/
theorem fits_go {base : Heap} {hp : Heap} {s0 : Shared} {oe : Obj} {vs : Array Value} (nd : X.N.Nodup) (slot : X.N[i]? = some n) (loc : X.env.kindOf n = some .local) (stk : X.stack = X.env :: X.outer) (frm : X.env.frame = some X.env.locals)
    (fly : HandSPX.FlyingZ base (X.env :: X.outer) a (Zc cls d) hp) (inv : ∀ h', HandSPX.FlyingZ base (X.env :: X.outer) a (Zc cls d) h' → hp.UpToSlots h' → Inv X pins τ G { s0 with heap := h' }) (here : Inv X pins τ G { s0 with heap := hp }) (free : G a = none) (apart : a ≠ X.env.locals ∧ a ∉ X.fs)
    (obj : hp.get? a = some oe) (of : Zc cls d oe) (dat : oe.data = .fields vs) :
    ∀ {hs : List ExceptHandler} {l : List (Value × Suite)}, Clauses X n hs l → Fits X.K i D l cls d τ G → wpAny (model X.prog X.w) X.A (handleBy (.ref a) X.env hs) (SP X pins D) X.xe { s0 with heap := hp } := by
  intro hs l cl
  induction cl with
  | nil => exact fun z => z.elim
  | @cons x one st sts p1 p2 hs more named suite rest ih =>
    intro w
    have inSuite := here.suite obj dat free apart.1 apart.2
    have kind : PySem.W.Looks (model X.prog X.w) hp (typeOf (.ref a)) cls := fun _ _ _ _ keep z => wpAny_typeOf_ref (keep _ _ obj) (by rw [of.1]; exact z)
    refine wpAny_handleBy_cons (codeAny_handlers_test ?_) (fun z => by cases z)
    have asked : ∀ {Q : Value → Shared → Prop} {E : Value → Shared → Prop}, Q one.1 { s0 with heap := hp } → wpAny (model X.prog X.w) (X.A.mark (some (.ref a))) (eval (.Name x p1) X.env) Q E { s0 with heap := hp } := by
      intro Q E z
      rcases named with ⟨gl, nodebug, own | ⟨none_, boot, noname⟩⟩
      · exact ld_glob (X := X.suite a ((a, oe) :: (X.pn ++ pins))) inSuite gl own z nodebug
      · exact ld_blt (X := X.suite a ((a, oe) :: (X.pn ++ pins))) inSuite gl none_ boot z noname nodebug
    rcases w with ⟨yes, w⟩ | ⟨no, w⟩
    · refine asked ((PySem.W.exm_one (M := model X.prog X.w) here.kIn kind yes).here (codeAny_handlers_suite_as (HandSPX.lands_againZ fly fun h4 fly4 up4 => ?_)))
      have J := inv h4 fly4 up4
      obtain ⟨o4, v4, g4, z4, d4⟩ := fly4.there
      refine store_ok (X := X.suite a ((a, o4) :: (X.pn ++ pins))) (v := .ref a) (J.suite g4 d4 free apart.1 apart.2) nd slot (.inl loc) rfl (fun s5 J5 => ?_) (.inr loc)
      refine wpAny_mono ((suite a o4 cls d (X.pn ++ pins) z4 ⟨_, d4⟩).run [] s5 _ G (D.gone i) J5 (w a free)) (fun fl s6 z => ?_) (fun _ _ z => z.elim)
      have leave : ∀ {τ6 : St} {G6 : Hp} {R : Shared → Prop}, Inv (X.suite a ((a, o4) :: (X.pn ++ pins))) [] τ6 G6 s6 → (∀ s7, Inv X pins (τ6.set i none) G6 s7 → R s7) → wpAny (model X.prog X.w) X.A (do bindName X.env n .none; unbindBehindTheSuite X.env n p2) (fun _ s7 => R s7) X.xe s6 :=
        fun J6 k => gone_ok (J6.unsuite here.ok) nd slot loc k
      cases fl with
      | ret u => obtain ⟨v6, τ6, G6, J6, r6, q6⟩ := z; exact leave J6 fun s7 J7 => ⟨v6, _, G6, J7, r6, q6⟩
      | next => obtain ⟨τ6, G6, J6, q6⟩ := z; exact leave J6 fun s7 J7 => ⟨_, G6, J7, q6⟩
      | brk => obtain ⟨τ6, G6, J6, q6⟩ := z; exact leave J6 fun s7 J7 => ⟨_, G6, J7, q6⟩
      | cont => obtain ⟨τ6, G6, J6, q6⟩ := z; exact leave J6 fun s7 J7 => ⟨_, G6, J7, q6⟩
    · exact asked ((PySem.W.exm_one (M := model X.prog X.w) here.kIn kind no).here (ih w))
end
section
variable {X : Cx} {n : Str} {i : Nat} {body : List Stmt} {h0 : ExceptHandler} {hs : List ExceptHandler} {l : List (Value × Suite)} {pos : Pos} {tb : WX → TS}
theorem ps_try_fits (stk : X.stack = X.env :: X.outer) (frm : X.env.frame = some X.env.locals) (nd : X.N.Nodup) (slot : X.N[i]? = some n) (loc : X.env.kindOf n = some .local)
    (inner : ∀ (W : WX) (pn : List (Addr × Obj)) (xe : Value → Shared → Prop), Takes (X.tr pn xe) W → PassesOwn (model X.prog X.w) X.A X.env xe → PSs (X.tr pn xe) body (tb W))
    (cl : Clauses X n (h0 :: hs) l) : PS X (.Try body (h0 :: hs) [] [] pos) (fun D σ H => tb (Fits X.K i D l) D σ H) := by
  constructor
  intro pins s σ H D I w
  have frames : X.A.frames = some (X.env :: X.outer) := stk ▸ I.ok.frames
  have catching : Takes (X.tr (X.pn ++ pins) (fun ex s1 => wpAny (model X.prog X.w) X.A (noteFrame ex X.env) (fun _ s2 => wpAny (model X.prog X.w) X.A (setFlight ex none) (fun _ s3 => wpAny (model X.prog X.w) X.A (handleBy ex X.env (h0 :: hs)) (SP X pins D) X.xe s3) X.xe s2) X.xe s1)) (Fits X.K i D l) := by
    rintro _ s1 ⟨a, B, sI, _, τ, G, cls, d, rfl, J0, ground, up, sky, free, os, bare, fit⟩
    have J : Inv X pins τ G sI := J0.ofTry I.ok
    have any : ∀ h', HandSPX.FlyingZ B (X.env :: X.outer) a (Zc cls d) h' → s1.heap.UpToSlots h' → Inv X pins τ G { s1 with heap := h' } := fun h' fly to => J.landed ground fly.1 (up.trans to) os bare
    refine Sky.land Zc.steady frames frm (stk ▸ sky) fun h3 fly to => ?_
    obtain ⟨o3, v3, g3, z3, d3⟩ := fly.there
    have out : a ∉ frs (X.env :: X.outer) := fun inn => by
      obtain ⟨_, o, go, nofields⟩ := fly.2.2.1.mem inn
      exact nofields v3 (by rw [← d3, Option.some.inj (g3.symm.trans go)])
    refine fits_go (oe := o3) (vs := v3) (s0 := s1) nd slot loc stk frm fly (fun h' f2 t2 => any h' f2 (to.trans t2)) (any h3 fly to) free ⟨fun z => out ?_, fun z => out ?_⟩ g3 z3 d3 cl fit
    · exact List.mem_filterMap.mpr ⟨X.env, by simp, z ▸ frm⟩
    · obtain ⟨en, inOuter, fr⟩ := List.mem_filterMap.mp z
      exact List.mem_filterMap.mpr ⟨en, by simp [inOuter], fr⟩
  refine wpAny_Try_except (wpAny_mono ((inner _ _ _ catching PassesOwn.looking).run [] s σ H D (I.toTry _) w) (fun fl s1 z => ?_) (fun _ _ z => z))
  cases fl with
  | ret u => obtain ⟨v, τ, G, J, rel, q⟩ := z; exact ⟨v, τ, G, J.ofTry I.ok, rel, q⟩
  | next => obtain ⟨τ, G, J, q⟩ := z; exact wpAny_execs_nil ⟨τ, G, J.ofTry I.ok, q⟩
  | brk => obtain ⟨τ, G, J, q⟩ := z; exact ⟨τ, G, J.ofTry I.ok, q⟩
  | cont => obtain ⟨τ, G, J, q⟩ := z; exact ⟨τ, G, J.ofTry I.ok, q⟩
end
end L2

/-! x(lambda: body): the lambda is called by a def with one parameter; no repr is under way. -/
namespace L2
open PySem PySem.Spec PyProof.Rows LamX
/-- the def that calls what it got -/
def GivesTo1 (X : Cx) (Ng : List Str) (x : Str) (sg : Scope) (g : Addr) (cdg : Value) (bg : List Stmt) (a : Str) (q : Str) (k : Nat) (TT : (XK → Hp → VK → Prop) → Hp → VK → Prop) : Prop :=
  ∀ (f c' : Addr) (s : Shared) (H : Hp) (Q : VK) (tl : XK → Hp → VK → Prop),
    (∀ (W : WX) (pn : List (Addr × Obj)) (xe : Value → Shared → Prop) (p1 p2 : Pos), Takes ((cxOf C8.CX0 X.prog X.w X.K X.mg X.base Ng x sg g cdg X.A X.stack s H C8.E0).tr pn xe) W →
      PE ((cxOf C8.CX0 X.prog X.w X.K X.mg X.base Ng x sg g cdg X.A X.stack s H C8.E0).tr pn xe) (.Call (.Name a p1) [] [] p2) (fun σZ HZ Q => σZ[0]? = some (some (.ref f)) ∧ HZ c' = some (CodeO c' q) ∧ tl (WE W σZ) HZ Q)) →
    Room k (X.A.deeper (envOfC x sg s.heap.objs.size g cdg)) → H c' = some (CodeO c' q) → TT tl H Q →
    ∃ t, PSs (cxOf C8.CX0 X.prog X.w X.K X.mg X.base Ng x sg g cdg X.A X.stack s H C8.E0).nox bg t ∧ t { nx := fun _ H' => Q .non H', rt := Q } (L2.start Ng [.ref f]) H
theorem pe_lamcall1 {X : Cx} {T : List (Addr × Str)} {TT : (XK → Hp → VK → Prop) → Hp → VK → Prop} {x a : Str} {g c P : Addr} {k : Nat} {pg : Arguments} {bg : List Stmt} {sg : Scope} {dV kV doc pm cdv ct oc : Value} {an od : Option Addr} {osl : Array (Option Value)} {Ng : List Str}
    {params : Arguments} {body : Expr} {scope : Scope} {t : XK → TE} {p lpos pos : Pos} (quiet : X.A.guards = some []) (gl : Gl X x) (mod : X.mg x = some (.ref g)) (keep : PySem.W.keepIn X.K (.ref g) = true)
    (lk : X.K.lookup g = some ⟨oc, od, .func (PySem.W.fnOf x x pg bg sg dV kV doc pm an cdv ct), osl⟩) (code : PySem.W.codeIn X.K cdv x = true) (binds : L2.Binds X.K (PySem.W.fnOf x x pg bg sg dV kV doc pm an cdv ct) [a] []) (Sg : FnScope Ng [a] sg) (first : Ng[0]? = some a) (seen : Vis sg a)
    (gives : GivesTo1 X Ng x sg g cdv bg a (X.env.qual ++ "<lambda>") (k + 1) TT)
    (TB : TabB X.base X.mg c P) (own : X.env.code = .ref c) (inT : (P, X.env.qual ++ "<lambda>") ∈ T) (one : ∀ p ∈ T, p.1 = P → p.2 = X.env.qual ++ "<lambda>") (room : Room (k + 2) X.A) (L : LamS X.env.scope scope) (nodef : defaultsOf params X.env = ([], []))
    (nobind : ∀ (q : Str) (cl : List (Str × Addr)) (pm cv ctv : Value), bindArgs (PySem.W.kla_fn "<lambda>" q params body scope cl pm cv ctv) ⟨[], []⟩ = pure [])
    (inside : ∀ (A : Around) (outer : List Env) (s : Shared) (H : Hp) (E : XK) (f c' : Addr), A.guards = some [] → Room k (A.deeper (lamEnv X scope s.heap.objs.size f c')) → PE (lamCx X A outer s H E scope f c') body (t E))
    (nd1 : (x == ("__debug__" : Str)) = false := by decide) (nd2 : (a == ("__debug__" : Str)) = false := by decide) (nc : (a == ("__classdict__" : Str)) = false := by decide) :
    PE X (.Call (.Name x p) [.Lambda params body scope lpos] [] pos) (fun σ H Q => Tabs T H ∧ ∀ H1, ExtN H H1 → Tabs T H1 → TT (fun E H' Q' => t E σ H' Q') H1 Q) := by
  constructor
  rintro pins s0 σ H W J ⟨tabs, w⟩
  refine wpAny_Call_Name_kw (ld_glob J gl mod (PySem.W.callWith_K (h₀ := X.base) J.ok.mod.kin keep ?_ (by rfl) (by rfl)) nd1)
  show wpAny _ _ (spliced [(false, eval (.Lambda params body scope lpos) X.env)]) _ _ s0
  refine Calls.spliced_cons (lam_make2 J TB own inT one tabs nodef (L.has J.ok) fun f c' pm' ctv H1 s1 J1 grown tabs1 hf hfn hfr hco => Calls.spliced_nil ⟨J1.kIn, ?_⟩)
  have run : codeAny (model X.prog X.w) X.A (.call (.ref g) ⟨[.ref f], []⟩) (CR C8.CX0 X.stack X.prog X.w H1 s1 W C8.E0) s1 := by
    refine run_ofS (N := Ng) (ps := [a]) (us := [.ref f]) (vs := [.ref f]) lk code Sg room J1.env0 (binds s1 [.ref f] J1.kIn rfl) (show Vals [V.ref f] [Value.ref f] from .cons rfl .nil) rfl fun room2 => ?_
    obtain ⟨ts, hts, hq⟩ := gives f c' s1 H1 W (fun E H' Q' => t E σ H' Q') (fun V0 pn xe p1 p2 tk => pe_actG (i := 0) quiet J1 L hf hfn hfr (nobind _ _ _ _ _) tk room2 (fun A outer s H E q r => inside A outer s H E f c' q r) first seen nd2 nc) room2 hco (w H1 grown tabs1)
    exact ⟨ts, hts.nox, hq⟩
  have d := fun r s2 z => ended (X := X) (CX := C8.CX0) (E := C8.E0) (R := EP X pins σ W) (fun _ _ _ _ _ _ _ z => (show False from z).elim) J1 (fun _ _ y => y) r s2 z
  refine wpAny_call (codeAny_mono run fun r s2 z => ?_)
  have y := d r s2 z
  cases r with
  | error er => exact y
  | ok fl =>
    cases fl with
    | ret u => exact y
    | _ => exact y.elim
end L2

/-! x(lambda: body, y): the lambda is called by a def with two parameters; no repr is under way. -/
namespace L2
open PySem PySem.Spec PyProof.Rows LamX
/-- a name of the frame is read, and the state stays -/
theorem slot_read {X : Cx} {pins : List (Addr × Obj)} {σ : L2.St} {H : Hp} {s0 : Shared} {i : Nat} {y : Str} {pos : Pos} {v : V} (J : Inv X pins σ H s0) (nth : X.N[i]? = some y) (vis : Vis X.env.scope y) (at_ : σ[i]? = some (some v)) (nd : (y == ("__debug__" : Str)) = false) (nc : (y == ("__classdict__" : Str)) = false) :
    ∃ u, RelV v u ∧ ∀ (W E : Value → Shared → Prop), W u s0 → wpAny (model X.prog X.w) X.A (eval (.Name y pos) X.env) W E s0 := by
  obtain ⟨m, ns, slots⟩ := J.loc
  obtain ⟨u, rel, look⟩ := slots i y v nth at_ vis
  refine ⟨u, rel, fun W E w => wpAny_Name ?_ nd⟩
  rcases look with ⟨kind, here⟩ | ⟨kind | kind, c, has, cell⟩
  · exact wpAny_loadName_local J.ok.kind kind ns here w
  · exact wpAny_loadName_cell J.ok.kind kind has cell w
  · exact wpAny_loadName_free J.ok.kind kind has cell w nc
/-- the def that calls what it got, with a second argument -/
def GivesTo2 (X : Cx) (Ng : List Str) (x : Str) (sg : Scope) (g : Addr) (cdg : Value) (bg : List Stmt) (a : Str) (q : Str) (k : Nat) (TT : V → (XK → Hp → VK → Prop) → Hp → VK → Prop) : Prop :=
  ∀ (f c' : Addr) (s : Shared) (H : Hp) (v2 : V) (Q : VK) (tl : XK → Hp → VK → Prop),
    (∀ (W : WX) (pn : List (Addr × Obj)) (xe : Value → Shared → Prop) (p1 p2 : Pos), Takes ((cxOf C8.CX0 X.prog X.w X.K X.mg X.base Ng x sg g cdg X.A X.stack s H C8.E0).tr pn xe) W →
      PE ((cxOf C8.CX0 X.prog X.w X.K X.mg X.base Ng x sg g cdg X.A X.stack s H C8.E0).tr pn xe) (.Call (.Name a p1) [] [] p2) (fun σZ HZ Q => σZ[0]? = some (some (.ref f)) ∧ HZ c' = some (CodeO c' q) ∧ tl (WE W σZ) HZ Q)) →
    Room k (X.A.deeper (envOfC x sg s.heap.objs.size g cdg)) → H c' = some (CodeO c' q) → TT v2 tl H Q →
    ∃ t, PSs (cxOf C8.CX0 X.prog X.w X.K X.mg X.base Ng x sg g cdg X.A X.stack s H C8.E0).nox bg t ∧ t { nx := fun _ H' => Q .non H', rt := Q } (L2.start Ng [.ref f, v2]) H
theorem pe_lamcall2 {X : Cx} {T : List (Addr × Str)} {TT : V → (XK → Hp → VK → Prop) → Hp → VK → Prop} {x a b : Str} {g c P : Addr} {k : Nat} {pg : Arguments} {bg : List Stmt} {sg : Scope} {dV kV doc pm cdv ct oc : Value} {an od : Option Addr} {osl : Array (Option Value)} {Ng : List Str}
    {params : Arguments} {body : Expr} {scope : Scope} {t : XK → TE} {p lpos pos : Pos} {j : Nat} {y : Str} {py : Pos} (quiet : X.A.guards = some []) (gl : Gl X x) (mod : X.mg x = some (.ref g)) (keep : PySem.W.keepIn X.K (.ref g) = true)
    (lk : X.K.lookup g = some ⟨oc, od, .func (PySem.W.fnOf x x pg bg sg dV kV doc pm an cdv ct), osl⟩) (code : PySem.W.codeIn X.K cdv x = true) (binds : L2.Binds X.K (PySem.W.fnOf x x pg bg sg dV kV doc pm an cdv ct) [a, b] []) (Sg : FnScope Ng [a, b] sg) (first : Ng[0]? = some a) (seen : Vis sg a)
    (gives : GivesTo2 X Ng x sg g cdv bg a (X.env.qual ++ "<lambda>") (k + 1) TT)
    (TB : TabB X.base X.mg c P) (own : X.env.code = .ref c) (inT : (P, X.env.qual ++ "<lambda>") ∈ T) (one : ∀ p ∈ T, p.1 = P → p.2 = X.env.qual ++ "<lambda>") (room : Room (k + 2) X.A) (L : LamS X.env.scope scope) (nodef : defaultsOf params X.env = ([], []))
    (nobind : ∀ (q : Str) (cl : List (Str × Addr)) (pm cv ctv : Value), bindArgs (PySem.W.kla_fn "<lambda>" q params body scope cl pm cv ctv) ⟨[], []⟩ = pure [])
    (inside : ∀ (A : Around) (outer : List Env) (s : Shared) (H : Hp) (E : XK) (f c' : Addr), A.guards = some [] → Room k (A.deeper (lamEnv X scope s.heap.objs.size f c')) → PE (lamCx X A outer s H E scope f c') body (t E))
    (nth : X.N[j]? = some y) (visy : Vis X.env.scope y)
    (nd1 : (x == ("__debug__" : Str)) = false := by decide) (nd2 : (a == ("__debug__" : Str)) = false := by decide) (nc : (a == ("__classdict__" : Str)) = false := by decide) (nd3 : (y == ("__debug__" : Str)) = false := by decide) (nc3 : (y == ("__classdict__" : Str)) = false := by decide) :
    PE X (.Call (.Name x p) [.Lambda params body scope lpos, .Name y py] [] pos) (fun σ H Q => Tabs T H ∧ ∃ v2, σ[j]? = some (some v2) ∧ ∀ H1, ExtN H H1 → Tabs T H1 → TT v2 (fun E H' Q' => t E σ H' Q') H1 Q) := by
  constructor
  rintro pins s0 σ H W J ⟨tabs, v2, at2, w⟩
  refine wpAny_Call_Name_kw (ld_glob J gl mod (PySem.W.callWith_K (h₀ := X.base) J.ok.mod.kin keep ?_ (by rfl) (by rfl)) nd1)
  show wpAny _ _ (spliced ((false, eval (.Lambda params body scope lpos) X.env) :: backTo pos (starEach [.Name y py] X.env))) _ _ s0
  refine Calls.spliced_cons (lam_make2 J TB own inT one tabs nodef (L.has J.ok) fun f c' pm' ctv H1 s1 J1 grown tabs1 hf hfn hfr hco => ?_)
  show wpAny _ _ (spliced ((false, eval (.Name y py) X.env) :: backTo pos (starEach [] X.env))) _ _ s1
  obtain ⟨u2, rel2, read⟩ := slot_read (pos := py) J1 nth visy at2 nd3 nc3
  refine Calls.spliced_cons (read _ _ (Calls.spliced_nil ⟨J1.kIn, ?_⟩))
  have run : codeAny (model X.prog X.w) X.A (.call (.ref g) ⟨[.ref f, u2], []⟩) (CR C8.CX0 X.stack X.prog X.w H1 s1 W C8.E0) s1 := by
    refine run_ofS (N := Ng) (ps := [a, b]) (us := [.ref f, u2]) (vs := [.ref f, v2]) lk code Sg room J1.env0 (binds s1 [.ref f, u2] J1.kIn rfl) (show Vals [V.ref f, v2] [Value.ref f, u2] from .cons rfl (.cons rel2 .nil)) rfl fun room2 => ?_
    obtain ⟨ts, hts, hq⟩ := gives f c' s1 H1 v2 W (fun E H' Q' => t E σ H' Q') (fun V0 pn xe p1 p2 tk => pe_actG (i := 0) quiet J1 L hf hfn hfr (nobind _ _ _ _ _) tk room2 (fun A outer s H E q r => inside A outer s H E f c' q r) first seen nd2 nc) room2 hco (w H1 grown tabs1)
    exact ⟨ts, hts.nox, hq⟩
  have d := fun r s2 z => ended (X := X) (CX := C8.CX0) (E := C8.E0) (R := EP X pins σ W) (fun _ _ _ _ _ _ _ z => (show False from z).elim) J1 (fun _ _ y => y) r s2 z
  refine wpAny_call (codeAny_mono run fun r s2 z => ?_)
  have y := d r s2 z
  cases r with
  | error er => exact y
  | ok fl =>
    cases fl with
    | ret u => exact y
    | _ => exact y.elim
end L2

/-! C.m(e, ..) and C.m() of a classmethod, o.m(e, ..) that may raise: where no repr is under way. -/
namespace L2
open PySem PySem.Spec PyProof.Rows
theorem pe_cmethG {X : Cx} {CX : CXT} {n : Nat} {C p g : Addr} {mc : Value} {pr : Sp} {E : XK} {o e : Expr} {es : List Expr} {m : Str} {pos apos : Pos} {ta : TE} {t : TA} {pl : Sem Bool} (ob : PE X o ta) (rd : ClX.CRead X.K C mc) (met : ClX.CMet X.K C mc m p g) (F : FnRG X.prog X.w X.K X.mg X.base CX n g pr) (quiet : X.A.guards = some []) (room : Room n X.A) (pass : Passes CX X E) (args : PA X (e :: es) t)
    (st : starEach (e :: es) X.env = (false, eval e X.env) :: starEach es X.env := by rfl) (pn : (backTo pos (starEach es X.env)).any (·.1) = false := by rfl)
    (ht : eval (.Call (.Attribute o m apos) (e :: es) [] pos) X.env = (eval o X.env >>= fun ov => standAt apos.atName >>= fun _ => holding [ov] (getMethod ov m pl) >>= fun fb => callWith pos fb.1 fb.2 (backTo pos (starEach (e :: es) X.env)) (backToKw pos (keywordEach [] X.env))) := by rfl) :
    PE X (.Call (.Attribute o m apos) (e :: es) [] pos) (ClX.tCMeth C pr E ta t) := by
  constructor
  intro pins s0 σ H W J w
  refine PySem.W.methodCall_KW (pl := pl) (thn (ob.run pins s0 σ H _ J w) ?_) ht
  rintro _ s1 ⟨_, H1, J1, rel, rfl, w1⟩
  cases rel
  have unknown := ClX.base_none J1 (Nat.le_refl _)
  refine ClX.getmethcm_ok J1 rd met fun s2 J2 => ClX.callwith_cm J2 unknown met.fi (thn (args.run pos _ s2 σ H1 _ J2 w1) ?_) st pn
  rintro us s3 ⟨as, H2, J3, rv, w2⟩
  have run := F X.A X.stack s3 H2 (.ref C :: us) (.ref C :: as) W E quiet room J3.env0 (.cons rfl rv) w2
  refine ⟨⟨ClX.pin_at J3, J3.kIn⟩, wpAny_call (PySem.W.method_call (ClX.pin_at J3) (codeAny_mono run fun r s4 z => ?_))⟩
  have y := ended (R := EP X pins σ W) pass J3 (fun _ _ q => ClX.unpinE q) r s4 z
  cases r with
  | error er => exact y
  | ok fl =>
    cases fl with
    | ret u => exact y
    | _ => exact y.elim
/-- C.m() -/
theorem pe_cmeth0 {X : Cx} {CX : CXT} {n : Nat} {C p g : Addr} {mc : Value} {pr : Sp} {E : XK} {o : Expr} {m : Str} {pos apos : Pos} {ta : TE} {pl : Sem Bool} (ob : PE X o ta) (rd : ClX.CRead X.K C mc) (met : ClX.CMet X.K C mc m p g) (F : FnR X.prog X.w X.K X.mg X.base CX n g pr) (room : Room n X.A) (pass : Passes CX X E)
    (ht : eval (.Call (.Attribute o m apos) [] [] pos) X.env = (eval o X.env >>= fun ov => standAt apos.atName >>= fun _ => holding [ov] (getMethod ov m pl) >>= fun fb => callWith pos fb.1 fb.2 (backTo pos (starEach [] X.env)) (backToKw pos (keywordEach [] X.env))) := by rfl) :
    PE X (.Call (.Attribute o m apos) [] [] pos) (fun σ H Q => ta σ H fun x H1 => x = .ref C ∧ pr [.ref C] H1 Q E) := by
  constructor
  intro pins s0 σ H W J w
  refine PySem.W.methodCall_KW (pl := pl) (thn (ob.run pins s0 σ H _ J w) ?_) ht
  rintro _ s1 ⟨_, H1, J1, rel, rfl, w1⟩
  cases rel
  exact ClX.getmethcm_ok J1 rd met fun s2 J2 => PySem.W.callWith_M0 (K := X.K) ⟨ClX.pin_at J2, J2.kIn⟩ met.fi (ClX.run_cm F room pass J2 .nil w1)
def tMethW (C : Addr) (m : Str) (sp : Sp) (E : St → XK) (ta : TE) (t : TA) : TE := fun σ H Q => ta σ H fun x H1 => ∃ a dx fs, x = .ref a ∧ H1 a = some (.ins C dx fs) ∧ fs.lookup m = none ∧ t σ H1 fun vs H2 => sp (x :: vs) H2 Q (E σ)
/-- o.m(e, ..), where no repr is under way; what is let out goes by the slots -/
theorem pe_methW {X : Cx} {CX : CXT} {n : Nat} {C g : Addr} {m : Str} {fd : FuncData} {ps : List Str} {pr : Sp} {E : St → XK} {o e : Expr} {es : List Expr} {ta : TE} {t : TA} {apos pos : Pos} {pl : Sem Bool} (ob : PE X o ta) (c : Cls X.K C) (met : Meth X.K C m g) (F : FnG X.prog X.w X.K X.mg X.base CX n g fd ps pr) (quiet : X.A.guards = some []) (room : Room n X.A) (bn : Binds X.K fd ps []) (pass : ∀ σ, PassesAt CX X σ (E σ)) (args : PA X (e :: es) t)
    (st : starEach (e :: es) X.env = (false, eval e X.env) :: starEach es X.env := by rfl) (pn : (backTo pos (starEach es X.env)).any (·.1) = false := by rfl)
    (ht : eval (.Call (.Attribute o m apos) (e :: es) [] pos) X.env = (eval o X.env >>= fun ov => standAt apos.atName >>= fun _ => holding [ov] (getMethod ov m pl) >>= fun fb => callWith pos fb.1 fb.2 (backTo pos (starEach (e :: es) X.env)) (backToKw pos (keywordEach [] X.env))) := by rfl) :
    PE X (.Call (.Attribute o m apos) (e :: es) [] pos) (tMethW C m pr E ta t) := by
  constructor
  intro pins s0 σ H W J w
  refine PySem.W.methodCall_KW (pl := pl) (thn (ob.run pins s0 σ H _ J w) ?_) ht
  rintro _ s1 ⟨_, H1, J1, rel, a, dx, fs, rfl, ea, lk, w1⟩
  cases rel
  refine getmeth_ok J1 ea c met lk (PySem.W.callWith_K (first := [.ref a]) (h₀ := X.base) J.ok.mod.kin met.kp (thn (args.run pos pins s1 σ H1 _ J1 w1) ?_) st pn)
  rintro us s2 ⟨as, H2, J2, rv, w2⟩
  have all : Vals (.ref a :: as) (.ref a :: us) := .cons rfl rv
  have many : ((Value.ref a :: us) ++ []).length = ps.length := by
    rw [List.append_nil]
    exact all.length.symm.trans (F.len _ _ _ _ w2)
  have bound := bn s2 (.ref a :: us) J2.kIn many
  rw [List.append_nil] at bound
  have run := F.run X.A X.stack s2 H2 ⟨.ref a :: us, []⟩ (.ref a :: us) (.ref a :: as) W (E σ) quiet room J2.env0 bound all w2
  refine ⟨J2.kIn, wpAny_call (codeAny_mono run ?_)⟩
  rintro (er | fl) s3 z
  · exact pass σ pins H2 s2 er s3 J2 z
  · cases fl with
    | ret u => exact J2.after z
    | _ => exact z.elim
def tMethX (C : Addr) (m : Str) (sp : Sp) (E : XK) (ta : TE) (t : TA) : TE := fun σ H Q => ta σ H fun x H1 => ∃ a dx fs, x = .ref a ∧ H1 a = some (.ins C dx fs) ∧ fs.lookup m = none ∧ t σ H1 fun vs H2 => sp (x :: vs) H2 Q E
/-- o.m(e, ..), where no repr is under way; it may raise -/
theorem pe_methX {X : Cx} {CX : CXT} {n : Nat} {C g : Addr} {m : Str} {fd : FuncData} {ps : List Str} {pr : Sp} {E : XK} {o e : Expr} {es : List Expr} {ta : TE} {t : TA} {apos pos : Pos} {pl : Sem Bool} (ob : PE X o ta) (c : Cls X.K C) (met : Meth X.K C m g) (F : FnG X.prog X.w X.K X.mg X.base CX n g fd ps pr) (quiet : X.A.guards = some []) (room : Room n X.A) (bn : Binds X.K fd ps []) (pass : Passes CX X E) (args : PA X (e :: es) t)
    (st : starEach (e :: es) X.env = (false, eval e X.env) :: starEach es X.env := by rfl) (pn : (backTo pos (starEach es X.env)).any (·.1) = false := by rfl)
    (ht : eval (.Call (.Attribute o m apos) (e :: es) [] pos) X.env = (eval o X.env >>= fun ov => standAt apos.atName >>= fun _ => holding [ov] (getMethod ov m pl) >>= fun fb => callWith pos fb.1 fb.2 (backTo pos (starEach (e :: es) X.env)) (backToKw pos (keywordEach [] X.env))) := by rfl) :
    PE X (.Call (.Attribute o m apos) (e :: es) [] pos) (tMethX C m pr E ta t) := by
  constructor
  intro pins s0 σ H W J w
  refine PySem.W.methodCall_KW (pl := pl) (thn (ob.run pins s0 σ H _ J w) ?_) ht
  rintro _ s1 ⟨_, H1, J1, rel, a, dx, fs, rfl, ea, lk, w1⟩
  cases rel
  refine getmeth_ok J1 ea c met lk (PySem.W.callWith_K (first := [.ref a]) (h₀ := X.base) J.ok.mod.kin met.kp (thn (args.run pos pins s1 σ H1 _ J1 w1) ?_) st pn)
  rintro us s2 ⟨as, H2, J2, rv, w2⟩
  exact ⟨J2.kIn, run_fnG (vs := .ref a :: as) (us := .ref a :: us) F quiet room bn .nil pass J2 (.cons rfl rv) (by rw [List.append_nil]; exact w2)⟩
/-- o.m(e, ..), where no repr is under way; with no defaults -/
theorem pe_methG0 {X : Cx} {CX : CXT} {n : Nat} {C g : Addr} {m : Str} {fd : FuncData} {ps : List Str} {pr : Sp} {E : XK} {o e : Expr} {es : List Expr} {ta : TE} {t : TA} {apos pos : Pos} {pl : Sem Bool} (ob : PE X o ta) (c : Cls X.K C) (met : Meth X.K C m g) (F : FnG X.prog X.w X.K X.mg X.base CX n g fd ps pr) (quiet : X.A.guards = some []) (room : Room n X.A) (bn : Binds X.K fd ps []) (pass : Passes CX X E) (args : PA X (e :: es) t)
    (st : starEach (e :: es) X.env = (false, eval e X.env) :: starEach es X.env := by rfl) (pn : (backTo pos (starEach es X.env)).any (·.1) = false := by rfl)
    (ht : eval (.Call (.Attribute o m apos) (e :: es) [] pos) X.env = (eval o X.env >>= fun ov => standAt apos.atName >>= fun _ => holding [ov] (getMethod ov m pl) >>= fun fb => callWith pos fb.1 fb.2 (backTo pos (starEach (e :: es) X.env)) (backToKw pos (keywordEach [] X.env))) := by rfl) :
    PE X (.Call (.Attribute o m apos) (e :: es) [] pos) (tMeth C m pr [] E ta t) := by
  constructor
  intro pins s0 σ H W J w
  refine PySem.W.methodCall_KW (pl := pl) (thn (ob.run pins s0 σ H _ J w) ?_) ht
  rintro _ s1 ⟨_, H1, J1, rel, a, dx, fs, rfl, ea, lk, w1⟩
  cases rel
  refine getmeth_ok J1 ea c met lk (PySem.W.callWith_K (first := [.ref a]) (h₀ := X.base) J.ok.mod.kin met.kp (thn (args.run pos pins s1 σ H1 _ J1 w1) ?_) st pn)
  rintro us s2 ⟨as, H2, J2, rv, w2⟩
  exact ⟨J2.kIn, run_fnG (vs := .ref a :: as) (us := .ref a :: us) F quiet room bn .nil pass J2 (.cons rfl rv) w2⟩
end L2

/-! The end of a law row without lambdas: the end with tables, of no tables -/
namespace L2
open PySem PySem.Spec PyProof.Rows LamX
theorem walk_quiet {l : PySem.W.OpenLaw} {n k : Nat} {q : Program} {loose : List Str} {XP : (Str → Option Value) → Heap → Prop} {YP : World → Heap → Prop} {d : DefRec} {K : Params → PySem.W.Frag} {CX : World → CXT} {sp : World → Sp} {x : Str}
    (most : l.most = some n) (line : n ≤ sizeLine) (plain : d.params.defaults = []) (room : Room k callerA) (keeps : ∀ (w : World) (h : Heap), YP w h → (K w.params).In h)
    (def_ : ∀ (w : World) (mg : Str → Option Value) (fa : Addr) (h : Heap), (K w.params).In h → h.Ns mainGlobals mg → mg d.name = some (.ref fa) →
      ∃ fd : FuncData, (∀ (s : Shared) (u : Value), BindsTo s fd ⟨[u], []⟩ [(x, u)]) ∧ ∀ base : Heap, (K w.params).In base → base.Ns mainGlobals mg → FnG l.prog w (K w.params) mg base (CX w) k fa fd [x] (sp w))
    (asked : ∀ (w : World) (H : Hp) (a : Addr) (ns : List Int), ns.length ≤ n → SqL (K w.params) H a (ns.map V.int) → sp w [.ref a] H (fun v _ => v = .bl true) fun _ _ _ => False)
    (none_ : ∀ (w : World) (G : Hp) (s0 : Shared) (er : Value) (s1 : Shared), CX w [] G s0 (fun _ _ _ => False) er s1 → False) : PySem.W.WalkO q loose XP YP l.row.toRowW d [] (fun f vs => PySem.call f vs) := by
  refine walk_ofT (x := x) most line plain room keeps ?_ none_
  intro w mg fa h _ K1 ns1 _ at_
  obtain ⟨fd, binds, F⟩ := def_ w mg fa h K1 ns1 at_
  exact ⟨fd, [], sp w, by simp, by simp, by simp, binds, fun H a ns few _ list => asked w H a ns few list, fun base KB nsB _ => F base KB nsB⟩
end L2

/-! Ratios as pairs in lowest terms. -/
namespace RA
/-- what top and bottom are divided by -/
def gB (t b : Int) : Int := if b < 0 then -(Int.gcd t b : Int) else (Int.gcd t b : Int)
def nf (t b : Int) : Int × Int := (t.fdiv (gB t b), b.fdiv (gB t b))
def Nrm (p : Int × Int) : Prop := 0 < p.2 ∧ Int.gcd p.1 p.2 = 1
theorem gcd_pos {t b : Int} (h : b ≠ 0) : 0 < Int.gcd t b := by
  rcases Nat.eq_zero_or_pos (Int.gcd t b) with e | e
  · exact absurd (Int.gcd_eq_zero_iff.mp e).2 h
  · exact e
theorem gB_ne {t b : Int} (h : b ≠ 0) : gB t b ≠ 0 := by
  have := gcd_pos (t := t) h
  unfold gB
  split <;> omega
theorem gB_dvd1 (t b : Int) : gB t b ∣ t := by
  unfold gB
  split
  · exact Int.neg_dvd.mpr (Int.gcd_dvd_left ..)
  · exact Int.gcd_dvd_left ..
theorem gB_dvd2 (t b : Int) : gB t b ∣ b := by
  unfold gB
  split
  · exact Int.neg_dvd.mpr (Int.gcd_dvd_right ..)
  · exact Int.gcd_dvd_right ..
theorem fdiv_dvd {a b : Int} (h : b ∣ a) : a.fdiv b * b = a := by
  rw [Int.fdiv_eq_ediv_of_dvd h]
  exact Int.ediv_mul_cancel h
theorem nf1 (t b : Int) : (nf t b).1 * gB t b = t := fdiv_dvd (gB_dvd1 t b)
theorem nf2 (t b : Int) : (nf t b).2 * gB t b = b := fdiv_dvd (gB_dvd2 t b)
theorem gB_abs (t b : Int) : (gB t b).natAbs = Int.gcd t b := by
  unfold gB
  split <;> omega
theorem nf_nrm {t b : Int} (h : b ≠ 0) : Nrm (nf t b) := by
  have hg := gB_ne (t := t) h
  have e1 := nf1 t b
  have e2 := nf2 t b
  have ha := gB_abs t b
  have hp := gcd_pos (t := t) h
  constructor
  · have hs : (b < 0 ∧ gB t b < 0) ∨ (0 < b ∧ 0 < gB t b) := by
      unfold gB
      rcases Int.lt_or_lt_of_ne h with hb | hb
      · exact .inl ⟨hb, by rw [if_pos hb]; omega⟩
      · exact .inr ⟨hb, by rw [if_neg (by omega)]; omega⟩
    rcases Int.lt_trichotomy (nf t b).2 0 with h0 | h0 | h0
    · rcases hs with ⟨hb, g⟩ | ⟨hb, g⟩
      · have := Int.mul_pos_of_neg_of_neg h0 g
        omega
      · have := Int.mul_neg_of_neg_of_pos h0 g
        omega
    · rw [h0] at e2
      omega
    · exact h0
  · have k : Int.gcd ((nf t b).1 * gB t b) ((nf t b).2 * gB t b) = Int.gcd (nf t b).1 (nf t b).2 * (gB t b).natAbs := Int.gcd_mul_right ..
    rw [e1, e2, ha] at k
    exact Nat.eq_of_mul_eq_mul_right hp (by rw [Nat.one_mul]; exact k.symm)
theorem fdiv_one (a : Int) : a.fdiv 1 = a := by
  rw [Int.fdiv_eq_ediv_of_nonneg a (by omega)]
  exact Int.ediv_one a
theorem nf_of {p : Int × Int} (h : Nrm p) : nf p.1 p.2 = p := by
  have e : gB p.1 p.2 = 1 := by
    unfold gB
    rw [if_neg (by have := h.1; omega), h.2]
    rfl
  unfold nf
  rw [e, fdiv_one, fdiv_one]
theorem nf_ofI {a b : Int} (h : Nrm (a, b)) : nf a b = (a, b) := nf_of h
theorem nrm_neg {a b : Int} (h : Nrm (a, b)) : Nrm (-a, b) := ⟨h.1, by have := h.2; show Int.gcd (-a) b = 1; rw [Int.neg_gcd]; exact this⟩
theorem nrm_int (n : Int) : Nrm (n, 1) := ⟨by show (0 : Int) < 1; decide, by show Int.gcd n 1 = 1; simp⟩
theorem nf_int (n : Int) : nf n 1 = (n, 1) := nf_of (nrm_int n)
theorem nf_negneg {a b : Int} (h : Nrm (a, b)) : nf (-a) (-b) = (a, b) := by
  have hb : 0 < b := h.1
  have hg : Int.gcd a b = 1 := h.2
  have e : gB (-a) (-b) = -1 := by
    unfold gB
    rw [if_pos (by omega), Int.neg_gcd, Int.gcd_neg, hg]
    rfl
  have k1 := nf1 (-a) (-b)
  have k2 := nf2 (-a) (-b)
  rw [e] at k1 k2
  refine Prod.ext ?_ ?_
  · show (nf (-a) (-b)).1 = a
    omega
  · show (nf (-a) (-b)).2 = b
    omega
theorem nf_le1 {t b : Int} (h : b ≠ 0) : (nf t b).1.natAbs ≤ t.natAbs := by
  have e := congrArg Int.natAbs (nf1 t b)
  rw [Int.natAbs_mul, gB_abs] at e
  have := gcd_pos (t := t) h
  rw [← e]
  exact Nat.le_mul_of_pos_right _ this
theorem nf_le2 {t b : Int} (h : b ≠ 0) : (nf t b).2.natAbs ≤ b.natAbs := by
  have e := congrArg Int.natAbs (nf2 t b)
  rw [Int.natAbs_mul, gB_abs] at e
  have := gcd_pos (t := t) h
  rw [← e]
  exact Nat.le_mul_of_pos_right _ this
/-- the loop's turn -/
theorem gcd_turn {l h : Nat} : Nat.gcd (h % l) l = Nat.gcd l h := (Nat.gcd_rec l h).symm
theorem gcd_abs (t b : Int) : Nat.gcd t.natAbs b.natAbs = Int.gcd t b := rfl
/-- sign -/
def sg (t : Int) : Int := if t > 0 then 1 else if t < 0 then -1 else 0
theorem sg_eq (t : Int) : (if t > 0 then (1 : Int) else 0) - (if t < 0 then 1 else 0) = sg t := by
  unfold sg
  split <;> split <;> omega
/-- the sizes -/
def Bt (n : Nat) (p : Int × Int) : Prop := p.1.natAbs < 2 ^ n ∧ p.2.natAbs < 2 ^ n
theorem Bt.mono {n m : Nat} {p : Int × Int} (h : Bt n p) (k : n ≤ m) : Bt m p := ⟨Nat.lt_of_lt_of_le h.1 (Nat.pow_le_pow_right (by decide) k), Nat.lt_of_lt_of_le h.2 (Nat.pow_le_pow_right (by decide) k)⟩
theorem mul_lt {a b : Int} {n m : Nat} (ha : a.natAbs < 2 ^ n) (hb : b.natAbs < 2 ^ m) : (a * b).natAbs < 2 ^ (n + m) := by
  rw [Int.natAbs_mul, Nat.pow_add]
  exact Nat.mul_lt_mul'' ha hb
theorem add_lt {a b : Int} {n : Nat} (ha : a.natAbs < 2 ^ n) (hb : b.natAbs < 2 ^ n) : (a + b).natAbs < 2 ^ (n + 1) := by
  have := Int.natAbs_add_le a b
  rw [Nat.pow_succ]
  omega
theorem sub_lt {a b : Int} {n : Nat} (ha : a.natAbs < 2 ^ n) (hb : b.natAbs < 2 ^ n) : (a - b).natAbs < 2 ^ (n + 1) := by
  have := Int.natAbs_sub_le a b
  rw [Nat.pow_succ]
  omega
theorem nf_bt {n : Nat} {t b : Int} (h : b ≠ 0) (h1 : t.natAbs < 2 ^ n) (h2 : b.natAbs < 2 ^ n) : Bt n (nf t b) := ⟨Nat.lt_of_le_of_lt (nf_le1 h) h1, Nat.lt_of_le_of_lt (nf_le2 h) h2⟩
/-- sum, difference, product, quotient -/
def addP (p q : Int × Int) : Int × Int := nf (p.1 * q.2 + q.1 * p.2) (p.2 * q.2)
def subP (p q : Int × Int) : Int × Int := nf (p.1 * q.2 - q.1 * p.2) (p.2 * q.2)
def mulP (p q : Int × Int) : Int × Int := nf (p.1 * q.1) (p.2 * q.2)
def divP (p q : Int × Int) : Int × Int := nf (p.1 * q.2) (p.2 * q.1)
def negP (p : Int × Int) : Int × Int := nf (0 - p.1) p.2
theorem Nrm.ne {p : Int × Int} (h : Nrm p) : p.2 ≠ 0 := by have := h.1; omega
theorem addP_nrm {p q : Int × Int} (h : Nrm p) (k : Nrm q) : Nrm (addP p q) := nf_nrm (Int.mul_ne_zero h.ne k.ne)
theorem subP_nrm {p q : Int × Int} (h : Nrm p) (k : Nrm q) : Nrm (subP p q) := nf_nrm (Int.mul_ne_zero h.ne k.ne)
theorem mulP_nrm {p q : Int × Int} (h : Nrm p) (k : Nrm q) : Nrm (mulP p q) := nf_nrm (Int.mul_ne_zero h.ne k.ne)
theorem divP_nrm {p q : Int × Int} (h : Nrm p) (k : q.1 ≠ 0) : Nrm (divP p q) := nf_nrm (Int.mul_ne_zero h.ne k)
theorem negP_eq {p : Int × Int} (h : Nrm p) : negP p = (-p.1, p.2) := by
  unfold negP
  rw [Int.zero_sub]
  exact nf_ofI (nrm_neg h)
theorem addP_bt {n : Nat} {p q : Int × Int} (h : Nrm p) (k : Nrm q) (a : Bt n p) (b : Bt n q) : Bt (n + n + 1) (addP p q) :=
  nf_bt (Int.mul_ne_zero h.ne k.ne) (add_lt (mul_lt a.1 b.2) (mul_lt b.1 a.2)) (Nat.lt_of_lt_of_le (mul_lt a.2 b.2) (Nat.pow_le_pow_right (by decide) (by omega)))
theorem subP_bt {n : Nat} {p q : Int × Int} (h : Nrm p) (k : Nrm q) (a : Bt n p) (b : Bt n q) : Bt (n + n + 1) (subP p q) :=
  nf_bt (Int.mul_ne_zero h.ne k.ne) (sub_lt (mul_lt a.1 b.2) (mul_lt b.1 a.2)) (Nat.lt_of_lt_of_le (mul_lt a.2 b.2) (Nat.pow_le_pow_right (by decide) (by omega)))
theorem mulP_bt {n : Nat} {p q : Int × Int} (h : Nrm p) (k : Nrm q) (a : Bt n p) (b : Bt n q) : Bt (n + n + 1) (mulP p q) :=
  (nf_bt (n := n + n) (Int.mul_ne_zero h.ne k.ne) (mul_lt a.1 b.1) (mul_lt a.2 b.2)).mono (by omega)
theorem divP_bt {n : Nat} {p q : Int × Int} (h : Nrm p) (k : q.1 ≠ 0) (a : Bt n p) (b : Bt n q) : Bt (n + n + 1) (divP p q) :=
  (nf_bt (n := n + n) (Int.mul_ne_zero h.ne k) (mul_lt a.1 b.2) (mul_lt a.2 b.1)).mono (by omega)
/-- below -/
def ltP (p q : Int × Int) : Bool := decide (p.1 * q.2 < q.1 * p.2)
theorem lt_floor {p : Int × Int} (h : Nrm p) : ltP p (p.1 / p.2, 1) = false := by
  have := h.1
  refine decide_eq_false ?_
  show ¬ p.1 * 1 < p.1 / p.2 * p.2
  have := Int.ediv_mul_le p.1 h.ne
  omega
theorem lt_ceil {p : Int × Int} (h : Nrm p) : ltP p (p.1 / p.2 + 1, 1) = true := by
  refine decide_eq_true ?_
  show p.1 * 1 < (p.1 / p.2 + 1) * p.2
  have := Int.lt_ediv_add_one_mul_self p.1 h.1
  omega
end RA

namespace S15
open PySem L2 RA
def top (i : Nat) : Stmt := PySem.Challenge.pw_slotsums_k15_whole_ratios_in_chains.main.body.getD i (.Pass ⟨0, 0, 0, 0⟩)
abbrev sDZInit : Stmt := inClass (top 4) 0
abbrev sIsInt : Stmt := top 6
abbrev sGcd : Stmt := top 7
abbrev sRInit : Stmt := inClass (top 8) 0
abbrev sTotal : Stmt := inClass (top 8) 1
abbrev sTop : Stmt := inClass (top 8) 2
abbrev sBottom : Stmt := inClass (top 8) 3
abbrev sSign : Stmt := inClass (top 8) 4
abbrev sBelow : Stmt := inClass (top 8) 5
abbrev sOver : Stmt := inClass (top 8) 6
abbrev sAdd : Stmt := inClass (top 8) 7
abbrev sSub : Stmt := inClass (top 8) 8
abbrev sMul : Stmt := inClass (top 8) 9
abbrev sNeg : Stmt := inClass (top 8) 10
abbrev sEq : Stmt := inClass (top 8) 11
abbrev sStr : Stmt := inClass (top 8) 12
abbrev sRepr : Stmt := inClass (top 8) 13
abbrev sIsNum : Stmt := top 9
abbrev sRatioOf : Stmt := top 10
abbrev sPot : Stmt := top 12
abbrev sDraw : Stmt := top 13
abbrev sPick : Stmt := top 14
abbrev sLeast : Stmt := top 15
abbrev sWhole : Stmt := top 16
abbrev sFresh : Stmt := top 17
abbrev sRightOne : Stmt := top 18
abbrev sDivided : Stmt := top 19
abbrev sDone : Stmt := top 20
abbrev sIsPair : Stmt := top 21
abbrev sCompared : Stmt := top 22
abbrev sTotalled : Stmt := top 23
abbrev sRight : Stmt := top 24
abbrev sLaw : Stmt := top 25
/-! ### heaps -/
theorem sNew {H H1 : Hp} {p : Addr} {o : HO} (s : Same H H1) (n : H1 p = none) : Same H (upd H1 p o) := fun b x e => by
  have h := s b x e
  rw [upd_ne (ne_of_none h n)]
  exact h
theorem sPut {H H1 : Hp} {p : Addr} {o : HO} (s : Same H H1) (n : H p = none) : Same H (upd H1 p o) := fun b x e => by
  rw [upd_ne (ne_of_none e n)]
  exact s b x e
theorem old {H : Hp} {p q : Addr} {o x : HO} (h : H q = some x) (n : H p = none) : upd H p o q = some x := by
  rw [upd_ne (ne_of_none h n)]; exact h
/-- all but the object at x is as it was -/
def SameX (x : Addr) (H H' : Hp) : Prop := ∀ b o, b ≠ x → H b = some o → H' b = some o
theorem PE.imp {X : Cx} {e : Expr} {t t' : TE} (h : PE X e t) (i : ∀ σ H Q, t' σ H Q → t σ H Q) : PE X e t' := ⟨fun pins s σ H Q I q => h.run pins s σ H Q I (i σ H Q q)⟩
theorem OpR.imp {X : Cx} {f : Value → Value → Sem Value} {r r' : R2} (h : OpR X f r) (i : ∀ x y H Q, r' x y H Q → r x y H Q) : OpR X f r' := fun pins s σ H x y v u Q I rx ry q => h pins s σ H x y v u Q I rx ry (i x y H Q q)
theorem CallR.imp {X : Cx} {f : Value} {r r' : List V → Hp → VK → Prop} (h : CallR X f r) (i : ∀ xs H Q, r' xs H Q → r xs H Q) : CallR X f r' := fun pins s σ H xs us Q I rx q => h pins s σ H xs us Q I rx (i xs H Q q)
/-- // by any divisor but zero -/
def CDivX (_ j : Int) : Prop := j ≠ 0 ∧ j.natAbs.log2 < 9000
theorem op_fdivX {X : Cx} : OpR X (binaryOp .FloorDiv) (rI CDivX fun i j => .int (i.fdiv j)) := opI fun i j _ _ _ _ _ hc q => PyProof.Rows.floordiv_int hc.1 q (.inl (PyProof.noPylong_of_log2 hc.2))
theorem log_of {n m : Nat} (h : n < 2 ^ m) (h0 : 0 < m) : n.log2 < m := by
  by_cases hn : n = 0
  · subst hn
    exact h0
  · exact (Nat.log2_lt hn).mpr h
/-! ### the built-in names -/
structure Bn (mg : Str → Option Value) : Prop where
  isi : mg "isinstance" = none
  int : mg "int" = none
  bool : mg "bool" = none
  str : mg "str" = none
  len : mg "len" = none
  max : mg "max" = none
  min : mg "min" = none
  zip : mg "zip" = none
  range : mg "range" = none
  all : mg "all" = none
  abs : mg "abs" = none
  divmod : mg "divmod" = none
  repr : mg "repr" = none
/-- a def of the module by its name -/
structure Df (P : Program) (w : World) (K : PySem.W.Frag) (mg : Str → Option Value) (base : Heap) (x : Str) (ps : List Str) (k : Nat) (sp : Sp) : Prop where
  ex : ∃ f fd, mg x = some (.ref f) ∧ PySem.W.keepIn K (.ref f) = true ∧ Binds K fd ps [] ∧ FnOk P w K mg base CX0 k f fd ps sp
theorem pe_df {X : Cx} {x : Str} {ps : List Str} {k : Nat} {sp : Sp} {e : Expr} {es : List Expr} {t : TA} {p pos : Pos} (D : Df X.prog X.w X.K X.mg X.base x ps k sp) (hr : Room k X.A) (hg : Gl X x) (ha : PA X (e :: es) t)
    (hdb : (x == ("__debug__" : Str)) = false := by decide) (hst : starEach (e :: es) X.env = (false, eval e X.env) :: starEach es X.env := by rfl) (hpl : (backTo pos (starEach es X.env)).any (·.1) = false := by rfl) :
    PE X (.Call (.Name x p) (e :: es) [] pos) (tCall sp [] E0 t) := by
  obtain ⟨f, fd, hm, kp, b, F⟩ := D.ex
  exact pe_call F hr hg hm kp b .nil pass0 ha (hdb := hdb) (he := hst) (hpl := hpl)
section
variable {P : Program} {w : World} {K : PySem.W.Frag} {mg : Str → Option Value} {base : Heap}
/-! ### is_integer -/
/-- of an int, of an instance of C -/
def spIsInt (C : Addr) : Sp := fun vs H Q _ => (∃ i : Int, vs = [.int i] ∧ Q (.bl true) H) ∨ ∃ a dx fs, vs = [.ref a] ∧ H a = some (.ins C dx fs) ∧ Q (.bl false) H
/-! ### common_divisor -/
def spGcd : Sp := fun vs H Q _ => ∃ m n : Nat, vs = [.int m, .int n] ∧ Q (.int (Nat.gcd m n : Nat)) H
abbrev nGcd : List Str := ["one", "other", "low", "high"]
theorem scGcd : FnScope nGcd ["one", "other"] (defScope sGcd) := ⟨rfl, rfl, rfl, by decide +kernel, rfl, by decide +kernel, by decide +kernel⟩
theorem ok_gcd {f : Addr} {fd : FuncData} (F : Fun K "common_divisor" "common_divisor" sGcd f fd) : FnOk P w K mg base CX0 1 f fd ["one", "other"] spGcd := by
  refine F.ok scGcd (fun vs H Q E h => ?_) (fun cdv A outer s H vs Q E hr h => ?_)
  · obtain ⟨m, n, rfl, _⟩ := h
    rfl
  · obtain ⟨m, n, rfl, q⟩ := h
    refine ⟨_, pss_cons (ps_par (i := 2) (j := 3) (by rfl) scGcd.nd rfl rfl (by decide) rfl rfl (pa_cons (pv 0) (pa_cons (pv 1) pa_nil)) (by rfl))
      (pss_cons (ps_while PassesOwn.never (pt_cmpR op_gt (pv 2) pe_int (nomark _))
        (pss_one (ps_par (i := 2) (j := 3) (by rfl) scGcd.nd rfl rfl (by decide) rfl rfl (pa_cons (pe_op op_mod (pv 3) (pv 2)) (pa_cons (pv 2) pa_nil)) (by rfl))))
      (pss_one (ps_ret (pv 3)))), ?_⟩
    refine ⟨_, rfl, _, rfl, _, _, rfl, ?_⟩
    refine ⟨fun t σ H' => H = H' ∧ ∃ l h : Nat, t = l ∧ σ = [some (.int m), some (.int n), some (.int l), some (.int h)] ∧ Nat.gcd l h = Nat.gcd m n, ⟨_, rfl, m, n, rfl, rfl, rfl⟩, ?_⟩
    rintro l σ _ ⟨rfl, _, h, rfl, rfl, e⟩
    refine ⟨_, rfl, _, _, rfl, rfl, _, rfl, ?_⟩
    by_cases hl : ((l : Nat) : Int) > 0
    · rw [decide_eq_true hl]
      refine iteT ?_
      have hl' : 0 < l := by omega
      refine ⟨fun σ' H' => H = H' ∧ ∃ l' h' : Nat, l' < l ∧ σ' = [some (.int m), some (.int n), some (.int l'), some (.int h')] ∧ Nat.gcd l' h' = Nat.gcd m n, fun σ' H' ⟨c0, l', h', c1, c2, c3⟩ => ⟨l', c1, c0, l', h', rfl, c2, c3⟩, ?_⟩
      refine ⟨_, rfl, _, rfl, _, _, rfl, rfl, hl, _, rfl, _, _, rfl, rfl, h % l, l, Nat.mod_lt _ hl', rfl, ?_⟩
      rw [gcd_turn]
      exact e
    · rw [decide_eq_false hl]
      refine iteF ?_
      have hl' : l = 0 := by omega
      subst hl'
      rw [Nat.gcd_zero_left] at e
      subst e
      exact ⟨_, rfl, q⟩
end
end S15

namespace S15
open PySem L2 RA
abbrev oT : Str := "own_top"
abbrev oB : Str := "own_bottom"
def rf (p : Int × Int) : List (Str × V) := putF oB (.int p.2) (putF oT (.int p.1) [])
theorem rf_top (p : Int × Int) : (rf p).lookup oT = some (.int p.1) := rfl
theorem rf_bot (p : Int × Int) : (rf p).lookup oB = some (.int p.2) := rfl
def RatAt (C : Addr) (H : Hp) (a : Addr) (p : Int × Int) : Prop := ∃ dx, H a = some (.ins C dx (rf p))
theorem RatAt.same {C : Addr} {H H' : Hp} {a : Addr} {p : Int × Int} (s : Same H H') (h : RatAt C H a p) : RatAt C H' a p := by
  obtain ⟨dx, h⟩ := h
  exact ⟨dx, s _ _ h⟩
/-- what the text says of the class Ratio -/
structure Rc (K : PySem.W.Frag) (mg : Str → Option Value) (C : Addr) : Prop where
  cl : Cls K C
  nT : NoAttr K C oT
  nB : NoAttr K C oB
  mgC : mg "Ratio" = some (.ref C)
  ic : PySem.W.findIn K (.ref C) "__class__" = some (some (.builtin "object.__class__"))
  gt : PySem.W.specialIn K (.builtin "object.__class__") "__get__" = some (some (.builtin "getset_descriptor.__get__"))
  tk : PySem.W.takesIn K (.builtin "object.__class__") = some true
  mo : PySem.W.mroIn K C (.type "object") = some true
  sf : PySem.W.selfFirst K C = true
  ki : PySem.W.kitOne K (.ref C) (.type "int") = some false
  ik : PySem.W.kitOne K (.type "int") (.ref C) = some false
  sk : PySem.W.kitOne K (.type "str") (.ref C) = some false
  si : PySem.W.subIn K (.type "int") (.ref C) = some false
  ss : PySem.W.subIn K (.type "str") (.ref C) = some false
section
variable {P : Program} {w : World} {K : PySem.W.Frag} {mg : Str → Option Value} {base : Heap}
theorem scIsInt : FnScope ["value"] ["value"] (defScope sIsInt) := ⟨rfl, rfl, rfl, by decide +kernel, rfl, by decide +kernel, by decide +kernel⟩
theorem ok_isInt {f C : Addr} {fd : FuncData} (F : Fun K "is_integer" "is_integer" sIsInt f fd) (T : Bn mg) (N : Rc K mg C) : FnOk P w K mg base CX0 1 f fd ["value"] (spIsInt C) := by
  refine F.ok scIsInt (fun vs H Q E h => ?_) (fun cdv A outer s H vs Q E hr h => ?_)
  · rcases h with ⟨i, rfl, _⟩ | ⟨a, dx, fs, rfl, _⟩ <;> rfl
  · refine ⟨_, pss_one (ps_ret (pe_and (pe_callB call_isi (by rfl) T.isi (by decide +kernel) (pa_cons (pv 0) (pa_cons (pe_bltn (v := .ty "int") (by rfl) T.int (by decide +kernel) rfl) pa_nil)))
      (pe_one (pe_not (pe_callB call_isi (by rfl) T.isi (by decide +kernel) (pa_cons (pv 0) (pa_cons (pe_bltn (v := .ty "bool") (by rfl) T.bool (by decide +kernel) rfl) pa_nil))))))), ?_⟩
    rcases h with ⟨i, rfl, q⟩ | ⟨a, dx, fs, rfl, ha, q⟩
    · refine ⟨_, rfl, _, _, _, _, true, rfl, .ty "int", .base (.int i), kit_ty (by decide +kernel), true, rfl, iteT ?_⟩
      exact ⟨_, rfl, _, _, _, _, false, rfl, .ty "bool", .base (.int i), kit_ty (by decide +kernel), false, rfl, q⟩
    · exact ⟨_, rfl, _, _, _, _, false, rfl, .ty "int", .base (.ins ha N.cl N.ic N.gt N.tk N.mo), N.ki, false, rfl, iteF q⟩
/-! ### Ratio.__init__ -/
def spRInit (C : Addr) : Sp := fun vs H Q _ => ∃ (x dx : Addr) (t b : Int), vs = [.ref x, .int t, .int b] ∧ H x = some (.ins C dx []) ∧ b ≠ 0 ∧ t.natAbs < 2 ^ 1900 ∧ b.natAbs < 2 ^ 1900 ∧
  ∀ H' : Hp, SameX x H H' → H' x = some (.ins C dx (rf (nf t b))) → Q .non H'
abbrev nRInit : List Str := ["self", "top", "bottom", "share"]
theorem scRInit : FnScope nRInit ["self", "top", "bottom"] (defScope sRInit) := ⟨rfl, rfl, rfl, by decide +kernel, rfl, by decide +kernel, by decide +kernel⟩
theorem abs_nat (i : Int) : (if i < 0 then -i else i) = ((i.natAbs : Nat) : Int) := by split <;> omega
theorem ok_rinit {f C : Addr} {fd : FuncData} (F : FunD K "__init__" "Ratio.__init__" (defArgs sRInit) (defBody sRInit) (defScope sRInit) [.int 1] [] f fd) (T : Bn mg) (N : Rc K mg C) (DI : Df P w K mg base "is_integer" ["value"] 1 (spIsInt C)) (DG : Df P w K mg base "common_divisor" ["one", "other"] 1 spGcd) :
    FnOk P w K mg base CX0 2 f fd ["self", "top", "bottom"] (spRInit C) := by
  refine F.ok scRInit (fun vs H Q E h => ?_) (fun cdv A outer s H vs Q E hr h => ?_)
  · obtain ⟨x, dx, t, b, rfl, _⟩ := h
    rfl
  · obtain ⟨x, dx, t, b, rfl, hx, hb, ht, hbb, k⟩ := h
    refine ⟨_, PSs.nox (pss_cons (ps_if (pt_not (pt_val (pe_df DI hr (by rfl) (pa_cons (pv 1) pa_nil)))) (pss_one ps_never) pss_nil)
      (pss_cons (ps_if (PW.pt (pw_or (pt_not (pt_val (pe_df DI hr (by rfl) (pa_cons (pv 2) pa_nil)))) (pw_or1 (pt_cmpR op_eq (pv 2) pe_int (nomark _))))) (pss_one ps_never) pss_nil)
      (pss_cons (ps_set (i := 3) scRInit.nd rfl (Or.inl rfl) (pe_df DG hr (by rfl) (pa_cons (pe_callB call_abs (by rfl) T.abs (by decide +kernel) (pa_cons (pv 1) pa_nil)) (pa_cons (pe_callB call_abs (by rfl) T.abs (by decide +kernel) (pa_cons (pv 2) pa_nil)) pa_nil))))
      (pss_cons (ps_if (pt_cmpR op_lt (pv 2) pe_int (nomark _)) (pss_one (ps_set (i := 3) scRInit.nd rfl (Or.inl rfl) (pe_op op_sub pe_int (pv 3)))) pss_nil)
      (pss_cons (ps_fld (pv 0) (pe_op op_fdivX (pv 1) (pv 3)) rfl)
      (pss_one (ps_fld (pv 0) (pe_op op_fdivX (pv 2) (pv 3)) rfl))))))), ?_⟩
    refine ⟨_, rfl, .inl ⟨t, rfl, true, rfl, ?_⟩⟩
    refine iteF ?_
    refine ⟨_, rfl, .inl ⟨b, rfl, true, rfl, ?_⟩⟩
    refine iteF ?_
    refine ⟨_, rfl, rfl, _, rfl, ?_⟩
    rw [decide_eq_false (fun z => hb (V.int.inj z))]
    refine iteF ?_
    refine ⟨_, rfl, t, rfl, _, rfl, b, rfl, t.natAbs, b.natAbs, by rw [abs_nat, abs_nat]; rfl, ?_⟩
    refine ⟨_, rfl, _, _, rfl, rfl, _, rfl, ?_⟩
    have hg := gB_ne (t := t) hb
    have hlog : (gB t b).natAbs.log2 < 9000 := by
      rw [gB_abs]
      have h1 : Int.gcd t b ≤ b.natAbs := Nat.le_of_dvd (by omega) (Int.gcd_dvd_natAbs_right ..)
      exact Nat.lt_of_lt_of_le (log_of (Nat.lt_of_le_of_lt h1 hbb) (by decide)) (by decide)
    have fin : ∀ (g : Int) (Q' : Hp → Prop), g = gB t b → (∀ H', SameX x H H' → H' x = some (.ins C dx (rf (nf t b))) → Q' H') → SameX x H (upd (upd H x (.ins C dx (putF oT (.int (t.fdiv g)) []))) x (.ins C dx (putF oB (.int (b.fdiv g)) (putF oT (.int (t.fdiv g)) [])))) ∧ Q' (upd (upd H x (.ins C dx (putF oT (.int (t.fdiv g)) []))) x (.ins C dx (putF oB (.int (b.fdiv g)) (putF oT (.int (t.fdiv g)) [])))) := fun g Q' e k' => by
      have sx : SameX x H (upd (upd H x (.ins C dx (putF oT (.int (t.fdiv g)) []))) x (.ins C dx (putF oB (.int (b.fdiv g)) (putF oT (.int (t.fdiv g)) [])))) := fun c o hc ho => by rw [upd_ne hc, upd_ne hc]; exact ho
      refine ⟨sx, k' _ sx ?_⟩
      rw [upd_same, e]
      rfl
    by_cases hneg : b < 0
    · rw [decide_eq_true hneg]
      refine iteT ?_
      have e : (0 : Int) - ((Nat.gcd t.natAbs b.natAbs : Nat) : Int) = gB t b := by
        unfold gB
        rw [if_pos hneg, gcd_abs]
        omega
      have hc : ∀ z, CDivX z ((0 : Int) - ((Nat.gcd t.natAbs b.natAbs : Nat) : Int)) := fun z => by rw [e]; exact ⟨hg, hlog⟩
      refine ⟨_, rfl, _, _, rfl, rfl, ?_⟩
      refine ⟨_, rfl, _, rfl, _, _, rfl, rfl, hc _, _, rfl, x, C, dx, [], rfl, hx, N.cl, N.nT, (by show 0 < 1000; decide), ?_⟩
      refine ⟨_, rfl, _, rfl, _, _, rfl, rfl, hc _, _, rfl, x, C, dx, _, rfl, upd_same, N.cl, N.nB, (by show 1 < 1000; decide), ?_⟩
      exact (fin _ _ e k).2
    · rw [decide_eq_false hneg]
      refine iteF ?_
      have e : ((Nat.gcd t.natAbs b.natAbs : Nat) : Int) = gB t b := by
        unfold gB
        rw [if_neg hneg, gcd_abs]
      have hc : ∀ z, CDivX z ((Nat.gcd t.natAbs b.natAbs : Nat) : Int) := fun z => by rw [e]; exact ⟨hg, hlog⟩
      refine ⟨_, rfl, _, rfl, _, _, rfl, rfl, hc _, _, rfl, x, C, dx, [], rfl, hx, N.cl, N.nT, (by show 0 < 1000; decide), ?_⟩
      refine ⟨_, rfl, _, rfl, _, _, rfl, rfl, hc _, _, rfl, x, C, dx, _, rfl, upd_same, N.cl, N.nB, (by show 1 < 1000; decide), ?_⟩
      exact (fin _ _ e k).2
end
end S15

namespace S15
open PySem L2 RA
theorem kit_self {K : PySem.W.Frag} {C : Addr} : PySem.W.kitOne K (.ref C) (.ref C) = some true := by
  unfold PySem.W.kitOne
  simp
/-! ### a ratio is made -/
def spR1 (C : Addr) : Sp := fun vs H Q E => spRInit C (vs ++ [.int 1]) H Q E
structure RMk (P : Program) (w : World) (K : PySem.W.Frag) (mg : Str → Option Value) (base : Heap) (C : Addr) : Prop where
  rc : Rc K mg C
  ex : ∃ f, Mk K C f ∧ FnR P w K mg base CX0 2 f (spRInit C) ∧ FnR P w K mg base CX0 2 f (spR1 C)
theorem made2 {C : Addr} {H1 : Hp} {a b : Int} {Q : VK} {E : XK} (hb : b ≠ 0) (h1 : a.natAbs < 2 ^ 1900) (h2 : b.natAbs < 2 ^ 1900) (k : ∀ (H' : Hp) (p : Addr), Same H1 H' → H1 p = none → RatAt C H' p (nf a b) → Q (.ref p) H')
    (x dx : Addr) (hx : H1 x = none) (hdx : H1 dx = none) (ne : dx ≠ x) : spRInit C [V.ref x, .int a, .int b] (upd (upd H1 dx (.own x)) x (.ins C dx [])) (fun v H2 => v = .non ∧ Q (.ref x) H2) E := by
  refine ⟨x, dx, a, b, rfl, upd_same, hb, h1, h2, fun H' sx hx' => ⟨rfl, ?_⟩⟩
  refine k H' x (fun c o e => ?_) hx ⟨dx, hx'⟩
  have ncx : c ≠ x := ne_of_none e hx
  have ncd : c ≠ dx := ne_of_none e hdx
  exact sx c o ncx (by rw [upd_ne ncx, upd_ne ncd]; exact e)
section
variable {X : Cx} {C : Addr} {e : Expr} {es : List Expr} {t : TA} {p pos : Pos}
theorem pe_rat2 (M : RMk X.prog X.w X.K X.mg X.base C) (hr : Room 3 X.A) (hg : Gl X "Ratio") (ha : PA X (e :: es) t)
    (he : starEach (e :: es) X.env = (false, eval e X.env) :: starEach es X.env := by rfl) (hpl : (backTo pos (starEach es X.env)).any (·.1) = false := by rfl) : PE X (.Call (.Name "Ratio" p) (e :: es) [] pos) (StX.tMakeR C (spRInit C) E0 t) := by
  obtain ⟨f, mk, F, _⟩ := M.ex
  exact StX.pe_makeR (E := E0) mk F hr hg M.rc.mgC pass0 ha (by decide) he hpl
theorem pe_rat1 (M : RMk X.prog X.w X.K X.mg X.base C) (hr : Room 3 X.A) (hg : Gl X "Ratio") (ha : PA X (e :: es) t)
    (he : starEach (e :: es) X.env = (false, eval e X.env) :: starEach es X.env := by rfl) (hpl : (backTo pos (starEach es X.env)).any (·.1) = false := by rfl) : PE X (.Call (.Name "Ratio" p) (e :: es) [] pos) (StX.tMakeR C (spR1 C) E0 t) := by
  obtain ⟨f, mk, _, F⟩ := M.ex
  exact StX.pe_makeR (E := E0) mk F hr hg M.rc.mgC pass0 ha (by decide) he hpl
end
/-- y stands for the number p -/
def NumAt (C : Addr) (H : Hp) (y : V) (p : Int × Int) : Prop := (∃ a, y = .ref a ∧ RatAt C H a p) ∨ ∃ n : Int, y = .int n ∧ p = (n, 1)
theorem NumAt.same {C : Addr} {H H' : Hp} {y : V} {p : Int × Int} (s : Same H H') (h : NumAt C H y p) : NumAt C H' y p := h.imp (fun ⟨a, e, r⟩ => ⟨a, e, r.same s⟩) id
section
variable {P : Program} {w : World} {K : PySem.W.Frag} {mg : Str → Option Value} {base : Heap}
/-! ### ratio_of -/
def spRatioOf (C : Addr) : Sp := fun vs H Q _ => ∃ (y : V) (p : Int × Int), vs = [y] ∧ NumAt C H y p ∧ Bt 1900 p ∧ ∀ (H' : Hp) (a : Addr), Same H H' → RatAt C H' a p → Q (.ref a) H'
theorem scRatioOf : FnScope ["value"] ["value"] (defScope sRatioOf) := ⟨rfl, rfl, rfl, by decide +kernel, rfl, by decide +kernel, by decide +kernel⟩
theorem ok_ratioOf {f C : Addr} {fd : FuncData} (F : Fun K "ratio_of" "ratio_of" sRatioOf f fd) (T : Bn mg) (M : RMk P w K mg base C) (DI : Df P w K mg base "is_integer" ["value"] 1 (spIsInt C)) : FnOk P w K mg base CX0 4 f fd ["value"] (spRatioOf C) := by
  refine F.ok scRatioOf (fun vs H Q E h => ?_) (fun cdv A outer s H vs Q E hr h => ?_)
  · obtain ⟨y, p, rfl, _⟩ := h
    rfl
  · obtain ⟨y, p, rfl, hy, hb, q⟩ := h
    have N := M.rc
    refine ⟨_, PSs.nox (pss_cons (ps_if (pt_val (pe_callB call_isi (by rfl) T.isi (by decide +kernel) (pa_cons (pv 0) (pa_cons (pe_glob (v := .ref C) (by rfl) N.mgC rfl) pa_nil)))) (pss_one (ps_ret (pv 0))) pss_nil)
      (pss_cons (ps_if (pt_not (pt_val (pe_df DI (hr.mono (by decide)) (by rfl) (pa_cons (pv 0) pa_nil)))) (pss_one ps_never) pss_nil)
      (pss_one (ps_ret (pe_rat1 M hr (by rfl) (pa_cons (pv 0) pa_nil)))))), ?_⟩
    rcases hy with ⟨a, rfl, ha⟩ | ⟨n, rfl, rfl⟩
    · obtain ⟨dx, h1⟩ := id ha
      refine ⟨_, rfl, _, _, _, _, true, rfl, .own C, .base (.ins h1 N.cl N.ic N.gt N.tk N.mo), kit_self, true, rfl, ?_⟩
      exact iteT ⟨_, rfl, q H a (Same.refl H) ha⟩
    · refine ⟨_, rfl, _, _, _, _, false, rfl, .own C, .base (.int n), N.ik, false, rfl, ?_⟩
      refine iteF ?_
      refine ⟨_, rfl, .inl ⟨n, rfl, true, rfl, ?_⟩⟩
      refine iteF ?_
      refine ⟨_, rfl, fun x dx hx hdx ne => made2 (by show (1 : Int) ≠ 0; decide) hb.1 hb.2 (fun H' p s1 _ r => q H' p s1 ?_) x dx hx hdx ne⟩
      rw [← nf_int]
      exact r
/-! ### the properties -/
def spTop (C : Addr) : Sp := fun vs H Q _ => ∃ (a : Addr) (p : Int × Int), vs = [.ref a] ∧ RatAt C H a p ∧ Q (.int p.1) H
def spBottom (C : Addr) : Sp := fun vs H Q _ => ∃ (a : Addr) (p : Int × Int), vs = [.ref a] ∧ RatAt C H a p ∧ Q (.int p.2) H
def spSg (C : Addr) : Sp := fun vs H Q _ => ∃ (a : Addr) (p : Int × Int), vs = [.ref a] ∧ RatAt C H a p ∧ Q (.int (sg p.1)) H
theorem scTop : FnScope ["self"] ["self"] (defScope sTop) := ⟨rfl, rfl, rfl, by decide +kernel, rfl, by decide +kernel, by decide +kernel⟩
theorem scBottom : FnScope ["self"] ["self"] (defScope sBottom) := ⟨rfl, rfl, rfl, by decide +kernel, rfl, by decide +kernel, by decide +kernel⟩
theorem scSg : FnScope ["self"] ["self"] (defScope sSign) := ⟨rfl, rfl, rfl, by decide +kernel, rfl, by decide +kernel, by decide +kernel⟩
theorem ok_top {f C : Addr} {fd : FuncData} (F : Fun K "top" "Ratio.top" sTop f fd) (N : Rc K mg C) : FnOk P w K mg base CX0 1 f fd ["self"] (spTop C) := by
  refine F.ok scTop (fun vs H Q E h => ?_) (fun cdv A outer s H vs Q E hr h => ?_)
  · obtain ⟨a, p, rfl, _⟩ := h
    rfl
  · obtain ⟨a, p, rfl, ⟨dx, h1⟩, q⟩ := h
    refine ⟨_, pss_one (ps_ret (pe_fld (pv 0) rfl)), ?_⟩
    exact ⟨_, rfl, a, C, dx, _, _, rfl, h1, N.cl, N.nT, rfl, q⟩
theorem ok_bottom {f C : Addr} {fd : FuncData} (F : Fun K "bottom" "Ratio.bottom" sBottom f fd) (N : Rc K mg C) : FnOk P w K mg base CX0 1 f fd ["self"] (spBottom C) := by
  refine F.ok scBottom (fun vs H Q E h => ?_) (fun cdv A outer s H vs Q E hr h => ?_)
  · obtain ⟨a, p, rfl, _⟩ := h
    rfl
  · obtain ⟨a, p, rfl, ⟨dx, h1⟩, q⟩ := h
    refine ⟨_, pss_one (ps_ret (pe_fld (pv 0) rfl)), ?_⟩
    exact ⟨_, rfl, a, C, dx, _, _, rfl, h1, N.cl, N.nB, rfl, q⟩
theorem sg_dec (t : Int) : (if decide (t > 0) = true then (1 : Int) else 0) - (if decide (t < 0) = true then 1 else 0) = sg t := by
  rw [← sg_eq]
  simp
theorem ok_sign {f C : Addr} {fd : FuncData} (F : Fun K "sign" "Ratio.sign" sSign f fd) (T : Bn mg) (N : Rc K mg C) : FnOk P w K mg base CX0 1 f fd ["self"] (spSg C) := by
  refine F.ok scSg (fun vs H Q E h => ?_) (fun cdv A outer s H vs Q E hr h => ?_)
  · obtain ⟨a, p, rfl, _⟩ := h
    rfl
  · obtain ⟨a, p, rfl, ⟨dx, h1⟩, q⟩ := h
    refine ⟨_, pss_one (ps_ret (pe_op op_sub (pe_callTy call_int1 (by rfl) T.int (by decide +kernel) (pa_cons (pe_cmpR op_gt (pe_fld (pv 0) rfl) pe_int (nomark _)) pa_nil)) (pe_callTy call_int1 (by rfl) T.int (by decide +kernel) (pa_cons (pe_cmpR op_lt (pe_fld (pv 0) rfl) pe_int (nomark _)) pa_nil)))), ?_⟩
    refine ⟨_, rfl, a, C, dx, _, _, rfl, h1, N.cl, N.nT, rfl, _, _, rfl, rfl, .inr ⟨_, rfl, ?_⟩⟩
    refine ⟨_, rfl, a, C, dx, _, _, rfl, h1, N.cl, N.nT, rfl, _, _, rfl, rfl, .inr ⟨_, rfl, ?_⟩⟩
    refine ⟨_, _, rfl, rfl, ?_⟩
    have e := sg_dec p.1
    rw [← e] at q
    exact q
end
end S15

namespace S15
open PySem L2 RA
theorem pow_mono {n m : Nat} (h : n ≤ m) : 2 ^ n ≤ 2 ^ m := Nat.pow_le_pow_right (by decide) h
theorem lt_mono {a n m : Nat} (h : a < 2 ^ n) (k : n ≤ m) : a < 2 ^ m := Nat.lt_of_lt_of_le h (pow_mono k)
theorem wmul {a b : Int} {n : Nat} (ha : a.natAbs < 2 ^ n) (hb : b.natAbs < 2 ^ n) (hn : n ≤ 1900) : CMulW a b := wide_mul (a := 1900) (b := 1900) (lt_mono ha hn) (lt_mono hb hn) (by decide) (by decide) (by decide)
section
variable {P : Program} {w : World} {K : PySem.W.Frag} {mg : Str → Option Value} {base : Heap}
/-! ### is_below -/
def spBelow (C : Addr) : Sp := fun vs H Q _ => ∃ (a : Addr) (y : V) (p q : Int × Int), vs = [.ref a, y] ∧ RatAt C H a p ∧ NumAt C H y q ∧ Bt 900 p ∧ Bt 900 q ∧ ∀ H' : Hp, Same H H' → Q (.bl (ltP p q)) H'
abbrev nBelow : List Str := ["self", "other", "second"]
theorem scBelow : FnScope nBelow ["self", "other"] (defScope sBelow) := ⟨rfl, rfl, rfl, by decide +kernel, rfl, by decide +kernel, by decide +kernel⟩
theorem ok_below {f C : Addr} {fd : FuncData} (F : Fun K "is_below" "Ratio.is_below" sBelow f fd) (N : Rc K mg C) (DR : Df P w K mg base "ratio_of" ["value"] 4 (spRatioOf C)) : FnOk P w K mg base CX0 5 f fd ["self", "other"] (spBelow C) := by
  refine F.ok scBelow (fun vs H Q E h => ?_) (fun cdv A outer s H vs Q E hr h => ?_)
  · obtain ⟨a, y, p, q, rfl, _⟩ := h
    rfl
  · obtain ⟨a, y, p, q, rfl, ha, hy, bp, bq, k⟩ := h
    refine ⟨_, pss_cons (ps_set (i := 2) scBelow.nd rfl (Or.inl rfl) (pe_df DR hr (by rfl) (pa_cons (pv 1) pa_nil)))
      (pss_one (ps_ret (pe_cmpR op_lt (pe_op op_mulW (pe_fld (pv 0) rfl) (pe_fld (pv 2) rfl)) (pe_op op_mulW (pe_fld (pv 2) rfl) (pe_fld (pv 0) rfl)) (nomark _)))), ?_⟩
    refine ⟨_, rfl, y, q, rfl, hy, bq.mono (by decide), fun H1 b s1 hb => ?_⟩
    obtain ⟨dx, h1⟩ := ha.same s1
    obtain ⟨dy, h2⟩ := hb
    refine ⟨_, rfl, a, C, dx, _, _, rfl, h1, N.cl, N.nT, rfl, _, rfl, b, C, dy, _, _, rfl, h2, N.cl, N.nB, rfl, _, _, rfl, rfl, wmul bp.1 bq.2 (by decide), ?_⟩
    refine ⟨_, rfl, b, C, dy, _, _, rfl, h2, N.cl, N.nT, rfl, _, rfl, a, C, dx, _, _, rfl, h1, N.cl, N.nB, rfl, _, _, rfl, rfl, wmul bq.1 bp.2 (by decide), ?_⟩
    exact ⟨_, _, rfl, rfl, k H1 s1⟩
/-! ### the operators -/
def spBin (C : Addr) (g : Int × Int → Int × Int → Int × Int) : Sp := fun vs H Q _ => ∃ (a : Addr) (y : V) (p q : Int × Int), vs = [.ref a, y] ∧ RatAt C H a p ∧ NumAt C H y q ∧ Bt 900 p ∧ Bt 900 q ∧ Nrm p ∧ Nrm q ∧
  ∀ (H' : Hp) (r : Addr), Same H H' → H r = none → RatAt C H' r (g p q) → Q (.ref r) H'
abbrev nAdd : List Str := ["self", "other", "second", "top"]
theorem scAdd : FnScope nAdd ["self", "other"] (defScope sAdd) := ⟨rfl, rfl, rfl, by decide +kernel, rfl, by decide +kernel, by decide +kernel⟩
theorem scSub : FnScope nAdd ["self", "other"] (defScope sSub) := ⟨rfl, rfl, rfl, by decide +kernel, rfl, by decide +kernel, by decide +kernel⟩
theorem scMul : FnScope nBelow ["self", "other"] (defScope sMul) := ⟨rfl, rfl, rfl, by decide +kernel, rfl, by decide +kernel, by decide +kernel⟩
theorem ok_add {f C : Addr} {fd : FuncData} (F : Fun K "__add__" "Ratio.__add__" sAdd f fd) (M : RMk P w K mg base C) (DR : Df P w K mg base "ratio_of" ["value"] 4 (spRatioOf C)) : FnOk P w K mg base CX0 5 f fd ["self", "other"] (spBin C addP) := by
  refine F.ok scAdd (fun vs H Q E h => ?_) (fun cdv A outer s H vs Q E hr h => ?_)
  · obtain ⟨a, y, p, q, rfl, _⟩ := h
    rfl
  · obtain ⟨a, y, p, q, rfl, ha, hy, bp, bq, np, nq, k⟩ := h
    have N := M.rc
    refine ⟨_, pss_cons (ps_set (i := 2) scAdd.nd rfl (Or.inl rfl) (pe_df DR hr (by rfl) (pa_cons (pv 1) pa_nil)))
      (pss_cons (ps_set (i := 3) scAdd.nd rfl (Or.inl rfl) (pe_op op_add (pe_op op_mulW (pe_fld (pv 0) rfl) (pe_fld (pv 2) rfl)) (pe_op op_mulW (pe_fld (pv 2) rfl) (pe_fld (pv 0) rfl))))
      (pss_one (ps_ret (pe_rat2 M (hr.mono (by decide)) (by rfl) (pa_cons (pv 3) (pa_cons (pe_op op_mulW (pe_fld (pv 0) rfl) (pe_fld (pv 2) rfl)) pa_nil)))))), ?_⟩
    refine ⟨_, rfl, y, q, rfl, hy, bq.mono (by decide), fun H1 b s1 hb => ?_⟩
    obtain ⟨dx, h1⟩ := ha.same s1
    obtain ⟨dy, h2⟩ := hb
    refine ⟨_, rfl, a, C, dx, _, _, rfl, h1, N.cl, N.nT, rfl, _, rfl, b, C, dy, _, _, rfl, h2, N.cl, N.nB, rfl, _, _, rfl, rfl, wmul bp.1 bq.2 (by decide), ?_⟩
    refine ⟨_, rfl, b, C, dy, _, _, rfl, h2, N.cl, N.nT, rfl, _, rfl, a, C, dx, _, _, rfl, h1, N.cl, N.nB, rfl, _, _, rfl, rfl, wmul bq.1 bp.2 (by decide), _, _, rfl, rfl, ?_⟩
    refine ⟨_, rfl, _, rfl, a, C, dx, _, _, rfl, h1, N.cl, N.nB, rfl, _, rfl, b, C, dy, _, _, rfl, h2, N.cl, N.nB, rfl, _, _, rfl, rfl, wmul bp.2 bq.2 (by decide), ?_⟩
    exact fun x dx hx hdx ne => made2 (Int.mul_ne_zero np.ne nq.ne) (lt_mono (add_lt (mul_lt bp.1 bq.2) (mul_lt bq.1 bp.2)) (by decide)) (lt_mono (mul_lt bp.2 bq.2) (by decide)) (fun H' r s2 hn hr' => k H' r (Same.trans s1 s2) (s1.free hn) hr') x dx hx hdx ne
theorem ok_sub {f C : Addr} {fd : FuncData} (F : Fun K "__sub__" "Ratio.__sub__" sSub f fd) (M : RMk P w K mg base C) (DR : Df P w K mg base "ratio_of" ["value"] 4 (spRatioOf C)) : FnOk P w K mg base CX0 5 f fd ["self", "other"] (spBin C subP) := by
  refine F.ok scSub (fun vs H Q E h => ?_) (fun cdv A outer s H vs Q E hr h => ?_)
  · obtain ⟨a, y, p, q, rfl, _⟩ := h
    rfl
  · obtain ⟨a, y, p, q, rfl, ha, hy, bp, bq, np, nq, k⟩ := h
    have N := M.rc
    refine ⟨_, pss_cons (ps_set (i := 2) scSub.nd rfl (Or.inl rfl) (pe_df DR hr (by rfl) (pa_cons (pv 1) pa_nil)))
      (pss_cons (ps_set (i := 3) scSub.nd rfl (Or.inl rfl) (pe_op op_sub (pe_op op_mulW (pe_fld (pv 0) rfl) (pe_fld (pv 2) rfl)) (pe_op op_mulW (pe_fld (pv 2) rfl) (pe_fld (pv 0) rfl))))
      (pss_one (ps_ret (pe_rat2 M (hr.mono (by decide)) (by rfl) (pa_cons (pv 3) (pa_cons (pe_op op_mulW (pe_fld (pv 0) rfl) (pe_fld (pv 2) rfl)) pa_nil)))))), ?_⟩
    refine ⟨_, rfl, y, q, rfl, hy, bq.mono (by decide), fun H1 b s1 hb => ?_⟩
    obtain ⟨dx, h1⟩ := ha.same s1
    obtain ⟨dy, h2⟩ := hb
    refine ⟨_, rfl, a, C, dx, _, _, rfl, h1, N.cl, N.nT, rfl, _, rfl, b, C, dy, _, _, rfl, h2, N.cl, N.nB, rfl, _, _, rfl, rfl, wmul bp.1 bq.2 (by decide), ?_⟩
    refine ⟨_, rfl, b, C, dy, _, _, rfl, h2, N.cl, N.nT, rfl, _, rfl, a, C, dx, _, _, rfl, h1, N.cl, N.nB, rfl, _, _, rfl, rfl, wmul bq.1 bp.2 (by decide), _, _, rfl, rfl, ?_⟩
    refine ⟨_, rfl, _, rfl, a, C, dx, _, _, rfl, h1, N.cl, N.nB, rfl, _, rfl, b, C, dy, _, _, rfl, h2, N.cl, N.nB, rfl, _, _, rfl, rfl, wmul bp.2 bq.2 (by decide), ?_⟩
    exact fun x dx hx hdx ne => made2 (Int.mul_ne_zero np.ne nq.ne) (lt_mono (sub_lt (mul_lt bp.1 bq.2) (mul_lt bq.1 bp.2)) (by decide)) (lt_mono (mul_lt bp.2 bq.2) (by decide)) (fun H' r s2 hn hr' => k H' r (Same.trans s1 s2) (s1.free hn) hr') x dx hx hdx ne
theorem ok_mul {f C : Addr} {fd : FuncData} (F : Fun K "__mul__" "Ratio.__mul__" sMul f fd) (M : RMk P w K mg base C) (DR : Df P w K mg base "ratio_of" ["value"] 4 (spRatioOf C)) : FnOk P w K mg base CX0 5 f fd ["self", "other"] (spBin C mulP) := by
  refine F.ok scMul (fun vs H Q E h => ?_) (fun cdv A outer s H vs Q E hr h => ?_)
  · obtain ⟨a, y, p, q, rfl, _⟩ := h
    rfl
  · obtain ⟨a, y, p, q, rfl, ha, hy, bp, bq, np, nq, k⟩ := h
    have N := M.rc
    refine ⟨_, pss_cons (ps_set (i := 2) scMul.nd rfl (Or.inl rfl) (pe_df DR hr (by rfl) (pa_cons (pv 1) pa_nil)))
      (pss_one (ps_ret (pe_rat2 M (hr.mono (by decide)) (by rfl) (pa_cons (pe_op op_mulW (pe_fld (pv 0) rfl) (pe_fld (pv 2) rfl)) (pa_cons (pe_op op_mulW (pe_fld (pv 0) rfl) (pe_fld (pv 2) rfl)) pa_nil))))), ?_⟩
    refine ⟨_, rfl, y, q, rfl, hy, bq.mono (by decide), fun H1 b s1 hb => ?_⟩
    obtain ⟨dx, h1⟩ := ha.same s1
    obtain ⟨dy, h2⟩ := hb
    refine ⟨_, rfl, a, C, dx, _, _, rfl, h1, N.cl, N.nT, rfl, _, rfl, b, C, dy, _, _, rfl, h2, N.cl, N.nT, rfl, _, _, rfl, rfl, wmul bp.1 bq.1 (by decide), ?_⟩
    refine ⟨_, rfl, a, C, dx, _, _, rfl, h1, N.cl, N.nB, rfl, _, rfl, b, C, dy, _, _, rfl, h2, N.cl, N.nB, rfl, _, _, rfl, rfl, wmul bp.2 bq.2 (by decide), ?_⟩
    exact fun x dx hx hdx ne => made2 (Int.mul_ne_zero np.ne nq.ne) (lt_mono (mul_lt bp.1 bq.1) (by decide)) (lt_mono (mul_lt bp.2 bq.2) (by decide)) (fun H' r s2 hn hr' => k H' r (Same.trans s1 s2) (s1.free hn) hr') x dx hx hdx ne
def spNeg (C : Addr) : Sp := fun vs H Q _ => ∃ (a : Addr) (p : Int × Int), vs = [.ref a] ∧ RatAt C H a p ∧ Bt 900 p ∧ Nrm p ∧ ∀ (H' : Hp) (r : Addr), Same H H' → H r = none → RatAt C H' r (negP p) → Q (.ref r) H'
theorem scNeg : FnScope ["self"] ["self"] (defScope sNeg) := ⟨rfl, rfl, rfl, by decide +kernel, rfl, by decide +kernel, by decide +kernel⟩
theorem ok_neg {f C : Addr} {fd : FuncData} (F : Fun K "__neg__" "Ratio.__neg__" sNeg f fd) (M : RMk P w K mg base C) : FnOk P w K mg base CX0 4 f fd ["self"] (spNeg C) := by
  refine F.ok scNeg (fun vs H Q E h => ?_) (fun cdv A outer s H vs Q E hr h => ?_)
  · obtain ⟨a, p, rfl, _⟩ := h
    rfl
  · obtain ⟨a, p, rfl, ⟨dx, h1⟩, bp, np, k⟩ := h
    have N := M.rc
    refine ⟨_, pss_one (ps_ret (pe_rat2 M hr (by rfl) (pa_cons (pe_op op_sub pe_int (pe_fld (pv 0) rfl)) (pa_cons (pe_fld (pv 0) rfl) pa_nil)))), ?_⟩
    refine ⟨_, rfl, a, C, dx, _, _, rfl, h1, N.cl, N.nT, rfl, _, _, rfl, rfl, _, rfl, a, C, dx, _, _, rfl, h1, N.cl, N.nB, rfl, ?_⟩
    exact fun x dx hx hdx ne => made2 np.ne (by rw [Int.zero_sub, Int.natAbs_neg]; exact lt_mono bp.1 (by decide)) (lt_mono bp.2 (by decide)) (fun H' r s2 hn hr' => k H' r s2 hn hr') x dx hx hdx ne
/-! ### over, where the divisor is not zero -/
def spOver (C : Addr) : Sp := fun vs H Q _ => ∃ (a : Addr) (y : V) (p q : Int × Int), vs = [.ref a, y] ∧ RatAt C H a p ∧ NumAt C H y q ∧ Bt 900 p ∧ Bt 900 q ∧ Nrm p ∧ q.1 ≠ 0 ∧
  ∀ (H' : Hp) (r : Addr), Same H H' → H r = none → RatAt C H' r (divP p q) → Q (.ref r) H'
theorem scOver : FnScope nBelow ["self", "other"] (defScope sOver) := ⟨rfl, rfl, rfl, by decide +kernel, rfl, by decide +kernel, by decide +kernel⟩
theorem ok_over {f C : Addr} {fd : FuncData} (F : Fun K "over" "Ratio.over" sOver f fd) (M : RMk P w K mg base C) (DR : Df P w K mg base "ratio_of" ["value"] 4 (spRatioOf C)) : FnOk P w K mg base CX0 5 f fd ["self", "other"] (spOver C) := by
  refine F.ok scOver (fun vs H Q E h => ?_) (fun cdv A outer s H vs Q E hr h => ?_)
  · obtain ⟨a, y, p, q, rfl, _⟩ := h
    rfl
  · obtain ⟨a, y, p, q, rfl, ha, hy, bp, bq, np, nq, k⟩ := h
    have N := M.rc
    refine ⟨_, PSs.nox (pss_cons (ps_set (i := 2) scOver.nd rfl (Or.inl rfl) (pe_df DR hr (by rfl) (pa_cons (pv 1) pa_nil)))
      (pss_cons (ps_if (pt_cmpR op_eq (pe_fld (pv 2) rfl) pe_int (nomark _)) (pss_one ps_never) pss_nil)
      (pss_one (ps_ret (pe_rat2 M (hr.mono (by decide)) (by rfl) (pa_cons (pe_op op_mulW (pe_fld (pv 0) rfl) (pe_fld (pv 2) rfl)) (pa_cons (pe_op op_mulW (pe_fld (pv 0) rfl) (pe_fld (pv 2) rfl)) pa_nil))))))), ?_⟩
    refine ⟨_, rfl, y, q, rfl, hy, bq.mono (by decide), fun H1 b s1 hb => ?_⟩
    obtain ⟨dx, h1⟩ := ha.same s1
    obtain ⟨dy, h2⟩ := hb
    refine ⟨_, rfl, b, C, dy, _, _, rfl, h2, N.cl, N.nT, rfl, rfl, _, rfl, ?_⟩
    rw [decide_eq_false (fun z => nq (V.int.inj z))]
    refine iteF ?_
    refine ⟨_, rfl, a, C, dx, _, _, rfl, h1, N.cl, N.nT, rfl, _, rfl, b, C, dy, _, _, rfl, h2, N.cl, N.nB, rfl, _, _, rfl, rfl, wmul bp.1 bq.2 (by decide), ?_⟩
    refine ⟨_, rfl, a, C, dx, _, _, rfl, h1, N.cl, N.nB, rfl, _, rfl, b, C, dy, _, _, rfl, h2, N.cl, N.nT, rfl, _, _, rfl, rfl, wmul bp.2 bq.1 (by decide), ?_⟩
    exact fun x dx hx hdx ne => made2 (Int.mul_ne_zero np.ne nq) (lt_mono (mul_lt bp.1 bq.2) (by decide)) (lt_mono (mul_lt bp.2 bq.1) (by decide)) (fun H' r s2 hn hr' => k H' r (Same.trans s1 s2) (s1.free hn) hr') x dx hx hdx ne
end
end S15

namespace S15
open PySem L2 RA
def tx (i : Int) : Str := Str.ofString (toString i)
def reprT (p : Int × Int) : Str := ("Ratio(" : Str) ++ tx p.1 ++ (", " : Str) ++ tx p.2 ++ (")" : Str)
def strT (p : Int × Int) : Str := if p.2 = 1 then tx p.1 else tx p.1 ++ ("/" : Str) ++ tx p.2
section
variable {P : Program} {w : World} {K : PySem.W.Frag} {mg : Str → Option Value} {base : Heap}
/-! ### __eq__ -/
def spEqR (C : Addr) : Sp := fun vs H Q _ => ∃ (a : Addr) (y : V) (p : Int × Int), vs = [.ref a, y] ∧ RatAt C H a p ∧ ((∃ b q, y = .ref b ∧ RatAt C H b q ∧ Q (.bl (decide (p = q))) H) ∨ ((∃ n, y = .int n) ∧ Q (.bl false) H) ∨ ((∃ t, y = .str t) ∧ Q (.bl false) H))
theorem scEq : FnScope ["self", "other"] ["self", "other"] (defScope sEq) := ⟨rfl, rfl, rfl, by decide +kernel, rfl, by decide +kernel, by decide +kernel⟩
theorem ok_eq {f C : Addr} {fd : FuncData} (F : Fun K "__eq__" "Ratio.__eq__" sEq f fd) (T : Bn mg) (N : Rc K mg C) : FnOk P w K mg base CX0 1 f fd ["self", "other"] (spEqR C) := by
  refine F.ok scEq (fun vs H Q E h => ?_) (fun cdv A outer s H vs Q E hr h => ?_)
  · obtain ⟨a, y, p, rfl, _⟩ := h
    rfl
  · obtain ⟨a, y, p, rfl, ⟨dx, h1⟩, h⟩ := h
    refine ⟨_, pss_one (ps_ret (pe_and (pe_callB call_isi (by rfl) T.isi (by decide +kernel) (pa_cons (pv 1) (pa_cons (pe_glob (v := .ref C) (by rfl) N.mgC rfl) pa_nil)))
      (pe_and (pe_cmpR op_eq (pe_fld (pv 0) rfl) (pe_fld (pv 1) rfl) (nomark _)) (pe_one (pe_cmpR op_eq (pe_fld (pv 0) rfl) (pe_fld (pv 1) rfl) (nomark _)))))), ?_⟩
    rcases h with ⟨b, q, rfl, ⟨dy, h2⟩, k⟩ | ⟨⟨n, rfl⟩, k⟩ | ⟨⟨t, rfl⟩, k⟩
    · refine ⟨_, rfl, _, _, _, _, true, rfl, .own C, .base (.ins h2 N.cl N.ic N.gt N.tk N.mo), kit_self, true, rfl, iteT ?_⟩
      refine ⟨_, rfl, a, C, dx, _, _, rfl, h1, N.cl, N.nT, rfl, _, rfl, b, C, dy, _, _, rfl, h2, N.cl, N.nT, rfl, rfl, _, rfl, ?_⟩
      by_cases e1 : p.1 = q.1
      · rw [decide_eq_true (congrArg V.int e1)]
        refine iteT ?_
        refine ⟨_, rfl, a, C, dx, _, _, rfl, h1, N.cl, N.nB, rfl, _, rfl, b, C, dy, _, _, rfl, h2, N.cl, N.nB, rfl, rfl, ?_⟩
        have e : (decide (V.int p.2 = V.int q.2)) = decide (p = q) := by
          refine decide_eq_decide.mpr ⟨fun z => Prod.ext e1 (V.int.inj z), fun z => by rw [z]⟩
        rw [← e] at k
        exact k
      · rw [decide_eq_false (fun z => e1 (V.int.inj z))]
        refine iteF ?_
        rw [decide_eq_false (fun z => e1 (congrArg Prod.fst z))] at k
        exact k
    · exact ⟨_, rfl, _, _, _, _, false, rfl, .own C, .base (.int n), N.ik, false, rfl, iteF k⟩
    · exact ⟨_, rfl, _, _, _, _, false, rfl, .own C, .base (.str t), N.sk, false, rfl, iteF k⟩
/-! ### texts -/
theorem len_tx {i : Int} (h : i.natAbs < 2 ^ 1900) : (tx i).length ≤ 2000 := by
  have := PyProof.Rows.int_text_len_1921 (i := i) (Nat.lt_trans (log_of h (by decide)) (by decide))
  exact Nat.le_trans this (by decide)
theorem log_ok {i : Int} (h : i.natAbs < 2 ^ 1900) : i.natAbs.log2 < 1920 := Nat.lt_trans (log_of h (by decide)) (by decide)
theorem e_len : Str.empty.length = 0 := rfl
theorem r_len : (("Ratio(" : Str)).length = 6 := rfl
theorem c_len : ((", " : Str)).length = 2 := rfl
theorem p_len : ((")" : Str)).length = 1 := rfl
theorem s_len : (("/" : Str)).length = 1 := rfl
def spTxt (C : Addr) (f : Int × Int → Str) : Sp := fun vs H Q _ => ∃ (a : Addr) (p : Int × Int), vs = [.ref a] ∧ RatAt C H a p ∧ Bt 1900 p ∧ Q (.str (f p)) H
theorem scStr : FnScope ["self"] ["self"] (defScope sStr) := ⟨rfl, rfl, rfl, by decide +kernel, rfl, by decide +kernel, by decide +kernel⟩
theorem scRepr : FnScope ["self"] ["self"] (defScope sRepr) := ⟨rfl, rfl, rfl, by decide +kernel, rfl, by decide +kernel, by decide +kernel⟩
theorem ok_repr {f C : Addr} {fd : FuncData} (F : Fun K "__repr__" "Ratio.__repr__" sRepr f fd) (N : Rc K mg C) : FnOk P w K mg base CX0 1 f fd ["self"] (spTxt C reprT) := by
  refine F.ok scRepr (fun vs H Q E h => ?_) (fun cdv A outer s H vs Q E hr h => ?_)
  · obtain ⟨a, p, rfl, _⟩ := h
    rfl
  · obtain ⟨a, p, rfl, ⟨dx, h1⟩, bp, q⟩ := h
    refine ⟨_, pss_one (ps_ret (pe_joined (PJ.cons pe_str (PJ.cons (pe_fmt (pe_fld (pv 0) rfl)) (PJ.cons pe_str (PJ.cons (pe_fmt (pe_fld (pv 0) rfl)) (PJ.cons pe_str PJ.nil))))))), ?_⟩
    have l1 := len_tx bp.1
    have l2 := len_tx bp.2
    have sl : sizeLine = 16777216 := sizeLine_eq
    refine ⟨_, rfl, ?_, _, rfl, a, C, dx, _, _, rfl, h1, N.cl, N.nT, rfl, .inr ⟨_, rfl, log_ok bp.1, _, rfl, ?_, _, rfl, ?_, ?_⟩⟩
    · rw [strLen_append, e_len, r_len, sl]; decide
    · show (Str.empty ++ ("Ratio(" : Str) ++ tx p.1).length ≤ _
      rw [strLen_append, strLen_append, e_len, r_len]; omega
    · show (Str.empty ++ ("Ratio(" : Str) ++ tx p.1 ++ (", " : Str)).length ≤ _
      rw [strLen_append, strLen_append, strLen_append, e_len, r_len, c_len]; omega
    refine ⟨_, rfl, a, C, dx, _, _, rfl, h1, N.cl, N.nB, rfl, .inr ⟨_, rfl, log_ok bp.2, _, rfl, ?_, _, rfl, ?_, ?_⟩⟩
    · show (Str.empty ++ ("Ratio(" : Str) ++ tx p.1 ++ (", " : Str) ++ tx p.2).length ≤ _
      rw [strLen_append, strLen_append, strLen_append, strLen_append, e_len, r_len, c_len]; omega
    · show (Str.empty ++ ("Ratio(" : Str) ++ tx p.1 ++ (", " : Str) ++ tx p.2 ++ (")" : Str)).length ≤ _
      rw [strLen_append, strLen_append, strLen_append, strLen_append, strLen_append, e_len, r_len, c_len, p_len]; omega
    show Q (.str (Str.empty ++ ("Ratio(" : Str) ++ tx p.1 ++ (", " : Str) ++ tx p.2 ++ (")" : Str))) H
    rw [Str.empty_append]
    exact q
theorem ok_str {f C : Addr} {fd : FuncData} (F : Fun K "__str__" "Ratio.__str__" sStr f fd) (T : Bn mg) (N : Rc K mg C) : FnOk P w K mg base CX0 1 f fd ["self"] (spTxt C strT) := by
  refine F.ok scStr (fun vs H Q E h => ?_) (fun cdv A outer s H vs Q E hr h => ?_)
  · obtain ⟨a, p, rfl, _⟩ := h
    rfl
  · obtain ⟨a, p, rfl, ⟨dx, h1⟩, bp, q⟩ := h
    refine ⟨_, pss_cons (ps_if (pt_cmpR op_eq (pe_fld (pv 0) rfl) pe_int (nomark _)) (pss_one (ps_ret (pe_callTy call_str_int (by rfl) T.str (by decide +kernel) (pa_cons (pe_fld (pv 0) rfl) pa_nil)))) pss_nil)
      (pss_one (ps_ret (pe_joined (PJ.cons (pe_fmt (pe_fld (pv 0) rfl)) (PJ.cons pe_str (PJ.cons (pe_fmt (pe_fld (pv 0) rfl)) PJ.nil)))))), ?_⟩
    have l1 := len_tx bp.1
    have l2 := len_tx bp.2
    have sl : sizeLine = 16777216 := sizeLine_eq
    refine ⟨_, rfl, a, C, dx, _, _, rfl, h1, N.cl, N.nB, rfl, rfl, _, rfl, ?_⟩
    unfold strT at q
    by_cases e : p.2 = 1
    · rw [decide_eq_true (congrArg V.int e)]
      rw [if_pos e] at q
      refine iteT ?_
      exact ⟨_, rfl, a, C, dx, _, _, rfl, h1, N.cl, N.nT, rfl, _, rfl, log_ok bp.1, q⟩
    · rw [decide_eq_false (fun z => e (V.int.inj z))]
      rw [if_neg e] at q
      refine iteF ?_
      refine ⟨_, rfl, a, C, dx, _, _, rfl, h1, N.cl, N.nT, rfl, .inr ⟨_, rfl, log_ok bp.1, _, rfl, ?_, _, rfl, ?_, ?_⟩⟩
      · show (Str.empty ++ tx p.1).length ≤ _
        rw [strLen_append, e_len]; omega
      · show (Str.empty ++ tx p.1 ++ ("/" : Str)).length ≤ _
        rw [strLen_append, strLen_append, e_len, s_len]; omega
      refine ⟨_, rfl, a, C, dx, _, _, rfl, h1, N.cl, N.nB, rfl, .inr ⟨_, rfl, log_ok bp.2, _, rfl, ?_, ?_⟩⟩
      · show (Str.empty ++ tx p.1 ++ ("/" : Str) ++ tx p.2).length ≤ _
        rw [strLen_append, strLen_append, strLen_append, e_len, s_len]; omega
      show Q (.str (Str.empty ++ tx p.1 ++ ("/" : Str) ++ tx p.2)) H
      rw [Str.empty_append]
      exact q
/-! ### is_number -/
def spIsNum (C : Addr) : Sp := fun vs H Q _ => ∃ (a : Addr) (p : Int × Int), vs = [.ref a] ∧ RatAt C H a p ∧ Q (.bl true) H
theorem scIsNum : FnScope ["value"] ["value"] (defScope sIsNum) := ⟨rfl, rfl, rfl, by decide +kernel, rfl, by decide +kernel, by decide +kernel⟩
theorem ok_isNum {f C : Addr} {fd : FuncData} (F : Fun K "is_number" "is_number" sIsNum f fd) (T : Bn mg) (N : Rc K mg C) (DI : Df P w K mg base "is_integer" ["value"] 1 (spIsInt C)) : FnOk P w K mg base CX0 2 f fd ["value"] (spIsNum C) := by
  refine F.ok scIsNum (fun vs H Q E h => ?_) (fun cdv A outer s H vs Q E hr h => ?_)
  · obtain ⟨a, p, rfl, _⟩ := h
    rfl
  · obtain ⟨a, p, rfl, ⟨dx, h1⟩, q⟩ := h
    refine ⟨_, pss_one (ps_ret (pe_or (pe_df DI hr (by rfl) (pa_cons (pv 0) pa_nil)) (pe_one (pe_callB call_isi (by rfl) T.isi (by decide +kernel) (pa_cons (pv 0) (pa_cons (pe_glob (v := .ref C) (by rfl) N.mgC rfl) pa_nil)))))), ?_⟩
    refine ⟨_, rfl, .inr ⟨a, dx, _, rfl, h1, false, rfl, iteF ?_⟩⟩
    exact ⟨_, rfl, _, _, _, _, true, rfl, .own C, .base (.ins h1 N.cl N.ic N.gt N.tk N.mo), kit_self, q⟩
end
end S15

namespace S15
open PySem L2 RA
/-! ### a call of a local name that holds the class -/
def tMakeL (i : Nat) (C : Addr) (sp : Sp) (E : XK) (t : TA) : TE := fun σ H Q => σ[i]? = some (some (.ref C)) ∧ StX.tMakeR C sp E t σ H Q
theorem pe_makeL {X : Cx} {CX : CXT} {k i : Nat} {C f : Addr} {sp : Sp} {E : XK} {x : Str} {e : Expr} {es : List Expr} {t : TA} {p pos : Pos} (M : Mk X.K C f) (F : FnR X.prog X.w X.K X.mg X.base CX k f sp) (hr : Room (k + 1) X.A) (hN : X.N[i]? = some x) (hv : Vis X.env.scope x) (hx : Passes CX X E) (ha : PA X (e :: es) t)
    (hdb : (x == ("__debug__" : Str)) = false := by decide) (hcd : (x == ("__classdict__" : Str)) = false := by decide)
    (he : starEach (e :: es) X.env = (false, eval e X.env) :: starEach es X.env := by rfl) (hpl : (backTo pos (starEach es X.env)).any (·.1) = false := by rfl) : PE X (.Call (.Name x p) (e :: es) [] pos) (tMakeL i C sp E t) := by
  refine ⟨fun pins s σ H Q I h => ?_⟩
  obtain ⟨hs, ht⟩ := h
  refine wpAny_Call_Name_kw (thn ((pe_var (pos := p) hN hv hdb hcd).run pins s σ H (fun v H1 => v = .ref C ∧ H1 = H) I ⟨.ref C, hs, rfl, rfl⟩) fun u s1 ⟨v, H1, I1, r1, q1⟩ => ?_)
  obtain ⟨rfl, rfl⟩ := q1
  cases r1
  refine PySem.W.callWith_K (h₀ := X.base) I.ok.mod.kin M.kp (thn (ha.run pos pins s1 σ _ _ I1 ht) fun us s2 ⟨vs, H2, I2, r, q⟩ => ⟨I2.kIn, ?_⟩) he hpl
  exact StX.run_makeR M F hr hx I2 r q
section
variable {P : Program} {w : World} {K : PySem.W.Frag} {mg : Str → Option Value} {base : Heap}
/-! ### the operators, as rules -/
structure ROp (P : Program) (w : World) (K : PySem.W.Frag) (mg : Str → Option Value) (base : Heap) (C : Addr) : Prop where
  rm : RMk P w K mg base C
  add : ∃ g, PySem.W.findIn K (.ref C) "__add__" = some (some (.ref g)) ∧ PySem.W.isFn K (.ref g) = true ∧ FnR P w K mg base CX0 5 g (spBin C addP) ∧ PySem.W.findIn K (.ref C) "__radd__" = some none
  sub : ∃ g, PySem.W.findIn K (.ref C) "__sub__" = some (some (.ref g)) ∧ PySem.W.isFn K (.ref g) = true ∧ FnR P w K mg base CX0 5 g (spBin C subP) ∧ PySem.W.findIn K (.ref C) "__rsub__" = some none
  mul : ∃ g, PySem.W.findIn K (.ref C) "__mul__" = some (some (.ref g)) ∧ PySem.W.isFn K (.ref g) = true ∧ FnR P w K mg base CX0 5 g (spBin C mulP) ∧ PySem.W.findIn K (.ref C) "__rmul__" = some none
  neg : ∃ g, PySem.W.findIn K (.ref C) "__neg__" = some (some (.ref g)) ∧ PySem.W.isFn K (.ref g) = true ∧ FnR P w K mg base CX0 5 g (spNeg C)
  eq : ∃ g, PySem.W.findIn K (.ref C) "__eq__" = some (some (.ref g)) ∧ PySem.W.isFn K (.ref g) = true ∧ FnR P w K mg base CX0 5 g (spEqR C) ∧ PySem.W.findIn K (.ref C) "__ne__" = some (some (.builtin "object.__ne__"))
  str : ∃ g, PySem.W.findIn K (.ref C) "__str__" = some (some (.ref g)) ∧ PySem.W.isFn K (.ref g) = true ∧ FnR P w K mg base CX0 5 g (spTxt C strT)
  repr : ∃ g, PySem.W.findIn K (.ref C) "__repr__" = some (some (.ref g)) ∧ PySem.W.isFn K (.ref g) = true ∧ FnR P w K mg base CX0 5 g (spTxt C reprT)
/-- x op y -/
def rBin (C : Addr) (g : Int × Int → Int × Int → Int × Int) : R2 := fun x y H Q => ∃ (a : Addr) (p q : Int × Int), x = .ref a ∧ RatAt C H a p ∧ NumAt C H y q ∧ Bt 900 p ∧ Bt 900 q ∧ Nrm p ∧ Nrm q ∧
  ∀ (H' : Hp) (r : Addr), Same H H' → H r = none → RatAt C H' r (g p q) → Q (.ref r) H'
theorem bin_own {C : Addr} {g : Int × Int → Int × Int → Int × Int} (x y : V) (H : Hp) (Q : VK) (h : rBin C g x y H Q) : rOwnM C (spBin C g) x y H Q := by
  obtain ⟨a, p, q, rfl, ha, hy, r⟩ := h
  obtain ⟨dx, h1⟩ := id ha
  refine ⟨a, dx, _, rfl, h1, ?_, a, y, p, q, rfl, ha, hy, r⟩
  rcases hy with ⟨b, rfl, dy, h2⟩ | ⟨n, rfl, _⟩
  · exact .inl ⟨b, dy, _, rfl, h2⟩
  · exact .inr ⟨n, rfl⟩
variable {X : Cx} {C : Addr}
theorem op_radd (N : ROp X.prog X.w X.K X.mg X.base C) (hr : Room 5 X.A) : OpR X (binaryOp .Add) (rBin C addP) := by
  obtain ⟨g, h1, h2, h3, h4⟩ := N.add
  exact OpR.imp (op_ownM (op := .Add) N.rm.rc.sf h1 h2 h4 (fo := some (.builtin "int.__add__")) (ro := some (.builtin "int.__radd__")) (by kernel_rfl) (by kernel_rfl) N.rm.rc.si h3 hr) bin_own
theorem op_rsub (N : ROp X.prog X.w X.K X.mg X.base C) (hr : Room 5 X.A) : OpR X (binaryOp .Sub) (rBin C subP) := by
  obtain ⟨g, h1, h2, h3, h4⟩ := N.sub
  exact OpR.imp (op_ownM (op := .Sub) N.rm.rc.sf h1 h2 h4 (fo := some (.builtin "int.__sub__")) (ro := some (.builtin "int.__rsub__")) (by kernel_rfl) (by kernel_rfl) N.rm.rc.si h3 hr) bin_own
theorem op_rmul (N : ROp X.prog X.w X.K X.mg X.base C) (hr : Room 5 X.A) : OpR X (binaryOp .Mult) (rBin C mulP) := by
  obtain ⟨g, h1, h2, h3, h4⟩ := N.mul
  exact OpR.imp (op_ownM (op := .Mult) N.rm.rc.sf h1 h2 h4 (fo := some (.builtin "int.__mul__")) (ro := some (.builtin "int.__rmul__")) (by kernel_rfl) (by kernel_rfl) N.rm.rc.si h3 hr) bin_own
end
end S15

namespace S15
open PySem L2 RA
theorem UnR.imp {X : Cx} {f : Value → Sem Value} {r r' : V → Hp → VK → Prop} (h : UnR X f r) (i : ∀ x H Q, r' x H Q → r x H Q) : UnR X f r' := fun pins s σ H x v Q I rx q => h pins s σ H x v Q I rx (i x H Q q)
section
variable {X : Cx} {C : Addr}
def rNeg (C : Addr) : V → Hp → VK → Prop := fun x H Q => ∃ (a : Addr) (p : Int × Int), x = .ref a ∧ RatAt C H a p ∧ Bt 900 p ∧ Nrm p ∧ ∀ (H' : Hp) (r : Addr), Same H H' → H r = none → RatAt C H' r (negP p) → Q (.ref r) H'
theorem un_rneg (N : ROp X.prog X.w X.K X.mg X.base C) (hr : Room 5 X.A) : UnR X (unaryOp .USub) (rNeg C) := by
  obtain ⟨g, h1, h2, h3⟩ := N.neg
  refine UnR.imp (L2.un_own (E := E0) h1 h2 h3 hr pass0) fun x H Q h => ?_
  obtain ⟨a, p, rfl, ha, k⟩ := h
  obtain ⟨dx, h1⟩ := id ha
  exact ⟨a, dx, _, rfl, h1, a, p, rfl, ha, k⟩
/-- x == y, x != y -/
def rEq (C : Addr) (neg : Bool) : R2 := fun x y H Q => ∃ (a : Addr) (p : Int × Int), x = .ref a ∧ RatAt C H a p ∧ ((∃ b q, y = .ref b ∧ RatAt C H b q ∧ Q (.bl (xor neg (decide (p = q)))) H) ∨ ((∃ n, y = .int n) ∧ Q (.bl neg) H) ∨ ((∃ t, y = .str t) ∧ Q (.bl neg) H))
theorem eq_own {C : Addr} {neg : Bool} (x y : V) (H : Hp) (Q : VK) (h : rEq C neg x y H Q) : rOwnEq C (spEqR C) neg x y H Q := by
  obtain ⟨a, p, rfl, ha, h⟩ := h
  obtain ⟨dx, h1⟩ := id ha
  rcases h with ⟨b, q, rfl, hb, k⟩ | ⟨⟨n, rfl⟩, k⟩ | ⟨⟨t, rfl⟩, k⟩
  · obtain ⟨dy, h2⟩ := id hb
    exact ⟨a, dx, _, _, rfl, h1, .ins h2, a, _, p, rfl, ha, .inl ⟨b, q, rfl, hb, _, rfl, k⟩⟩
  · exact ⟨a, dx, _, _, rfl, h1, .int n, a, _, p, rfl, ha, .inr (.inl ⟨⟨n, rfl⟩, _, rfl, by rw [Bool.xor_false]; exact k⟩)⟩
  · exact ⟨a, dx, _, _, rfl, h1, .str t, a, _, p, rfl, ha, .inr (.inr ⟨⟨t, rfl⟩, _, rfl, by rw [Bool.xor_false]; exact k⟩)⟩
theorem nf_i {K : PySem.W.Frag} {C : Addr} {T : String} (h : PySem.W.subIn K (.type T) (.ref C) = some false) : PySem.W.notFirst K C (.type T) = true := by
  unfold PySem.W.notFirst
  rw [h]
  simp
theorem op_req (N : ROp X.prog X.w X.K X.mg X.base C) (hr : Room 5 X.A) : OpR X (compareOp .Eq) (rEq C false) := by
  obtain ⟨g, h1, h2, h3, h4⟩ := N.eq
  exact OpR.imp (op_ownEq h1 h2 (nf_i N.rm.rc.si) (nf_i N.rm.rc.ss) h3 hr) eq_own
theorem op_rne (N : ROp X.prog X.w X.K X.mg X.base C) (hr : Room 6 X.A) : OpR X (compareOp .NotEq) (rEq C true) := by
  obtain ⟨g, h1, h2, h3, h4⟩ := N.eq
  exact OpR.imp (op_ownNe h1 h2 h4 N.rm.rc.mo (nf_i N.rm.rc.si) (nf_i N.rm.rc.ss) h3 hr) eq_own
/-- str(x), repr(x) -/
def rTxt (C : Addr) (f : Int × Int → Str) : List V → Hp → VK → Prop := fun us H Q => ∃ (a : Addr) (p : Int × Int), us = [.ref a] ∧ RatAt C H a p ∧ Bt 1900 p ∧ Q (.str (f p)) H
theorem call_rstr (N : ROp X.prog X.w X.K X.mg X.base C) (hr : Room 7 X.A) : CallR X (.type "str") (rTxt C strT) := by
  obtain ⟨g, h1, h2, h3⟩ := N.str
  refine CallR.imp (call_strO h1 h2 h3 hr) fun us H Q h => ?_
  obtain ⟨a, p, rfl, ha, bp, k⟩ := h
  obtain ⟨dx, e⟩ := id ha
  exact ⟨a, dx, _, rfl, e, a, p, rfl, ha, bp, _, rfl, k⟩
theorem call_rrepr (N : ROp X.prog X.w X.K X.mg X.base C) (hr : Room 6 X.A) : CallR X (.builtin "repr") (rTxt C reprT) := by
  obtain ⟨g, h1, h2, h3⟩ := N.repr
  refine CallR.imp (call_reprO (E := E0) h1 h2 h3 hr) fun us H Q h => ?_
  obtain ⟨a, p, rfl, ha, bp, k⟩ := h
  obtain ⟨dx, e⟩ := id ha
  exact ⟨a, dx, _, rfl, e, a, p, rfl, ha, bp, _, rfl, k⟩
/-- how a number is shown -/
def numT (y : V) (p : Int × Int) : Str := match y with
  | .int n => tx n
  | _ => reprT p
/-- repr([x, y]), x a number, y a ratio -/
def rPair (C : Addr) : List V → Hp → VK → Prop := fun us H Q => ∃ (l b : Addr) (y : V) (p q : Int × Int), us = [.ref l] ∧ H l = some (.lst [y, .ref b]) ∧ NumAt C H y p ∧ RatAt C H b q ∧ Bt 1900 p ∧ Bt 1900 q ∧ ∀ H' : Hp, Same H H' → Q (.str (listText [numT y p, reprT q])) H'
theorem len_reprT {p : Int × Int} (h : Bt 1900 p) : (reprT p).length ≤ 5000 := by
  have l1 := len_tx h.1
  have l2 := len_tx h.2
  unfold reprT
  rw [strLen_append, strLen_append, strLen_append, strLen_append, r_len, c_len, p_len]
  omega
theorem len_list2 (a b : Str) (h1 : a.length ≤ 5000) (h2 : b.length ≤ 5000) : (listText [a, b]).length ≤ sizeLine := by
  have sl : sizeLine = 16777216 := sizeLine_eq
  have h := textFrom_len_le [a, b] 0 "["
  have e : (listText [a, b]).length = (textFrom 0 "[" [a, b]).length + 1 := by
    show (textFrom 0 "[" [a, b] ++ "]").length = _
    rw [strLen_append]; rfl
  have e2 : ((("[" : String) : Str)).length = 1 := rfl
  rw [e2] at h
  simp only [List.map_cons, List.map_nil, List.sum_cons, List.sum_nil, List.length_cons, List.length_nil] at h
  omega
theorem call_rpair (N : ROp X.prog X.w X.K X.mg X.base C) (gd : X.A.guards = some []) (hr : Room 7 X.A) : CallR X (.builtin "repr") (rPair C) := by
  obtain ⟨g, h1, h2, h3⟩ := N.repr
  refine CallR.imp (call_reprL (k := 5) gd hr) fun us H Q h => ?_
  obtain ⟨l, b, y, p, q, rfl, hl, hy, hb, bp, bq, k⟩ := h
  have shO : ∀ (a : Addr) (r : Int × Int), RatAt C H a r → Bt 1900 r → Shn X 5 (fun H' => Same H H') (.ref a) (reprT r) := fun a r ha br => by
    obtain ⟨dx, e⟩ := id ha
    exact sg_own h1 h2 h3 (fun H' s => ⟨dx, _, s _ _ e⟩) fun H' s => ⟨a, r, rfl, ha.same s, br, rfl, s⟩
  refine ⟨l, [y, .ref b], [numT y p, reprT q], fun H' => Same H H', rfl, Same.refl H, fun H' s => s _ _ hl, by simp, rfl, ?_, ?_, fun H' s => k H' s⟩
  · intro i v hv
    match i, hv with
    | 0, hv =>
      obtain rfl : y = v := by simpa using hv
      refine ⟨_, rfl, ?_⟩
      rcases hy with ⟨a, rfl, ha⟩ | ⟨n, rfl, rfl⟩
      · exact shO a p ha bp
      · exact sg_int (log_ok bp.1)
    | 1, hv =>
      obtain rfl : V.ref b = v := by simpa using hv
      exact ⟨_, rfl, shO b q hb bq⟩
    | n + 2, hv => simp at hv
  · refine len_list2 _ _ ?_ (len_reprT bq)
    unfold numT
    split
    · rcases hy with ⟨a, e, _⟩ | ⟨n, e, rfl⟩
      · cases e
      · cases e
        exact Nat.le_trans (len_tx bp.1) (by decide)
    · exact len_reprT bp
end
end S15

namespace S15
open PySem L2 RA
theorem addP_bt2 {n m : Nat} {p q : Int × Int} (h : Nrm p) (k : Nrm q) (a : Bt n p) (b : Bt m q) : Bt (n + m + 1) (addP p q) :=
  nf_bt (Int.mul_ne_zero h.ne k.ne) (add_lt (mul_lt a.1 b.2) (by rw [Nat.add_comm n m]; exact mul_lt b.1 a.2)) (lt_mono (mul_lt a.2 b.2) (by omega))
def sumP (ps : List (Int × Int)) : Int × Int := ps.foldl addP (0, 1)
theorem sumP_snoc (ps : List (Int × Int)) (p : Int × Int) : sumP (ps ++ [p]) = addP (sumP ps) p := by
  unfold sumP
  rw [List.foldl_append]
  rfl
theorem sumP_ok : ∀ (ps : List (Int × Int)), (∀ p ∈ ps, Bt 100 p ∧ Nrm p) → Nrm (sumP ps) ∧ Bt (1 + 101 * ps.length) (sumP ps) := fun ps => by
  have key : ∀ (l : List (Int × Int)) (c : Int × Int) (n : Nat), Nrm c → Bt n c → (∀ p ∈ l, Bt 100 p ∧ Nrm p) → Nrm (l.foldl addP c) ∧ Bt (n + 101 * l.length) (l.foldl addP c) := by
    intro l
    induction l with
    | nil => exact fun c n h b _ => ⟨h, b⟩
    | cons p l ih =>
      intro c n h b hl
      have hp := hl p (List.mem_cons_self ..)
      have := ih (addP c p) (n + 100 + 1) (addP_nrm h hp.2) (addP_bt2 h hp.2 b hp.1) fun q hq => hl q (List.mem_cons_of_mem _ hq)
      refine ⟨this.1, this.2.mono ?_⟩
      rw [List.length_cons]
      omega
  exact key ps (0, 1) 1 (nrm_int 0) ⟨by decide, by decide⟩
theorem pow1900 : (0 : Int).natAbs < 2 ^ 1900 := Nat.two_pow_pos 1900
theorem pow1900' : (1 : Int).natAbs < 2 ^ 1900 := Nat.one_lt_two_pow (by decide)
theorem made1 {C : Addr} {H1 : Hp} {n : Int} {Q : VK} {E : XK} (h1 : n.natAbs < 2 ^ 1900) (k : ∀ (H' : Hp) (p : Addr), Same H1 H' → H1 p = none → RatAt C H' p (n, 1) → Q (.ref p) H') :
    ∀ x dx, H1 x = none → H1 dx = none → dx ≠ x → spR1 C [V.ref x, .int n] (upd (upd H1 dx (.own x)) x (.ins C dx [])) (fun v H2 => v = .non ∧ Q (.ref x) H2) E := fun x dx hx hdx ne => by
  have z := made2 (E := E) (by decide : (1 : Int) ≠ 0) h1 pow1900' (fun H' p s hn r => k H' p s hn (by rw [nf_int] at r; exact r)) x dx hx hdx ne
  exact z
theorem tm1 {C : Addr} {H1 : Hp} {n : Int} {Q : VK} {E : XK} {σ : St} (h1 : n.natAbs < 2 ^ 1900) (k : ∀ (H' : Hp) (p : Addr), Same H1 H' → H1 p = none → RatAt C H' p (n, 1) → Q (.ref p) H') : StX.tMakeR C (spR1 C) E (tCons (tC (.int n)) tNil) σ H1 Q := made1 h1 k
/-- the values ys stand for the numbers ps -/
def NumsAt (C : Addr) (H : Hp) (ys : List V) (ps : List (Int × Int)) : Prop := ys.length = ps.length ∧ ∀ (i : Nat) (y : V), ys[i]? = some y → ∃ p, ps[i]? = some p ∧ NumAt C H y p
section
variable {P : Program} {w : World} {K : PySem.W.Frag} {mg : Str → Option Value} {base : Heap}
/-! ### total -/
def spTot (C : Addr) : Sp := fun vs H Q _ => ∃ (t : Addr) (ys : List V) (ps : List (Int × Int)), vs = [.ref C, .ref t] ∧ H t = some (.tup ys) ∧ NumsAt C H ys ps ∧ ps.length ≤ 3 ∧ (∀ p ∈ ps, Bt 100 p ∧ Nrm p) ∧
  ∀ (H' : Hp) (r : Addr), Same H H' → H r = none → RatAt C H' r (sumP ps) → Q (.ref r) H'
abbrev nTot : List Str := ["cls", "numbers", "found", "number"]
theorem scTot : FnScope nTot (([("cls" : Str)] : List Str) ++ [("numbers" : Str)]) (defScope sTotal) := ⟨rfl, rfl, rfl, by decide +kernel, rfl, by decide +kernel, by decide +kernel⟩
theorem ok_total {f C : Addr} {fd : FuncData} (F : Fun K "total" "Ratio.total" sTotal f fd) (N : ROp P w K mg base C) :
    FnR P w K mg base CX0 6 f (fun vs H Q E => ∃ ws rest, vs = ws ++ rest ∧ ws.length = (["cls"] : List Str).length ∧ rest.length ≤ sizeLine ∧ ∀ p, H p = Option.none → spTot C (ws ++ [V.ref p]) (upd H p (.tup rest)) Q E) := by
  obtain ⟨oc, od, kV, doc, pm, an, cdv, ct, osl, rfl, lk, hcd⟩ := F.ex
  refine StX.fn_star (ps := ["cls"]) (pv := "numbers") lk hcd scTot StX.cxUp_none (fun us rest hl => ?_) (fun A outer s H vs Q E hr h => ?_)
  · match us, rest, hl with
    | [u], [], _ => rfl
    | [u], a :: b, _ => rfl
  · obtain ⟨t, ys, ps, rfl, ht, hys, hlen, hps, k⟩ := h
    obtain ⟨fi, mkI, F2, F1⟩ := N.rm.ex
    refine ⟨_, PSs.nox (pss_cons (ps_set (i := 2) scTot.nd rfl (Or.inl rfl) (pe_makeL (i := 0) (E := E0) mkI F1 (hr.mono (by decide)) rfl (Or.inl rfl) pass0 (pa_cons pe_int pa_nil)))
      (pss_cons (ps_for PassesOwn.never rfl (pi_tup (pv 1)) (pg_name (i := 3) scTot.nd rfl (Or.inl rfl)) (pss_one (ps_set (i := 2) scTot.nd rfl (Or.inl rfl) (pe_op (op_radd N hr) (pv 2) (pv 3)))))
      (pss_one (ps_ret (pv 2))))), ?_⟩
    refine ⟨rfl, tm1 pow1900 fun H1 r0 s1 hn0 hr0 => ?_⟩
    refine ⟨_, rfl, t, rfl, ⟨_, .inl (.inl (s1 _ _ ht))⟩, for_it (walk_tup (K := K) (a := t) (xs := ys)) (fun i σ H' => Same H H' ∧ ∃ r v, H r = none ∧ RatAt C H' r (sumP (ps.take i)) ∧ σ = [some (.ref C), some (.ref t), some (.ref r), v]) ⟨s1, r0, none, hn0, hr0, rfl⟩ (fun i σ H' _ h => .inl (.inl (h.1 _ _ ht))) ?_ ?_⟩
    · rintro i y σ _ H' hi ⟨s2, r, v, hn, hr', rfl⟩ ⟨rfl, hy⟩
      obtain ⟨p, hp, hyp⟩ := hys.2 i y hy
      have hpm : p ∈ ps := List.mem_of_getElem? hp
      have ok := sumP_ok (ps.take i) fun q hq => hps q (List.mem_of_mem_take hq)
      have hb : Bt 900 (sumP (ps.take i)) := ok.2.mono (by rw [List.length_take]; omega)
      refine ⟨_, rfl, _, rfl, r, _, p, rfl, hr', hyp.same s2, hb, (hps p hpm).1.mono (by decide), ok.1, (hps p hpm).2, fun H2 r2 s3 hn2 hr2 => ?_⟩
      refine ⟨Same.trans s2 s3, r2, some y, s2.free hn2, ?_, rfl⟩
      rw [List.take_add_one, hp, Option.toList_some, sumP_snoc]
      exact hr2
    · rintro σ H' ⟨s2, r, v, hn, hr', rfl⟩
      rw [List.take_of_length_le (by rw [hys.1]; exact Nat.le_refl _)] at hr'
      exact ⟨_, rfl, k H' r s2 hn hr'⟩
end
end S15

namespace S15
open PySem L2 RA
abbrev reTail : List Value := [.type "RuntimeError", .type "Exception", .type "BaseException", .type "object"]
/-- a def with __class__ captured -/
abbrev fnC (name qual : Str) (params : Arguments) (body : List Stmt) (scope : Scope) (dV kV doc pm : Value) (an : Option Addr) (cdv ct : Value) (cc : Addr) : FuncData :=
  { name, qualname := qual, params, body := .stmts body, scope, globals := mainGlobals, closure := [(("__class__" : Str), cc)], defaults := dV, kwdefaults := kV, doc, pyModule := pm, annotations := an, code := cdv, closureTuple := ct, builtins := builtinsNs }
section
variable {P : Program} {w : World} {K : PySem.W.Frag} {mg : Str → Option Value} {base : Heap}
/-! ### DividedByZero.__init__ -/
def spDZ (D : Addr) : Sp := fun vs H Q _ => ∃ a, vs = [.ref a] ∧ H a = some (exo a D none) ∧ Q .non H
def dzArg : Arg := ((defArgs sDZInit).posonlyargs ++ (defArgs sDZInit).args).headD (Arg.mk "" none ⟨0, 0, 0, 0⟩)
theorem ok_dz {f D cc : Addr} {cd1 : Option Addr} {sl1 : Array (Option Value)} {kV doc pm cdv ct : Value} {an : Option Addr} (hcd : PySem.W.codeIn K cdv "DividedByZero.__init__" = true) (hcc : K.lookup cc = some ⟨.type "cell", cd1, .cell (some (.ref D)), sl1⟩)
    (T : SupK "RuntimeError" "RuntimeError.__new__" "RuntimeError.__init__" reTail P K mg D f (fnC "__init__" "DividedByZero.__init__" (defArgs sDZInit) (defBody sDZInit) (defScope sDZInit) .none kV doc pm an cdv ct cc) dzArg) :
    FnG P w K mg base CX0 1 f (fnC "__init__" "DividedByZero.__init__" (defArgs sDZInit) (defBody sDZInit) (defScope sDZInit) .none kV doc pm an cdv ct cc) ["self"] (spDZ D) := by
  refine fn_sup (k := 0) (N := ["self"]) ⟨rfl, rfl, rfl, by decide, rfl, by show ∀ x ∈ [("self" : Str)], (defScope sDZInit).names.lookup x = some .local; decide +kernel, by show ∀ y ∈ (defScope sDZInit).names, y.2 ≠ .cell; decide +kernel, by show ∀ y ∈ (defScope sDZInit).names, y.2 = .free → y.1 = ("__class__" : Str); decide +kernel, rfl, rfl, rfl, rfl, rfl⟩ hcc F.excBase_RuntimeError PySem.W.kxs_RuntimeError T rfl hcd rfl (fun vs H Q E h => ?_) (fun env => rfl) (fun env => rfl) (fun L => rfl) (fun L => rfl) (fun A outer s H vs Q E gd hr h => ?_)
  · obtain ⟨a, rfl, _⟩ := h
    rfl
  · obtain ⟨a, rfl, ha, q⟩ := h
    exact ⟨a, _, _, rfl, ha, pa_cons pe_str pa_nil, pss_nil, by decide, ha, q⟩
/-- what is known of DividedByZero -/
structure Dz (P : Program) (w : World) (K : PySem.W.Frag) (mg : Str → Option Value) (base : Heap) (D : Addr) : Prop where
  cl : OexB "RuntimeError.__new__" reTail K D
  mgD : mg "DividedByZero" = some (.ref D)
  ex : ∃ fI fd, PySem.W.findIn K (.ref D) "__init__" = some (some (.ref fI)) ∧ PySem.W.typeIn K (.ref fI) = some (.type "function") ∧ Binds K fd ["self"] [] ∧ FnG P w K mg base CX0 1 fI fd ["self"] (spDZ D)
  me : PySem.W.exmOne K (.ref D) (.ref D) = some true
theorem pmk_dz {X : Cx} {D : Addr} {p pos : Pos} (Z : Dz X.prog X.w X.K X.mg X.base D) (gd : X.A.guards = some []) (hr : Room 2 X.A) (hg : Gl X "DividedByZero") : L2.PMk X (.Call (.Name "DividedByZero" p) [] [] pos) (tMkS0 D (spDZ D)) := by
  obtain ⟨fI, fd, h1, h2, h3, h4⟩ := Z.ex
  exact pmk_sup0 F.excBase_RuntimeError Z.cl h1 h2 h4 gd hr h3 pass0 hg Z.mgD
/-! ### over, where the divisor is zero -/
def spOverX (C D : Addr) : Sp := fun vs H _ E => ∃ (a : Addr) (y : V) (p q : Int × Int), vs = [.ref a, y] ∧ RatAt C H a p ∧ NumAt C H y q ∧ Bt 900 q ∧ q.1 = 0 ∧ ∀ H' : Hp, Same H H' → E (.ref D) none H'
theorem ok_overX {f C D : Addr} {fd : FuncData} (F : Fun K "over" "Ratio.over" sOver f fd) (M : RMk P w K mg base C) (Z : Dz P w K mg base D) (DR : Df P w K mg base "ratio_of" ["value"] 4 (spRatioOf C)) : FnG P w K mg base (L2.CX P w) 5 f fd ["self", "other"] (spOverX C D) := by
  obtain ⟨oc, od, kV, doc, pm, an, cdv, ct, osl, rfl, lk, hcd⟩ := F.ex
  refine fn_ofG lk hcd scOver (fun vs H Q E h => ?_) fun A outer s H vs Q E gd hr h => ?_
  · obtain ⟨a, y, p, q, rfl, _⟩ := h
    rfl
  · obtain ⟨a, y, p, q, rfl, ha, hy, bq, hq, k⟩ := h
    have N := M.rc
    refine ⟨_, pss_cons (ps_set (i := 2) scOver.nd rfl (Or.inl rfl) (pe_df DR hr (by rfl) (pa_cons (pv 1) pa_nil)))
      (pss_cons (ps_if (pt_cmpR op_eq (pe_fld (pv 2) rfl) pe_int (nomark _)) (pss_one (ps_raise (by rfl) (takes_of (E := E) rfl rfl rfl rfl) (pmk_dz Z gd (hr.mono (by decide)) (by rfl)))) pss_nil)
      (pss_one ps_never)), ?_⟩
    refine ⟨_, rfl, y, q, rfl, hy, bq.mono (by decide), fun H1 b s1 hb => ?_⟩
    obtain ⟨dy, h2⟩ := hb
    refine ⟨_, rfl, b, C, dy, _, _, rfl, h2, N.cl, N.nT, rfl, rfl, _, rfl, ?_⟩
    rw [decide_eq_true (congrArg V.int hq)]
    refine iteT ?_
    refine fun e he => ⟨e, rfl, upd_same, rfl, upd_same, ?_⟩
    refine k _ (fun c o hc => ?_)
    have nce : c ≠ e := ne_of_none (s1 _ _ hc) he
    rw [del_ne nce, upd_ne nce]
    exact s1 _ _ hc
end
end S15

namespace S15
open PySem L2 RA
/-- the two numbers that draw -/
def PotAt (H : Hp) (l : Addr) : Prop := ∃ x y : Int, H l = some (.lst [.int x, .int y]) ∧ 0 ≤ x ∧ 0 ≤ y ∧ y < 4294967296
theorem SameX.same {x : Addr} {H H' H2 : Hp} (a : SameX x H H') (b : Same H' H2) : SameX x H H2 := fun c o hc e => b c o (a c o hc e)
theorem SameX.trans {x : Addr} {H H' H2 : Hp} (a : SameX x H H') (b : SameX x H' H2) : SameX x H H2 := fun c o hc e => b c o hc (a c o hc e)
theorem SameX.of {x : Addr} {H H' : Hp} (a : Same H H') : SameX x H H' := fun c o _ e => a c o e
theorem SameX.put {x : Addr} {H H' : Hp} {o : HO} (a : SameX x H H') : SameX x H (upd H' x o) := fun c p hc e => by rw [upd_ne hc]; exact a c p hc e
theorem SameX.free {x : Addr} {H H' : Hp} (a : SameX x H H') {l : Addr} (hl : l ≠ x) (h : H' l = none) : H l = none := by
  cases e : H l with
  | none => rfl
  | some o => rw [a l o hl e] at h; cases h
theorem PotAt.same {H H' : Hp} {l : Addr} (s : Same H H') (h : PotAt H l) : PotAt H' l := by
  obtain ⟨x, y, e, r⟩ := h
  exact ⟨x, y, s _ _ e, r⟩
theorem PotAt.not {C : Addr} {H : Hp} {l a : Addr} {p : Int × Int} (h : PotAt H l) (r : RatAt C H a p) : a ≠ l := fun e => by
  obtain ⟨x, y, e1, _⟩ := h
  obtain ⟨dx, e2⟩ := r
  rw [e, e1] at e2
  cases e2
section
variable {P : Program} {w : World} {K : PySem.W.Frag} {mg : Str → Option Value} {base : Heap}
/-! ### _law_pot -/
def spPot (K : PySem.W.Frag) : Sp := fun vs H Q _ => ∃ (a : Addr) (ns : List Int) (k : Nat), vs = [.ref a, .int k] ∧ SqL K H a (ns.map V.int) ∧ k < 4 ∧ ns.length ≤ 1000 ∧ ∀ H' l, Same H H' → H l = none → PotAt H' l → Q (.ref l) H'
abbrev nPot : List Str := ["_law_script", "_law_k", "_law_cell"]
theorem scPot : FnScope nPot ["_law_script", "_law_k"] (defScope sPot) := ⟨rfl, rfl, rfl, by decide +kernel, rfl, by decide +kernel, by decide +kernel⟩
theorem ok_pot {f : Addr} {fd : FuncData} (F : Fun K "_law_pot" "_law_pot" sPot f fd) (T : Bn mg) : FnOk P w K mg base CX0 1 f fd ["_law_script", "_law_k"] (spPot K) := by
  refine F.ok scPot (fun vs H Q E h => ?_) (fun cdv A outer s H vs Q E hr h => ?_)
  · obtain ⟨a, ns, k, rfl, _⟩ := h
    rfl
  · obtain ⟨a, ns, k, rfl, ha, hk, hl, q⟩ := h
    refine ⟨_, pss_cons (ps_set (i := 2) scPot.nd rfl (Or.inl rfl) (pe_ifExp (pt_cmpR op_lt (pv 1) (pe_callB call_len_seq (by rfl) T.len PySem.boot_len (pa_cons (pv 0) pa_nil)) (nomark _))
        (pe_callB call_abs (by rfl) T.abs (by decide +kernel) (pa_cons (pe_ix ix_list (pv 0) (pv 1) (fun _ _ => rfl)) pa_nil)) pe_int))
      (pss_one (ps_ret (pe_lst (pa_cons (pe_callB (call_max2 rfl) (by rfl) T.max (by decide +kernel) (pa_cons pe_int (pa_cons (pe_op op_sub (pv 2) (pe_op op_pow pe_int pe_int)) pa_nil)))
        (pa_cons (pe_op op_mod (pe_callTy call_int1 (by rfl) T.int (by decide +kernel) (pa_cons (pe_op op_add (pe_op op_add (pe_op op_mul (pe_op op_mod (pe_callTy call_int1 (by rfl) T.int (by decide +kernel) (pa_cons (pv 2) pa_nil)) pe_int) pe_int) (pe_op op_mul pe_int (pv 1))) pe_int) pa_nil)) pe_int) pa_nil))))), ?_⟩
    refine ⟨_, rfl, _, rfl, a, _, rfl, .inl ha, _, _, rfl, rfl, _, rfl, ?_⟩
    have rest : ∀ c : Int, 0 ≤ c → ∀ (R : VK), (∀ x y : Int, 0 ≤ x → 0 ≤ y → y < 4294967296 → ∀ l, H l = none → R (.ref l) (upd H l (.lst [.int x, .int y]))) →
        (tLst (tCons (tCB (fun xs H Q => ∃ i j, xs = [.int i, .int j] ∧ Q (.int (if j > i then j else i)) H) (tCons (tC (.int 0)) (tCons (tOp (rI0 fun i j => .int (i - j)) (tVar 2) (tOp (rI CPow fun i j => .int (i ^ j.toNat)) (tC (.int 10)) (tC (.int 18)))) tNil)))
          (tCons (tOp (rI (fun _ j => 0 < j) fun i j => .int (i % j))
            (tCB (fun xs H Q => (∃ i, xs = [.int i] ∧ Q (.int i) H) ∨ ∃ k, xs = [.bl k] ∧ Q (.int (if k then 1 else 0)) H) (tCons (tOp (rI0 fun i j => .int (i + j)) (tOp (rI0 fun i j => .int (i + j)) (tOp (rI CMul fun i j => .int (i * j)) (tOp (rI (fun _ j => 0 < j) fun i j => .int (i % j))
              (tCB (fun xs H Q => (∃ i, xs = [.int i] ∧ Q (.int i) H) ∨ ∃ k, xs = [.bl k] ∧ Q (.int (if k then 1 else 0)) H) (tCons (tVar 2) tNil)) (tC (.int 2147483579))) (tC (.int 39119))) (tOp (rI CMul fun i j => .int (i * j)) (tC (.int 50021)) (tVar 1))) (tC (.int 77))) tNil))
            (tC (.int 2147483647))) tNil))) [some (.ref a), some (.int k), some (.int c)] H R := by
      intro c hc R hR
      refine ⟨_, rfl, _, _, rfl, rfl, ⟨by decide, by decide, by decide⟩, _, _, rfl, rfl, _, _, rfl, ?_⟩
      refine ⟨_, rfl, .inl ⟨_, rfl, _, _, rfl, rfl, (by show (0 : Int) < 2147483579; decide), _, _, rfl, rfl, .inr ⟨by decide, by decide⟩, _, rfl, _, _, rfl, rfl, .inl ⟨by decide, by decide⟩, _, _, rfl, rfl, _, _, rfl, rfl, .inl ⟨_, rfl, ?_⟩⟩⟩
      refine ⟨_, _, rfl, rfl, (by show (0 : Int) < 2147483647; decide), (by show 2 ≤ sizeLine; decide), fun l hl => hR _ _ ?_ ?_ ?_ l hl⟩
      · split <;> omega
      · exact Int.emod_nonneg _ (by omega)
      · have := Int.emod_lt_of_pos (c % 2147483579 * 39119 + 50021 * (k : Int) + 77) (b := 2147483647) (by omega)
        omega
    have done : ∀ x y : Int, 0 ≤ x → 0 ≤ y → y < 4294967296 → ∀ l, H l = none → Q (.ref l) (upd H l (.lst [.int x, .int y])) := fun x y h1 h2 h3 l hl => q _ l (sNew (Same.refl H) hl) hl ⟨x, y, upd_same, h1, h2, h3⟩
    by_cases hlt : ((k : Nat) : Int) < ((ns.map V.int).length : Nat)
    · rw [decide_eq_true hlt]
      refine iteT ?_
      have hk2 : k < ns.length := by
        rw [List.length_map] at hlt
        omega
      refine ⟨_, rfl, _, rfl, a, _, _, V.int ns[k], rfl, rfl, ha, at_of (j := k) rfl (by rw [List.getElem?_map, List.getElem?_eq_getElem hk2]; rfl), _, rfl, ?_⟩
      exact rest _ (by split <;> omega) Q done
    · rw [decide_eq_false hlt]
      refine iteF ?_
      exact rest _ (by omega) Q done
/-! ### _law_draw -/
def spDraw : Sp := fun vs H Q _ => ∃ (l : Addr) (many : Int), vs = [.ref l, .int many] ∧ PotAt H l ∧ 1 ≤ many ∧ many < 1073741824 ∧ ∀ (H' : Hp) (d : Int), SameX l H H' → PotAt H' l → 0 ≤ d → d < many → Q (.int d) H'
abbrev nDraw : List Str := ["_law_pot_here", "_law_many", "_law_digit"]
theorem scDraw : FnScope nDraw ["_law_pot_here", "_law_many"] (defScope sDraw) := ⟨rfl, rfl, rfl, by decide +kernel, rfl, by decide +kernel, by decide +kernel⟩
theorem ok_draw {f : Addr} {fd : FuncData} (F : Fun K "_law_draw" "_law_draw" sDraw f fd) (T : Bn mg) : FnOk P w K mg base CX0 1 f fd ["_law_pot_here", "_law_many"] spDraw := by
  refine F.ok scDraw (fun vs H Q E h => ?_) (fun cdv A outer s H vs Q E hr h => ?_)
  · obtain ⟨l, many, rfl, _⟩ := h
    rfl
  · obtain ⟨l, many, rfl, ⟨x, y, hl, hx, hy, hy2⟩, m1, m2, q⟩ := h
    refine ⟨_, pss_cons (ps_if (pt_cmpR op_gt (pe_ix ix_list (pv 0) pe_int (fun _ _ => rfl)) pe_int (nomark _))
        (pss_cons (ps_asg (pe_callB call_divmodW (by rfl) T.divmod (by decide +kernel) (pa_cons (pe_ix ix_list (pv 0) pe_int (fun _ _ => rfl)) (pa_cons (pv 1) pa_nil)))
          (pg_tup rfl (pgs_cons (pg_sub (pv 0) pe_int set_list) (pgs_cons (pg_name (i := 2) scDraw.nd rfl (Or.inl rfl)) pgs_nil))))
        (pss_one (ps_ret (pv 2)))) pss_nil)
      (pss_cons (ps_asg (pe_op op_mod (pe_callTy call_int1 (by rfl) T.int (by decide +kernel) (pa_cons (pe_op op_add (pe_op op_mul (pe_ix ix_list (pv 0) pe_int (fun _ _ => rfl)) pe_int) pe_int) pa_nil)) pe_int) (pg_sub (pv 0) pe_int set_list))
      (pss_one (ps_ret (pe_op op_mod (pe_callTy call_int1 (by rfl) T.int (by decide +kernel) (pa_cons (pe_op op_fdiv (pe_op op_mod (pe_callTy call_int1 (by rfl) T.int (by decide +kernel) (pa_cons (pe_op op_mul (pe_ix ix_list (pv 0) pe_int (fun _ _ => rfl)) (pe_ix ix_list (pv 0) pe_int (fun _ _ => rfl))) pa_nil)) pe_int) pe_int) pa_nil)) (pv 1))))), ?_⟩
    refine ⟨_, rfl, l, _, _, V.int x, rfl, rfl, SqL.of hl, at_of (j := 0) rfl rfl, _, _, rfl, rfl, _, rfl, ?_⟩
    by_cases hp : x > 0
    · rw [decide_eq_true hp]
      refine iteT ?_
      refine ⟨_, rfl, l, _, _, V.int x, rfl, rfl, SqL.of hl, at_of (j := 0) rfl rfl, _, rfl, _, _, rfl, ⟨by omega, PyProof.noPylong_small (by omega)⟩, fun t ht => ?_⟩
      have s1 := sNew (o := .tup [V.int (x / many), V.int (x % many)]) (Same.refl H) ht
      refine ⟨t, _, rfl, .inl (.inl upd_same), rfl, _, _, rfl, _, rfl, l, _, _, 0, rfl, rfl, old hl ht, rfl, _, _, rfl, rfl, _, rfl, ?_⟩
      have e1 := Int.emod_nonneg x (b := many) (by omega)
      have e2 := Int.emod_lt_of_pos x (b := many) (by omega)
      have e3 : 0 ≤ x / many := Int.ediv_nonneg hx (by omega)
      exact q _ _ (SameX.put (SameX.of s1)) ⟨x / many, y, upd_same, e3, hy, hy2⟩ e1 e2
    · rw [decide_eq_false hp]
      refine iteF ?_
      refine ⟨_, rfl, l, _, _, V.int y, rfl, rfl, SqL.of hl, at_of (j := 1) rfl rfl, _, _, rfl, rfl, .inl ⟨by omega, by omega⟩, _, _, rfl, rfl, .inl ⟨_, rfl, ?_⟩⟩
      refine ⟨_, _, rfl, rfl, (by show (0 : Int) < 2147483549; decide), ?_⟩
      refine ⟨_, rfl, l, _, _, 1, rfl, rfl, hl, rfl, ?_⟩
      have e1 := Int.emod_nonneg (y * 48271 + 10007) (b := 2147483549) (by omega)
      have e2 := Int.emod_lt_of_pos (y * 48271 + 10007) (b := 2147483549) (by omega)
      have h2 : upd H l (.lst ([V.int x, V.int y].set 1 (V.int ((y * 48271 + 10007) % 2147483549)))) l = some (.lst [V.int x, V.int ((y * 48271 + 10007) % 2147483549)]) := upd_same
      have sx : SameX l H (upd H l (.lst ([V.int x, V.int y].set 1 (V.int ((y * 48271 + 10007) % 2147483549))))) := SameX.put (SameX.of (Same.refl H))
      generalize upd H l (.lst ([V.int x, V.int y].set 1 (V.int ((y * 48271 + 10007) % 2147483549)))) = H2 at h2 sx ⊢
      generalize (y * 48271 + 10007) % 2147483549 = z at e1 e2 h2 ⊢
      refine ⟨_, rfl, l, _, _, V.int z, rfl, rfl, SqL.of h2, at_of (j := 1) rfl rfl, _, rfl, l, _, _, V.int z, rfl, rfl, SqL.of h2, at_of (j := 1) rfl rfl, _, _, rfl, rfl, .inl ⟨by omega, by omega⟩, .inl ⟨_, rfl, ?_⟩⟩
      refine ⟨_, _, rfl, rfl, (by show (0 : Int) < 2147483497; decide), _, _, rfl, rfl, ⟨by decide, by decide⟩, .inl ⟨_, rfl, _, rfl, _, _, rfl, rfl, (by show (0 : Int) < many; omega), ?_⟩⟩
      exact q _ _ sx ⟨x, z, h2, hx, e1, by omega⟩ (Int.emod_nonneg _ (by omega)) (Int.emod_lt_of_pos _ (by omega))
/-! ### _law_pick -/
def spPick : Sp := fun vs H Q _ => ∃ (l s : Addr) (xs : List V), vs = [.ref l, .ref s] ∧ PotAt H l ∧ H s = some (.lst xs) ∧ s ≠ l ∧ 1 ≤ xs.length ∧ xs.length ≤ 1000 ∧ ∀ (H' : Hp) (v : V), SameX l H H' → PotAt H' l → v ∈ xs → Q v H'
theorem scPick : FnScope ["_law_pot_here", "_law_some"] ["_law_pot_here", "_law_some"] (defScope sPick) := ⟨rfl, rfl, rfl, by decide +kernel, rfl, by decide +kernel, by decide +kernel⟩
theorem ok_pick {f : Addr} {fd : FuncData} (F : Fun K "_law_pick" "_law_pick" sPick f fd) (T : Bn mg) (DD : Df P w K mg base "_law_draw" ["_law_pot_here", "_law_many"] 1 spDraw) : FnOk P w K mg base CX0 2 f fd ["_law_pot_here", "_law_some"] spPick := by
  refine F.ok scPick (fun vs H Q E h => ?_) (fun cdv A outer s H vs Q E hr h => ?_)
  · obtain ⟨l, s, xs, rfl, _⟩ := h
    rfl
  · obtain ⟨l, s, xs, rfl, hp, hs, ne, h1, h2, q⟩ := h
    refine ⟨_, pss_one (ps_ret (pe_ix ix_list (pv 1) (pe_df DD hr (by rfl) (pa_cons (pv 0) (pa_cons (pe_callB call_len_seq (by rfl) T.len PySem.boot_len (pa_cons (pv 1) pa_nil)) pa_nil))) (fun _ _ => rfl))), ?_⟩
    refine ⟨_, rfl, _, rfl, _, rfl, s, _, rfl, .inl (SqL.of hs), l, _, rfl, hp, by omega, by omega, fun H' d sx hp' d0 d1 => ?_⟩
    have hd : d.toNat < xs.length := by omega
    refine ⟨s, xs, d, xs[d.toNat], rfl, rfl, SqL.of (sx _ _ ne hs), at_of (j := d.toNat) (by omega) (List.getElem?_eq_getElem hd), ?_⟩
    exact q H' _ sx hp' (List.getElem_mem hd)
end
end S15

namespace S15
open PySem L2 RA
def PairAt (H : Hp) (t : Addr) (p : Int × Int) : Prop := H t = some (.tup [.int p.1, .int p.2])
theorem PairAt.same {H H' : Hp} {t : Addr} {p : Int × Int} (s : Same H H') (h : PairAt H t p) : PairAt H' t p := s _ _ h
section
variable {P : Program} {w : World} {K : PySem.W.Frag} {mg : Str → Option Value} {base : Heap}
/-! ### _law_least -/
def spLeast : Sp := fun vs H Q _ => ∃ h l : Int, vs = [.int h, .int l] ∧ l ≠ 0 ∧ h.natAbs < 2 ^ 1900 ∧ l.natAbs < 2 ^ 1900 ∧ ∀ (H' : Hp) (t : Addr), Same H H' → H t = none → PairAt H' t (nf h l) → Q (.ref t) H'
abbrev nLeast : List Str := ["_law_high", "_law_low", "_law_one", "_law_other", "_law_by"]
theorem scLeast : FnScope nLeast ["_law_high", "_law_low"] (defScope sLeast) := ⟨rfl, rfl, rfl, by decide +kernel, rfl, by decide +kernel, by decide +kernel⟩
theorem ok_least {f : Addr} {fd : FuncData} (F : Fun K "_law_least" "_law_least" sLeast f fd) (T : Bn mg) : FnOk P w K mg base CX0 1 f fd ["_law_high", "_law_low"] spLeast := by
  refine F.ok scLeast (fun vs H Q E h => ?_) (fun cdv A outer s H vs Q E hr h => ?_)
  · obtain ⟨a, b, rfl, _⟩ := h
    rfl
  · obtain ⟨a, b, rfl, hb, h1, h2, q⟩ := h
    refine ⟨_, pss_cons (ps_par (i := 2) (j := 3) (by rfl) scLeast.nd rfl rfl (by decide) rfl rfl (pa_cons (pe_callB call_abs (by rfl) T.abs (by decide +kernel) (pa_cons (pv 0) pa_nil)) (pa_cons (pe_callB call_abs (by rfl) T.abs (by decide +kernel) (pa_cons (pv 1) pa_nil)) pa_nil)) (by rfl))
      (pss_cons (ps_while PassesOwn.never (pt_cmpR op_gt (pv 3) pe_int (nomark _))
        (pss_one (ps_par (i := 2) (j := 3) (by rfl) scLeast.nd rfl rfl (by decide) rfl rfl (pa_cons (pv 3) (pa_cons (pe_op op_mod (pv 2) (pv 3)) pa_nil)) (by rfl))))
      (pss_cons (ps_set (i := 4) scLeast.nd rfl (Or.inl rfl) (pe_ifExp (pt_cmpR op_gt (pv 1) pe_int (nomark _)) (pv 2) (pe_un un_neg (pv 2))))
      (pss_one (ps_ret (pe_tup (pa_cons (pe_op op_fdivX (pv 0) (pv 4)) (pa_cons (pe_op op_fdivX (pv 1) (pv 4)) pa_nil))))))), ?_⟩
    refine ⟨_, rfl, a, rfl, _, rfl, b, rfl, _, _, rfl, ?_⟩
    rw [abs_nat, abs_nat]
    refine ⟨fun t σ H' => H = H' ∧ ∃ l h : Nat, t = l ∧ σ = [some (.int a), some (.int b), some (.int h), some (.int l), none] ∧ Nat.gcd l h = Nat.gcd b.natAbs a.natAbs, ⟨_, rfl, b.natAbs, a.natAbs, rfl, rfl, rfl⟩, ?_⟩
    rintro l σ _ ⟨rfl, _, h, rfl, rfl, e⟩
    refine ⟨_, rfl, _, _, rfl, rfl, _, rfl, ?_⟩
    by_cases hl : ((l : Nat) : Int) > 0
    · rw [decide_eq_true hl]
      refine iteT ?_
      have hl' : 0 < l := by omega
      refine ⟨fun σ' H' => H = H' ∧ ∃ l' h' : Nat, l' < l ∧ σ' = [some (.int a), some (.int b), some (.int h'), some (.int l'), none] ∧ Nat.gcd l' h' = Nat.gcd b.natAbs a.natAbs, fun σ' H' ⟨c0, l', h', c1, c2, c3⟩ => ⟨l', c1, c0, l', h', rfl, c2, c3⟩, ?_⟩
      refine ⟨_, rfl, _, rfl, _, rfl, _, _, rfl, rfl, hl, _, _, rfl, rfl, h % l, l, Nat.mod_lt _ hl', rfl, ?_⟩
      rw [gcd_turn]
      exact e
    · rw [decide_eq_false hl]
      refine iteF ?_
      have hl' : l = 0 := by omega
      subst hl'
      rw [Nat.gcd_zero_left, Nat.gcd_comm] at e
      subst e
      have hg := gB_ne (t := a) hb
      have hlog : (gB a b).natAbs.log2 < 9000 := by
        rw [gB_abs]
        have h3 : Int.gcd a b ≤ b.natAbs := Nat.le_of_dvd (by omega) (Int.gcd_dvd_natAbs_right ..)
        exact Nat.lt_of_lt_of_le (log_of (Nat.lt_of_le_of_lt h3 h2) (by decide)) (by decide)
      refine ⟨_, rfl, _, _, rfl, rfl, _, rfl, ?_⟩
      by_cases hp : b > 0
      · rw [decide_eq_true hp]
        refine iteT ?_
        have e : ((Nat.gcd a.natAbs b.natAbs : Nat) : Int) = gB a b := by
          unfold gB
          rw [if_neg (by omega), gcd_abs]
        have hc : ∀ z, CDivX z ((Nat.gcd a.natAbs b.natAbs : Nat) : Int) := fun z => by rw [e]; exact ⟨hg, hlog⟩
        refine ⟨_, rfl, ?_⟩
        refine ⟨_, rfl, _, rfl, _, _, rfl, rfl, hc _, _, rfl, _, rfl, _, _, rfl, rfl, hc _, (by show 2 ≤ sizeLine; decide), fun t ht => ?_⟩
        refine q _ t (sNew (Same.refl H) ht) ht ?_
        unfold PairAt
        rw [upd_same, e]
        rfl
      · rw [decide_eq_false hp]
        refine iteF ?_
        have e : -((Nat.gcd a.natAbs b.natAbs : Nat) : Int) = gB a b := by
          unfold gB
          rw [if_pos (by omega), gcd_abs]
        have hc : ∀ z, CDivX z (-((Nat.gcd a.natAbs b.natAbs : Nat) : Int)) := fun z => by rw [e]; exact ⟨hg, hlog⟩
        refine ⟨_, rfl, _, rfl, ?_⟩
        refine ⟨_, rfl, _, rfl, _, _, rfl, rfl, hc _, _, rfl, _, rfl, _, _, rfl, rfl, hc _, (by show 2 ≤ sizeLine; decide), fun t ht => ?_⟩
        refine q _ t (sNew (Same.refl H) ht) ht ?_
        unfold PairAt
        rw [upd_same, e]
        rfl
/-! ### _law_whole_number -/
def spWhole : Sp := fun vs H Q _ => ∃ l : Addr, vs = [.ref l] ∧ PotAt H l ∧ ∀ (H' : Hp) (n : Int), SameX l H H' → PotAt H' l → n.natAbs < 2 ^ 41 → Q (.int n) H'
abbrev nWhole : List Str := ["_law_pot_here", "_law_far"]
theorem scWhole : FnScope nWhole ["_law_pot_here"] (defScope sWhole) := ⟨rfl, rfl, rfl, by decide +kernel, rfl, by decide +kernel, by decide +kernel⟩
theorem ok_whole {f : Addr} {fd : FuncData} (F : Fun K "_law_whole_number" "_law_whole_number" sWhole f fd) (DD : Df P w K mg base "_law_draw" ["_law_pot_here", "_law_many"] 1 spDraw) (DP : Df P w K mg base "_law_pick" ["_law_pot_here", "_law_some"] 2 spPick) : FnOk P w K mg base CX0 3 f fd ["_law_pot_here"] spWhole := by
  refine F.ok scWhole (fun vs H Q E h => ?_) (fun cdv A outer s H vs Q E hr h => ?_)
  · obtain ⟨l, rfl, _⟩ := h
    rfl
  · obtain ⟨l, rfl, hp, q⟩ := h
    refine ⟨_, pss_cons (ps_set (i := 1) scWhole.nd rfl (Or.inl rfl) (pe_op op_add (pe_op op_mul (pe_df DD (hr.mono (by decide)) (by rfl) (pa_cons (pv 0) (pa_cons (pe_op op_pow pe_int pe_int) pa_nil))) (pe_op op_pow pe_int pe_int)) (pe_df DD (hr.mono (by decide)) (by rfl) (pa_cons (pv 0) (pa_cons (pe_op op_pow pe_int pe_int) pa_nil)))))
      (pss_one (ps_ret (pe_df DP hr (by rfl) (pa_cons (pv 0) (pa_cons (pe_lst (pa_cons pe_int (pa_cons pe_int (pa_cons (pe_un un_neg pe_int) (pa_cons pe_int (pa_cons (pe_un un_neg pe_int) (pa_cons pe_int (pa_cons (pe_un un_neg pe_int) (pa_cons (pv 1) (pa_cons (pe_un un_neg (pv 1)) pa_nil)))))))))) pa_nil))))), ?_⟩
    refine ⟨_, rfl, _, _, rfl, rfl, ⟨by decide, by decide, by decide⟩, l, _, rfl, hp, by decide, by decide, fun H1 d sx1 hp1 d0 d1 => ?_⟩
    refine ⟨_, _, rfl, rfl, ⟨by decide, by decide, by decide⟩, _, _, rfl, rfl, .inr ⟨by decide, by decide⟩, ?_⟩
    refine ⟨_, rfl, _, _, rfl, rfl, ⟨by decide, by decide, by decide⟩, l, _, rfl, hp1, by decide, by decide, fun H2 d' sx2 hp2 d0' d1' => ?_⟩
    refine ⟨_, _, rfl, rfl, ?_⟩
    have e6 : (10 : Int) ^ (6 : Int).toNat = 1000000 := by decide
    rw [e6] at d1 d1'
    have hfar : (d * (10 : Int) ^ (6 : Int).toNat + d').natAbs < 2 ^ 41 := by
      rw [e6]
      have : (2 : Nat) ^ 41 = 2199023255552 := by decide
      omega
    refine ⟨_, rfl, _, rfl, _, rfl, _, rfl, _, rfl, _, rfl, _, rfl, (by show 9 ≤ sizeLine; decide), fun s0 hs0 => ?_⟩
    have nsl : s0 ≠ l := fun e => by
      obtain ⟨x, y, h, _⟩ := hp2
      rw [e, h] at hs0
      cases hs0
    refine ⟨l, s0, _, rfl, hp2.same (sNew (Same.refl H2) hs0), upd_same, nsl, (by show 1 ≤ 9; decide), (by show 9 ≤ 1000; decide), fun H3 v sx3 hp3 hv => ?_⟩
    have sx : SameX l H H3 := SameX.trans (SameX.trans sx1 sx2) (SameX.trans (SameX.of (sNew (Same.refl H2) hs0)) sx3)
    have key : ∃ n : Int, v = .int n ∧ n.natAbs < 2 ^ 41 := by
      simp only [List.mem_cons, List.not_mem_nil, or_false] at hv
      have : (2 : Nat) ^ 41 = 2199023255552 := by decide
      rcases hv with rfl | rfl | rfl | rfl | rfl | rfl | rfl | rfl | rfl
      all_goals first
        | exact ⟨_, rfl, hfar⟩
        | exact ⟨_, rfl, by rw [Int.natAbs_neg]; exact hfar⟩
        | exact ⟨_, rfl, by decide⟩
    obtain ⟨n, rfl, hn⟩ := key
    exact q H3 n sx hp3 hn
/-! ### _law_fresh -/
def spFresh : Sp := fun vs H Q _ => ∃ l : Addr, vs = [.ref l] ∧ PotAt H l ∧ ∀ (H' : Hp) (t : Addr) (p : Int × Int), SameX l H H' → PotAt H' l → H t = none → PairAt H' t p → Nrm p → Bt 41 p → Q (.ref t) H'
abbrev nFresh : List Str := ["_law_pot_here", "_law_low"]
theorem scFresh : FnScope nFresh ["_law_pot_here"] (defScope sFresh) := ⟨rfl, rfl, rfl, by decide +kernel, rfl, by decide +kernel, by decide +kernel⟩
theorem ok_fresh {f : Addr} {fd : FuncData} (F : Fun K "_law_fresh" "_law_fresh" sFresh f fd) (DW : Df P w K mg base "_law_whole_number" ["_law_pot_here"] 3 spWhole) (DL : Df P w K mg base "_law_least" ["_law_high", "_law_low"] 1 spLeast) : FnOk P w K mg base CX0 4 f fd ["_law_pot_here"] spFresh := by
  refine F.ok scFresh (fun vs H Q E h => ?_) (fun cdv A outer s H vs Q E hr h => ?_)
  · obtain ⟨l, rfl, _⟩ := h
    rfl
  · obtain ⟨l, rfl, hp, q⟩ := h
    refine ⟨_, pss_cons (ps_set (i := 1) scFresh.nd rfl (Or.inl rfl) (pe_df DW hr (by rfl) (pa_cons (pv 0) pa_nil)))
      (pss_one (ps_ret (pe_df DL (hr.mono (by decide)) (by rfl) (pa_cons (pe_df DW hr (by rfl) (pa_cons (pv 0) pa_nil)) (pa_cons (pe_ifExp (pt_cmpR op_ne (pv 1) pe_int (nomark _)) (pv 1) pe_int) pa_nil))))), ?_⟩
    refine ⟨_, rfl, l, rfl, hp, fun H1 low sx1 hp1 hlow => ?_⟩
    refine ⟨_, rfl, l, rfl, hp1, fun H2 high sx2 hp2 hhigh => ?_⟩
    have fin : ∀ b : Int, b ≠ 0 → b.natAbs < 2 ^ 41 → ∀ (H' : Hp) (t : Addr), Same H2 H' → H2 t = none → PairAt H' t (nf high b) → Q (.ref t) H' := fun b hb hbb H' t s3 ht hpt => by
      have ntl : t ≠ l := fun e => by
        obtain ⟨x, y, h, _⟩ := hp2
        rw [e, h] at ht
        cases ht
      exact q H' t _ (SameX.same (SameX.trans sx1 sx2) s3) (hp2.same s3) ((SameX.trans sx1 sx2).free ntl ht) hpt (nf_nrm hb) (nf_bt hb hhigh hbb)
    refine ⟨_, rfl, rfl, _, rfl, ?_⟩
    by_cases h0 : low = 0
    · subst h0
      refine iteF ?_
      exact ⟨high, 7, rfl, by decide, lt_mono hhigh (by decide), lt_mono (show (7 : Int).natAbs < 2 ^ 41 by decide) (by decide), fin 7 (by decide) (by decide)⟩
    · rw [decide_eq_false (fun z => h0 (V.int.inj z))]
      refine iteT ?_
      exact ⟨_, rfl, high, low, rfl, h0, lt_mono hhigh (by decide), lt_mono hlow (by decide), fin low h0 hlow⟩
end
end S15

namespace S15
open PySem L2 RA
theorem mk_same {C x dx : Addr} {H1 H' : Hp} (sx : SameX x (upd (upd H1 dx (.own x)) x (.ins C dx [])) H') (hx : H1 x = none) (hdx : H1 dx = none) : Same H1 H' := fun c o e => by
  have ncx : c ≠ x := ne_of_none e hx
  have ncd : c ≠ dx := ne_of_none e hdx
  exact sx c o ncx (by rw [upd_ne ncx, upd_ne ncd]; exact e)
/-- the pairs and the ratios so far -/
structure Chain (C : Addr) (H : Hp) (lm lp : Addr) (rs ts : List Addr) (ps : List (Int × Int)) : Prop where
  made : H lm = some (.lst (rs.map V.ref))
  pairs : H lp = some (.lst (ts.map V.ref))
  len1 : rs.length = ps.length
  len2 : ts.length = ps.length
  all : ∀ (i : Nat) (p : Int × Int), ps[i]? = some p → ∃ r t, rs[i]? = some r ∧ ts[i]? = some t ∧ RatAt C H r p ∧ PairAt H t p
  ok : ∀ p ∈ ps, Nrm p ∧ Bt 90 p
  ne : ps ≠ []
  few : ps.length ≤ 20
theorem Chain.same {C : Addr} {H H' : Hp} {lm lp : Addr} {rs ts : List Addr} {ps : List (Int × Int)} (c : Chain C H lm lp rs ts ps) (s : Same H H') : Chain C H' lm lp rs ts ps :=
  ⟨s _ _ c.made, s _ _ c.pairs, c.len1, c.len2, fun i p h => let ⟨r, t, h1, h2, h3, h4⟩ := c.all i p h; ⟨r, t, h1, h2, h3.same s, h4.same s⟩, c.ok, c.ne, c.few⟩
theorem ref_ne_pot {H : Hp} {l a : Addr} {rs : List Addr} (h : PotAt H l) (e : H a = some (.lst (rs.map V.ref))) : a ≠ l := fun z => by
  obtain ⟨x, y, e1, _⟩ := h
  rw [z, e1] at e
  have e2 := HO.lst.inj (Option.some.inj e)
  cases rs with
  | nil => cases e2
  | cons r rs => cases e2
theorem PairAt.not {H : Hp} {l t : Addr} {p : Int × Int} (h : PotAt H l) (r : PairAt H t p) : t ≠ l := fun e => by
  obtain ⟨x, y, e1, _⟩ := h
  unfold PairAt at r
  rw [e, e1] at r
  cases r
theorem RatAt.sameX {C : Addr} {H H' : Hp} {l a : Addr} {p : Int × Int} (h : PotAt H l) (s : SameX l H H') (r : RatAt C H a p) : RatAt C H' a p := by
  have n := h.not r
  obtain ⟨dx, e⟩ := r
  exact ⟨dx, s _ _ n e⟩
theorem PairAt.sameX {H H' : Hp} {l t : Addr} {p : Int × Int} (h : PotAt H l) (s : SameX l H H') (r : PairAt H t p) : PairAt H' t p := s _ _ (PairAt.not h r) r
theorem NumAt.sameX {C : Addr} {H H' : Hp} {l : Addr} {y : V} {p : Int × Int} (h : PotAt H l) (s : SameX l H H') (r : NumAt C H y p) : NumAt C H' y p := r.imp (fun ⟨a, e, r⟩ => ⟨a, e, r.sameX h s⟩) id
theorem Chain.sameX {C : Addr} {H H' : Hp} {l lm lp : Addr} {rs ts : List Addr} {ps : List (Int × Int)} (c : Chain C H lm lp rs ts ps) (h : PotAt H l) (s : SameX l H H') : Chain C H' lm lp rs ts ps :=
  ⟨s _ _ (ref_ne_pot h c.made) c.made, s _ _ (ref_ne_pot h c.pairs) c.pairs, c.len1, c.len2, fun i p e => let ⟨r, t, h1, h2, h3, h4⟩ := c.all i p e; ⟨r, t, h1, h2, h3.sameX h s, h4.sameX h s⟩, c.ok, c.ne, c.few⟩
section
variable {P : Program} {w : World} {K : PySem.W.Frag} {mg : Str → Option Value} {base : Heap}
/-! ### _law_right_one -/
def spRightOne (C : Addr) : Sp := fun vs H Q _ => ∃ (l lp lm : Addr) (rs ts : List Addr) (ps : List (Int × Int)), vs = [.ref l, .ref lp, .ref lm] ∧ PotAt H l ∧ Chain C H lm lp rs ts ps ∧
  ∀ (H' : Hp) (u : Addr) (y : V) (t : Addr) (q : Int × Int), SameX l H H' → PotAt H' l → H' u = some (.tup [y, .ref t]) → NumAt C H' y q → PairAt H' t q → Nrm q → Bt 90 q → Q (.ref u) H'
abbrev nRightOne : List Str := ["_law_pot_here", "_law_pairs", "_law_made", "_law_way", "_law_number", "_law_at", "_law_pair"]
theorem scRightOne : FnScope nRightOne ["_law_pot_here", "_law_pairs", "_law_made"] (defScope sRightOne) := ⟨rfl, rfl, rfl, by decide +kernel, rfl, by decide +kernel, by decide +kernel⟩
theorem ok_rightOne {f C : Addr} {fd : FuncData} (F : Fun K "_law_right_one" "_law_right_one" sRightOne f fd) (T : Bn mg) (M : RMk P w K mg base C) (DD : Df P w K mg base "_law_draw" ["_law_pot_here", "_law_many"] 1 spDraw)
    (DW : Df P w K mg base "_law_whole_number" ["_law_pot_here"] 3 spWhole) (DF : Df P w K mg base "_law_fresh" ["_law_pot_here"] 4 spFresh) : FnOk P w K mg base CX0 5 f fd ["_law_pot_here", "_law_pairs", "_law_made"] (spRightOne C) := by
  refine F.ok scRightOne (fun vs H Q E h => ?_) (fun cdv A outer s H vs Q E hr h => ?_)
  · obtain ⟨l, lp, lm, rs, ts, ps, rfl, _⟩ := h
    rfl
  · obtain ⟨l, lp, lm, rs, ts, ps, rfl, hp, hc, q⟩ := h
    refine ⟨_, pss_cons (ps_set (i := 3) scRightOne.nd rfl (Or.inl rfl) (pe_df DD (hr.mono (by decide)) (by rfl) (pa_cons (pv 0) (pa_cons pe_int pa_nil))))
      (pss_cons (ps_if (pt_cmpR op_eq (pv 3) pe_int (nomark _)) (pss_cons (ps_set (i := 4) scRightOne.nd rfl (Or.inl rfl) (pe_df DW (hr.mono (by decide)) (by rfl) (pa_cons (pv 0) pa_nil))) (pss_one (ps_ret (pe_tup (pa_cons (pv 4) (pa_cons (pe_tup (pa_cons (pv 4) (pa_cons pe_int pa_nil))) pa_nil)))))) pss_nil)
      (pss_cons (ps_if (pt_cmpR op_eq (pv 3) pe_int (nomark _)) (pss_cons (ps_set (i := 5) scRightOne.nd rfl (Or.inl rfl) (pe_df DD (hr.mono (by decide)) (by rfl) (pa_cons (pv 0) (pa_cons (pe_callB call_len_seq (by rfl) T.len PySem.boot_len (pa_cons (pv 1) pa_nil)) pa_nil))))
        (pss_one (ps_ret (pe_tup (pa_cons (pe_ix ix_list (pv 2) (pv 5) (fun _ _ => rfl)) (pa_cons (pe_ix ix_list (pv 1) (pv 5) (fun _ _ => rfl)) pa_nil)))))) pss_nil)
      (pss_cons (ps_set (i := 6) scRightOne.nd rfl (Or.inl rfl) (pe_df DF hr (by rfl) (pa_cons (pv 0) pa_nil)))
      (pss_one (ps_ret (pe_tup (pa_cons (pe_rat2 M (hr.mono (by decide)) (by rfl) (pa_cons (pe_ix ix_tup (pv 6) pe_int (fun _ _ => rfl)) (pa_cons (pe_ix ix_tup (pv 6) pe_int (fun _ _ => rfl)) pa_nil))) (pa_cons (pv 6) pa_nil)))))))), ?_⟩
    refine ⟨_, rfl, l, 4, rfl, hp, by decide, by decide, fun H1 way sx1 hp1 d0 d1 => ?_⟩
    refine ⟨_, rfl, rfl, _, rfl, ?_⟩
    by_cases h0 : way = 0
    · rw [decide_eq_true (congrArg V.int h0)]
      refine iteT ?_
      refine ⟨_, rfl, l, rfl, hp1, fun H2 n sx2 hp2 hn => ?_⟩
      refine ⟨_, rfl, _, rfl, (by show 2 ≤ sizeLine; decide), fun t ht => ?_⟩
      refine ⟨(by show 2 ≤ sizeLine; decide), fun u hu => ?_⟩
      have s1 := sNew (o := .tup [V.int n, V.int 1]) (Same.refl H2) ht
      have s2 := sNew (o := .tup [V.int n, V.ref t]) s1 hu
      refine q _ u (.int n) t (n, 1) (SameX.same (SameX.trans sx1 sx2) s2) (hp2.same s2) upd_same (.inr ⟨n, rfl, rfl⟩) ?_ (nrm_int n) ⟨lt_mono hn (by decide), by show (1 : Int).natAbs < 2 ^ 90; decide⟩
      exact old upd_same hu
    · rw [decide_eq_false (fun z => h0 (V.int.inj z))]
      refine iteF ?_
      have c1 := hc.sameX hp sx1
      refine ⟨_, rfl, rfl, _, rfl, ?_⟩
      by_cases h1 : way = 1
      · rw [decide_eq_true (congrArg V.int h1)]
        refine iteT ?_
        have hlen : ((ts.map V.ref).length : Nat) = ps.length := by rw [List.length_map]; exact hc.len2
        have hpos : 0 < ps.length := List.length_pos_iff.mpr hc.ne
        have hfew := hc.few
        refine ⟨_, rfl, _, rfl, lp, _, rfl, .inl (SqL.of c1.pairs), l, _, rfl, hp1, by rw [hlen]; omega, by rw [hlen]; omega, fun H2 d sx2 hp2 e0 e1 => ?_⟩
        rw [hlen] at e1
        have c2 := c1.sameX hp1 sx2
        have hd : d.toNat < ps.length := by omega
        obtain ⟨r, t, g1, g2, g3, g4⟩ := c2.all d.toNat ps[d.toNat] (List.getElem?_eq_getElem hd)
        refine ⟨_, rfl, _, rfl, lm, _, _, V.ref r, rfl, rfl, SqL.of c2.made, at_of (j := d.toNat) (by omega) (by rw [List.getElem?_map, g1]; rfl), ?_⟩
        refine ⟨_, rfl, _, rfl, lp, _, _, V.ref t, rfl, rfl, SqL.of c2.pairs, at_of (j := d.toNat) (by omega) (by rw [List.getElem?_map, g2]; rfl), ?_⟩
        refine ⟨(by show 2 ≤ sizeLine; decide), fun u hu => ?_⟩
        have s2 := sNew (o := .tup [V.ref r, V.ref t]) (Same.refl H2) hu
        have ok := c2.ok _ (List.getElem_mem hd)
        exact q _ u (.ref r) t _ (SameX.same (SameX.trans sx1 sx2) s2) (hp2.same s2) upd_same (.inl ⟨r, rfl, g3.same s2⟩) (g4.same s2) ok.1 ok.2
      · rw [decide_eq_false (fun z => h1 (V.int.inj z))]
        refine iteF ?_
        refine ⟨_, rfl, l, rfl, hp1, fun H2 t p sx2 hp2 ht hpt hn hb => ?_⟩
        refine ⟨_, rfl, t, _, _, V.int p.1, rfl, rfl, .inl (.inl hpt), at_of (j := 0) rfl rfl, _, rfl, t, _, _, V.int p.2, rfl, rfl, .inl (.inl hpt), at_of (j := 1) rfl rfl, ?_⟩
        refine fun r dx hx hdx ne => ⟨r, dx, p.1, p.2, rfl, upd_same, hn.ne, lt_mono hb.1 (by decide), lt_mono hb.2 (by decide), fun H3 sx3 hx3 => ⟨rfl, ?_⟩⟩
        have s3 := mk_same sx3 hx hdx
        have hr3 : RatAt C H3 r p := by
          rw [nf_of hn] at hx3
          exact ⟨dx, hx3⟩
        refine ⟨_, rfl, (by show 2 ≤ sizeLine; decide), fun u hu => ?_⟩
        have s4 := sNew (o := .tup [V.ref r, V.ref t]) s3 hu
        exact q _ u (.ref r) t p (SameX.same (SameX.trans sx1 sx2) s4) (hp2.same s4) upd_same (.inl ⟨r, rfl, hr3.same (sNew (Same.refl H3) hu)⟩) (hpt.same s4) hn (hb.mono (by decide))
end
end S15

namespace S15
open PySem L2 RA
/-- what is known of over -/
structure Ov (P : Program) (w : World) (K : PySem.W.Frag) (mg : Str → Option Value) (base : Heap) (C D : Addr) : Prop where
  ex : ∃ f fd, Meth K C "over" f ∧ Binds K fd ["self", "other"] [] ∧ FnOk P w K mg base CX0 5 f fd ["self", "other"] (spOver C) ∧ FnG P w K mg base (L2.CX P w) 5 f fd ["self", "other"] (spOverX C D)
section
variable {P : Program} {w : World} {K : PySem.W.Frag} {mg : Str → Option Value} {base : Heap}
/-! ### _law_divided -/
def spDivided (C : Addr) : Sp := fun vs H Q _ => ∃ (a : Addr) (y : V) (p q : Int × Int), vs = [.ref a, y] ∧ RatAt C H a p ∧ NumAt C H y q ∧ Bt 900 p ∧ Bt 900 q ∧ Nrm p ∧
  ((q.1 ≠ 0 ∧ ∀ (H' : Hp) (r : Addr), Same H H' → H r = none → RatAt C H' r (divP p q) → Q (.ref r) H') ∨ (q.1 = 0 ∧ ∀ H' : Hp, Same H H' → Q .non H'))
abbrev nDivided : List Str := ["_law_one", "_law_right_here", "_law_told"]
theorem scDivided : FnScope nDivided ["_law_one", "_law_right_here"] (defScope sDivided) := ⟨rfl, rfl, rfl, by decide +kernel, rfl, by decide +kernel, by decide +kernel⟩
theorem ok_divided {f C D : Addr} {fd : FuncData} (F : Fun K "_law_divided" "_law_divided" sDivided f fd) (N : Rc K mg C) (Z : Dz P w K mg base D) (O : Ov P w K mg base C D) : FnG P w K mg base CX0 6 f fd ["_law_one", "_law_right_here"] (spDivided C) := by
  refine F.okG scDivided (fun vs H Q E h => ?_) (fun cdv A outer s H vs Q E gd hr h => ?_)
  · obtain ⟨a, y, p, q, rfl, _⟩ := h
    rfl
  · obtain ⟨a, y, p, q, rfl, ha, hy, bp, bq, np, h⟩ := h
    obtain ⟨fo, fdo, hm, hb, G, GX⟩ := O.ex
    obtain ⟨dx, h1⟩ := id ha
    rcases h with ⟨hq, k⟩ | ⟨hq, k⟩
    · refine ⟨_, pss_cons (ps_set (i := 2) scDivided.nd rfl (Or.inl rfl) (pe_lst pa_nil))
        (pss_cons (ps_try_thru0 (pss_one (ps_expr (pe_bm PySem.F.plainAttrs_list PySem.F.slot_list_append PySem.F.type_list_append mt_append (pv 2) (pa_cons (pe_meth (E := E0) (pv 0) N.cl hm G hr hb .nil pass0 (pa_cons (pv 1) pa_nil)) pa_nil)))))
        (pss_one (ps_ret (pe_ix ix_list (pv 2) pe_int (fun _ _ => rfl))))), ?_⟩
      refine ⟨(by show 0 ≤ sizeLine; decide), fun l hl => ?_⟩
      have s1 := sNew (o := .lst []) (Same.refl H) hl
      refine ⟨_, rfl, .inl ⟨rfl, _, SqL.of upd_same⟩, _, rfl, a, dx, _, rfl, s1 _ _ h1, rfl, _, rfl, a, y, p, q, rfl, ha.same s1, hy.same s1, bp, bq, np, hq, fun H2 r s2 hn hr2 => ?_⟩
      have hl2 := s2 _ _ (upd_same (H := H) (a := l) (o := .lst []))
      refine ⟨l, _, _, rfl, rfl, hl2, (by show 0 < sizeLine; decide), ?_⟩
      refine ⟨_, rfl, l, _, _, V.ref r, rfl, rfl, SqL.of upd_same, at_of (j := 0) rfl rfl, ?_⟩
      have nrl : r ≠ l := fun e => by rw [e, upd_same] at hn; cases hn
      refine k _ r (sPut (Same.trans s1 s2) hl) (s1.free hn) ?_
      obtain ⟨d2, h2⟩ := hr2
      exact ⟨d2, by rw [upd_ne nrl]; exact h2⟩
    · refine' ⟨_, pss_cons (ps_set (i := 2) scDivided.nd rfl (Or.inl rfl) (pe_lst pa_nil)) (pss_cons ?ptry (pss_one (ps_ret (pe_ix ix_list (pv 2) pe_int (fun _ _ => rfl))))), ?_⟩
      case ptry =>
        refine' ps_try_only (tb := fun W => tDrop (tBM K "list" rAppend (tVar 2) (tCons (tMethW C "over" (spOverX C D) (WE W) (tVar 0) (tCons (tVar 1) tNil)) tNil))) (ts := fun _ _ _ => tDrop (tBM K "list" rAppend (tVar 2) (tCons (tC .non) tNil))) (c := .ref D) (Wout := fun _ _ _ _ => False) rfl rfl ⟨by rfl, by decide, .inl Z.mgD⟩ (fun u s' ⟨_, _, _, _, _, _, _, _, _, _, _, _, _, _, _, _, z⟩ => z.elim) ?hb ?hsu
        case hb =>
          intro W pn xe tk po
          exact pss_one (ps_expr (pe_bm PySem.F.plainAttrs_list PySem.F.slot_list_append PySem.F.type_list_append mt_append (pv 2) (pa_cons (pe_methW (pv 0) N.cl hm GX gd hr hb (fun σ => passAt tk σ) (pa_cons (pv 1) pa_nil)) pa_nil)))
        case hsu =>
          intro e oe cls d pn hz hf
          exact pss_one (ps_expr (pe_bm PySem.F.plainAttrs_list PySem.F.slot_list_append PySem.F.type_list_append mt_append (pv 2) (pa_cons pe_non pa_nil)))
      refine ⟨(by show 0 ≤ sizeLine; decide), fun l hl => ?_⟩
      have s1 := sNew (o := .lst []) (Same.refl H) hl
      refine ⟨_, rfl, .inl ⟨rfl, _, SqL.of upd_same⟩, _, rfl, a, dx, _, rfl, s1 _ _ h1, rfl, _, rfl, a, y, p, q, rfl, ha.same s1, hy.same s1, bq, hq, fun H2 s2 => ?_⟩
      refine ⟨true, Z.me, fun _ e he => ?_, fun z => by cases z⟩
      have hl2 := s2 _ _ (upd_same (H := H) (a := l) (o := .lst []))
      refine ⟨_, rfl, .inl ⟨rfl, _, SqL.of hl2⟩, l, _, _, rfl, rfl, hl2, (by show 0 < sizeLine; decide), ?_⟩
      refine ⟨_, rfl, l, _, _, V.non, rfl, rfl, SqL.of upd_same, at_of (j := 0) rfl rfl, ?_⟩
      exact k _ (sPut (Same.trans s1 s2) hl)
end
end S15

namespace S15
open PySem L2 RA
structure DfG (P : Program) (w : World) (K : PySem.W.Frag) (mg : Str → Option Value) (base : Heap) (x : Str) (ps : List Str) (k : Nat) (sp : Sp) : Prop where
  ex : ∃ f fd, mg x = some (.ref f) ∧ PySem.W.keepIn K (.ref f) = true ∧ Binds K fd ps [] ∧ FnG P w K mg base CX0 k f fd ps sp
theorem pe_dfG {X : Cx} {x : Str} {ps : List Str} {k : Nat} {sp : Sp} {e : Expr} {es : List Expr} {t : TA} {p pos : Pos} (D : DfG X.prog X.w X.K X.mg X.base x ps k sp) (gd : X.A.guards = some []) (hr : Room k X.A) (hg : Gl X x) (ha : PA X (e :: es) t)
    (hdb : (x == ("__debug__" : Str)) = false := by decide) (hst : starEach (e :: es) X.env = (false, eval e X.env) :: starEach es X.env := by rfl) (hpl : (backTo pos (starEach es X.env)).any (·.1) = false := by rfl) :
    PE X (.Call (.Name x p) (e :: es) [] pos) (tCall sp [] E0 t) := by
  obtain ⟨f, fd, hm, kp, b, F⟩ := D.ex
  exact pe_callG F gd hr hg hm kp b .nil pass0 ha (hdb := hdb) (he := hst) (hpl := hpl)
section
variable {P : Program} {w : World} {K : PySem.W.Frag} {mg : Str → Option Value} {base : Heap}
/-! ### _law_done -/
def Fnd (C : Addr) (H : Hp) (u : Addr) : Prop := (∃ r t d, H u = some (.tup [.ref r, .ref t]) ∧ RatAt C H r d ∧ PairAt H t d ∧ Nrm d ∧ Bt 400 d) ∨ H u = some (.tup [.non, .non])
def spDone (C : Addr) : Sp := fun vs H Q _ => ∃ (l a t t2 : Addr) (y : V) (p q : Int × Int), vs = [.ref l, .ref a, .ref t, y, .ref t2] ∧ PotAt H l ∧ RatAt C H a p ∧ PairAt H t p ∧ NumAt C H y q ∧ PairAt H t2 q ∧ Nrm p ∧ Nrm q ∧ Bt 90 p ∧ Bt 90 q ∧
  ∀ (H' : Hp) (u : Addr), SameX l H H' → PotAt H' l → Fnd C H' u → Q (.ref u) H'
abbrev nDone : List Str := ["_law_pot_here", "_law_one", "_law_pair", "_law_right_here", "_law_other", "_law_high", "_law_low", "_law_way"]
theorem scDone : FnScope nDone ["_law_pot_here", "_law_one", "_law_pair", "_law_right_here", "_law_other"] (defScope sDone) := ⟨rfl, rfl, rfl, by decide +kernel, rfl, by decide +kernel, by decide +kernel⟩
theorem ok_done {f C : Addr} {fd : FuncData} (F : Fun K "_law_done" "_law_done" sDone f fd) (N : ROp P w K mg base C) (DD : Df P w K mg base "_law_draw" ["_law_pot_here", "_law_many"] 1 spDraw) (DL : Df P w K mg base "_law_least" ["_law_high", "_law_low"] 1 spLeast) (DV : DfG P w K mg base "_law_divided" ["_law_one", "_law_right_here"] 6 (spDivided C)) :
    FnG P w K mg base CX0 7 f fd ["_law_pot_here", "_law_one", "_law_pair", "_law_right_here", "_law_other"] (spDone C) := by
  refine F.okG scDone (fun vs H Q E h => ?_) (fun cdv A outer s H vs Q E gd hr h => ?_)
  · obtain ⟨l, a, t, t2, y, p, q, rfl, _⟩ := h
    rfl
  · obtain ⟨l, a, t, t2, y, p, q, rfl, hp, ha, ht, hy, ht2, np, nq, bp, bq, k⟩ := h
    refine ⟨_, pss_cons (ps_asg (pv 2) (pg_tup rfl (pgs_cons (pg_name (i := 5) scDone.nd rfl (Or.inl rfl)) (pgs_cons (pg_name (i := 6) scDone.nd rfl (Or.inl rfl)) pgs_nil))))
      (pss_cons (ps_set (i := 7) scDone.nd rfl (Or.inl rfl) (pe_df DD (hr.mono (by decide)) (by rfl) (pa_cons (pv 0) (pa_cons pe_int pa_nil))))
      (pss_cons (ps_if (pt_cmpR op_eq (pv 7) pe_int (nomark _)) (pss_one (ps_ret (pe_tup (pa_cons (pe_op (op_radd N (hr.mono (by decide))) (pv 1) (pv 3)) (pa_cons (pe_df DL (hr.mono (by decide)) (by rfl) (pa_cons (pe_op op_add (pe_op op_mulW (pv 5) (pe_ix ix_tup (pv 4) pe_int (fun _ _ => rfl))) (pe_op op_mulW (pe_ix ix_tup (pv 4) pe_int (fun _ _ => rfl)) (pv 6))) (pa_cons (pe_op op_mulW (pv 6) (pe_ix ix_tup (pv 4) pe_int (fun _ _ => rfl))) pa_nil))) pa_nil))))) pss_nil)
      (pss_cons (ps_if (pt_cmpR op_eq (pv 7) pe_int (nomark _)) (pss_one (ps_ret (pe_tup (pa_cons (pe_op (op_rsub N (hr.mono (by decide))) (pv 1) (pv 3)) (pa_cons (pe_df DL (hr.mono (by decide)) (by rfl) (pa_cons (pe_op op_sub (pe_op op_mulW (pv 5) (pe_ix ix_tup (pv 4) pe_int (fun _ _ => rfl))) (pe_op op_mulW (pe_ix ix_tup (pv 4) pe_int (fun _ _ => rfl)) (pv 6))) (pa_cons (pe_op op_mulW (pv 6) (pe_ix ix_tup (pv 4) pe_int (fun _ _ => rfl))) pa_nil))) pa_nil))))) pss_nil)
      (pss_cons (ps_if (pt_cmpR op_eq (pv 7) pe_int (nomark _)) (pss_one (ps_ret (pe_tup (pa_cons (pe_op (op_rmul N (hr.mono (by decide))) (pv 1) (pv 3)) (pa_cons (pe_df DL (hr.mono (by decide)) (by rfl) (pa_cons (pe_op op_mulW (pv 5) (pe_ix ix_tup (pv 4) pe_int (fun _ _ => rfl))) (pa_cons (pe_op op_mulW (pv 6) (pe_ix ix_tup (pv 4) pe_int (fun _ _ => rfl))) pa_nil))) pa_nil))))) pss_nil)
      (pss_cons (ps_if (pt_cmpR op_eq (pv 7) pe_int (nomark _)) (pss_one (ps_ret (pe_tup (pa_cons (pe_un (un_rneg N (hr.mono (by decide))) (pv 1)) (pa_cons (pe_tup (pa_cons (pe_un un_neg (pv 5)) (pa_cons (pv 6) pa_nil))) pa_nil))))) pss_nil)
      (pss_cons (ps_if (pt_cmpR op_eq (pe_ix ix_tup (pv 4) pe_int (fun _ _ => rfl)) pe_int (nomark _)) (pss_one (ps_ret (pe_tup (pa_cons (pe_dfG DV gd hr (by rfl) (pa_cons (pv 1) (pa_cons (pv 3) pa_nil))) (pa_cons pe_non pa_nil))))) pss_nil)
      (pss_one (ps_ret (pe_tup (pa_cons (pe_dfG DV gd hr (by rfl) (pa_cons (pv 1) (pa_cons (pv 3) pa_nil))) (pa_cons (pe_df DL (hr.mono (by decide)) (by rfl) (pa_cons (pe_op op_mulW (pv 5) (pe_ix ix_tup (pv 4) pe_int (fun _ _ => rfl))) (pa_cons (pe_op op_mulW (pv 6) (pe_ix ix_tup (pv 4) pe_int (fun _ _ => rfl))) pa_nil))) pa_nil))))))))))), ?_⟩
    refine ⟨_, rfl, t, _, rfl, .inl (.inl ht), rfl, _, _, rfl, _, _, rfl, rfl, ?_⟩
    refine ⟨_, rfl, l, 5, rfl, hp, by decide, by decide, fun H1 way sx1 hp1 d0 d1 => ?_⟩
    have ha1 := ha.sameX hp sx1
    have hy1 := hy.sameX hp sx1
    have hq1 := ht2.sameX hp sx1
    have bp9 := bp.mono (show 90 ≤ 900 by decide)
    have bq9 := bq.mono (show 90 ≤ 900 by decide)
    -- the end, common to the ways
    have fin : ∀ (r : Addr) (d : Int × Int) (H2 : Hp), Same H1 H2 → RatAt C H2 r d → Nrm d → Bt 400 d → ∀ (H3 : Hp) (t' : Addr), Same H2 H3 → PairAt H3 t' d → ∀ u, H3 u = none → Q (.ref u) (upd H3 u (.tup [.ref r, .ref t'])) := fun r d H2 s2 hr2 nd bd H3 t' s3 ht' u hu => by
      have s4 := sNew (o := .tup [.ref r, .ref t']) (Same.refl H3) hu
      have s5 := Same.trans (Same.trans s2 s3) s4
      exact k _ u (SameX.same sx1 s5) (hp1.same s5) (.inl ⟨r, t', d, upd_same, (hr2.same s3).same s4, ht'.same s4, nd, bd⟩)
    refine ⟨_, rfl, rfl, _, rfl, ?_⟩
    by_cases w0 : way = 0
    · rw [decide_eq_true (congrArg V.int w0)]
      refine iteT ?_
      refine ⟨_, rfl, _, rfl, a, p, q, rfl, ha1, hy1, bp9, bq9, np, nq, fun H2 r s2 hn hr2 => ?_⟩
      have hq2 := hq1.same s2
      refine ⟨_, rfl, _, rfl, t2, _, _, V.int q.2, rfl, rfl, .inl (.inl hq2), at_of (j := 1) rfl rfl, _, _, rfl, rfl, wmul bp9.1 bq9.2 (by decide), ?_⟩
      refine ⟨_, rfl, t2, _, _, V.int q.1, rfl, rfl, .inl (.inl hq2), at_of (j := 0) rfl rfl, _, rfl, _, _, rfl, rfl, wmul bq9.1 bp9.2 (by decide), _, _, rfl, rfl, ?_⟩
      refine ⟨_, rfl, _, rfl, t2, _, _, V.int q.2, rfl, rfl, .inl (.inl hq2), at_of (j := 1) rfl rfl, _, _, rfl, rfl, wmul bp9.2 bq9.2 (by decide), ?_⟩
      refine ⟨_, _, rfl, Int.mul_ne_zero np.ne nq.ne, lt_mono (add_lt (mul_lt bp.1 bq.2) (mul_lt bq.1 bp.2)) (by decide), lt_mono (mul_lt bp.2 bq.2) (by decide), fun H3 t' s3 hn3 ht' => ?_⟩
      exact ⟨(by show 2 ≤ sizeLine; decide), fin r _ H2 s2 hr2 (addP_nrm np nq) ((addP_bt np nq bp bq).mono (by decide)) H3 t' s3 ht'⟩
    · rw [decide_eq_false (fun z => w0 (V.int.inj z))]
      refine iteF ?_
      refine ⟨_, rfl, rfl, _, rfl, ?_⟩
      by_cases w1 : way = 1
      · rw [decide_eq_true (congrArg V.int w1)]
        refine iteT ?_
        refine ⟨_, rfl, _, rfl, a, p, q, rfl, ha1, hy1, bp9, bq9, np, nq, fun H2 r s2 hn hr2 => ?_⟩
        have hq2 := hq1.same s2
        refine ⟨_, rfl, _, rfl, t2, _, _, V.int q.2, rfl, rfl, .inl (.inl hq2), at_of (j := 1) rfl rfl, _, _, rfl, rfl, wmul bp9.1 bq9.2 (by decide), ?_⟩
        refine ⟨_, rfl, t2, _, _, V.int q.1, rfl, rfl, .inl (.inl hq2), at_of (j := 0) rfl rfl, _, rfl, _, _, rfl, rfl, wmul bq9.1 bp9.2 (by decide), _, _, rfl, rfl, ?_⟩
        refine ⟨_, rfl, _, rfl, t2, _, _, V.int q.2, rfl, rfl, .inl (.inl hq2), at_of (j := 1) rfl rfl, _, _, rfl, rfl, wmul bp9.2 bq9.2 (by decide), ?_⟩
        refine ⟨_, _, rfl, Int.mul_ne_zero np.ne nq.ne, lt_mono (sub_lt (mul_lt bp.1 bq.2) (mul_lt bq.1 bp.2)) (by decide), lt_mono (mul_lt bp.2 bq.2) (by decide), fun H3 t' s3 hn3 ht' => ?_⟩
        exact ⟨(by show 2 ≤ sizeLine; decide), fin r _ H2 s2 hr2 (subP_nrm np nq) ((subP_bt np nq bp bq).mono (by decide)) H3 t' s3 ht'⟩
      · rw [decide_eq_false (fun z => w1 (V.int.inj z))]
        refine iteF ?_
        refine ⟨_, rfl, rfl, _, rfl, ?_⟩
        by_cases w2 : way = 2
        · rw [decide_eq_true (congrArg V.int w2)]
          refine iteT ?_
          refine ⟨_, rfl, _, rfl, a, p, q, rfl, ha1, hy1, bp9, bq9, np, nq, fun H2 r s2 hn hr2 => ?_⟩
          have hq2 := hq1.same s2
          refine ⟨_, rfl, _, rfl, t2, _, _, V.int q.1, rfl, rfl, .inl (.inl hq2), at_of (j := 0) rfl rfl, _, _, rfl, rfl, wmul bp9.1 bq9.1 (by decide), ?_⟩
          refine ⟨_, rfl, _, rfl, t2, _, _, V.int q.2, rfl, rfl, .inl (.inl hq2), at_of (j := 1) rfl rfl, _, _, rfl, rfl, wmul bp9.2 bq9.2 (by decide), ?_⟩
          refine ⟨_, _, rfl, Int.mul_ne_zero np.ne nq.ne, lt_mono (mul_lt bp.1 bq.1) (by decide), lt_mono (mul_lt bp.2 bq.2) (by decide), fun H3 t' s3 hn3 ht' => ?_⟩
          exact ⟨(by show 2 ≤ sizeLine; decide), fin r _ H2 s2 hr2 (mulP_nrm np nq) ((mulP_bt np nq bp bq).mono (by decide)) H3 t' s3 ht'⟩
        · rw [decide_eq_false (fun z => w2 (V.int.inj z))]
          refine iteF ?_
          refine ⟨_, rfl, rfl, _, rfl, ?_⟩
          by_cases w3 : way = 3
          · rw [decide_eq_true (congrArg V.int w3)]
            refine iteT ?_
            refine ⟨_, rfl, a, p, rfl, ha1, bp9, np, fun H2 r s2 hn hr2 => ?_⟩
            rw [negP_eq np] at hr2
            refine ⟨_, rfl, _, rfl, _, rfl, (by show 2 ≤ sizeLine; decide), fun t' ht' => ?_⟩
            refine ⟨(by show 2 ≤ sizeLine; decide), fin r (-p.1, p.2) H2 s2 hr2 (nrm_neg np) ⟨?_, lt_mono bp.2 (by decide)⟩ _ t' (sNew (Same.refl H2) ht') upd_same⟩
            show (-p.1).natAbs < 2 ^ 400
            rw [Int.natAbs_neg]
            exact lt_mono bp.1 (by decide)
          · rw [decide_eq_false (fun z => w3 (V.int.inj z))]
            refine iteF ?_
            refine ⟨_, rfl, t2, _, _, V.int q.1, rfl, rfl, .inl (.inl hq1), at_of (j := 0) rfl rfl, rfl, _, rfl, ?_⟩
            by_cases hz : q.1 = 0
            · rw [decide_eq_true (congrArg V.int hz)]
              refine iteT ?_
              refine ⟨_, rfl, _, rfl, a, y, p, q, rfl, ha1, hy1, bp9, bq9, np, .inr ⟨hz, fun H2 s2 => ?_⟩⟩
              refine ⟨(by show 2 ≤ sizeLine; decide), fun u hu => ?_⟩
              have s3 := sNew (o := .tup [V.non, V.non]) s2 hu
              exact k _ u (SameX.same sx1 s3) (hp1.same s3) (.inr upd_same)
            · rw [decide_eq_false (fun z => hz (V.int.inj z))]
              refine iteF ?_
              refine ⟨_, rfl, _, rfl, a, y, p, q, rfl, ha1, hy1, bp9, bq9, np, .inl ⟨hz, fun H2 r s2 hn hr2 => ?_⟩⟩
              have hq2 := hq1.same s2
              refine ⟨_, rfl, _, rfl, t2, _, _, V.int q.2, rfl, rfl, .inl (.inl hq2), at_of (j := 1) rfl rfl, _, _, rfl, rfl, wmul bp9.1 bq9.2 (by decide), ?_⟩
              refine ⟨_, rfl, _, rfl, t2, _, _, V.int q.1, rfl, rfl, .inl (.inl hq2), at_of (j := 0) rfl rfl, _, _, rfl, rfl, wmul bp9.2 bq9.1 (by decide), ?_⟩
              refine ⟨_, _, rfl, Int.mul_ne_zero np.ne hz, lt_mono (mul_lt bp.1 bq.2) (by decide), lt_mono (mul_lt bp.2 bq.1) (by decide), fun H3 t' s3 hn3 ht' => ?_⟩
              exact ⟨(by show 2 ≤ sizeLine; decide), fin r _ H2 s2 hr2 (divP_nrm np hz) ((divP_bt np hz bp bq).mono (by decide)) H3 t' s3 ht'⟩
end
end S15

namespace S15
open PySem L2 RA
/-- repr of a list of ints -/
def rInts : List V → Hp → VK → Prop := fun us H Q => ∃ (l : Addr) (ns : List Int), us = [.ref l] ∧ H l = some (.lst (ns.map V.int)) ∧ ns ≠ [] ∧ ns.length ≤ 3 ∧ (∀ n ∈ ns, n.natAbs < 2 ^ 1900) ∧ ∀ H' : Hp, Same H H' → Q (.str (listText (ns.map tx))) H'
theorem sum_le : ∀ {l : List Str} {B : Nat}, (∀ t ∈ l, t.length ≤ B) → (l.map (·.length)).sum ≤ B * l.length
  | [], _, _ => Nat.zero_le _
  | t :: l, B, h => by
    have h1 := h t (List.mem_cons_self ..)
    have h2 := sum_le (l := l) (B := B) fun u hu => h u (List.mem_cons_of_mem _ hu)
    simp only [List.map_cons, List.sum_cons, List.length_cons, Nat.mul_succ]
    omega
theorem len_listB (l : List Str) (h : ∀ t ∈ l, t.length ≤ 5000) (hl : l.length ≤ 100) : (listText l).length ≤ sizeLine := by
  have sl : sizeLine = 16777216 := sizeLine_eq
  have h0 := textFrom_len_le l 0 "["
  have e : (listText l).length = (textFrom 0 "[" l).length + 1 := by
    show (textFrom 0 "[" l ++ "]").length = _
    rw [strLen_append]; rfl
  have e2 : ((("[" : String) : Str)).length = 1 := rfl
  have h2 := sum_le h
  have h3 : 5000 * l.length ≤ 5000 * 100 := Nat.mul_le_mul_left _ hl
  omega
theorem call_rints {X : Cx} (gd : X.A.guards = some []) (hr : Room 3 X.A) : CallR X (.builtin "repr") rInts := by
  refine CallR.imp (call_reprL (k := 1) gd hr) fun us H Q h => ?_
  obtain ⟨l, ns, rfl, hl, hne, hlen, hb, k⟩ := h
  refine ⟨l, ns.map V.int, ns.map tx, fun H' => Same H H', rfl, Same.refl H, fun H' s => s _ _ hl, by simpa using hne, by simp, ?_, ?_, fun H' s => k H' s⟩
  · intro i v hv
    rw [List.getElem?_map] at hv
    cases e : ns[i]? with
    | none => rw [e] at hv; cases hv
    | some n =>
      rw [e] at hv
      obtain rfl := Option.some.inj hv
      exact ⟨tx n, by rw [List.getElem?_map, e]; rfl, sg_int (log_ok (hb n (List.mem_of_getElem? e)))⟩
  · refine len_listB _ (fun t ht => ?_) (by rw [List.length_map]; omega)
    obtain ⟨n, hn, rfl⟩ := List.mem_map.mp ht
    exact Nat.le_trans (len_tx (hb n hn)) (by decide)
theorem ifE_same {b : Bool} {ta tb : TE} {σ : St} {H : Hp} {Q : VK} {v : V} (h1 : b = true → ∀ Q' : VK, Q' v H → ta σ H Q') (h2 : b = false → ∀ Q' : VK, Q' v H → tb σ H Q') (q : Q v H) : if b = true then ta σ H Q else tb σ H Q := by
  cases b with
  | true => exact h1 rfl Q q
  | false => exact h2 rfl Q q
/-- the properties -/
structure RPr (P : Program) (w : World) (K : PySem.W.Frag) (mg : Str → Option Value) (base : Heap) (C : Addr) : Prop where
  op : ROp P w K mg base C
  top : ∃ pp g fd, PropOf K C "top" pp g ∧ Binds K fd ["self"] [] ∧ FnOk P w K mg base CX0 1 g fd ["self"] (spTop C)
  bot : ∃ pp g fd, PropOf K C "bottom" pp g ∧ Binds K fd ["self"] [] ∧ FnOk P w K mg base CX0 1 g fd ["self"] (spBottom C)
  sgn : ∃ pp g fd, PropOf K C "sign" pp g ∧ Binds K fd ["self"] [] ∧ FnOk P w K mg base CX0 1 g fd ["self"] (spSg C)
section
variable {P : Program} {w : World} {K : PySem.W.Frag} {mg : Str → Option Value} {base : Heap}
/-! ### _law_is_pair -/
def spIsPair (C : Addr) : Sp := fun vs H Q _ => ∃ (a t : Addr) (p : Int × Int), vs = [.ref a, .ref t] ∧ RatAt C H a p ∧ PairAt H t p ∧ Bt 1800 p ∧ ∀ H' : Hp, Same H H' → Q (.bl true) H'
abbrev nIsPair : List Str := ["_law_one", "_law_pair", "_law_text", "_law_sign"]
theorem scIsPair : FnScope nIsPair ["_law_one", "_law_pair"] (defScope sIsPair) := ⟨rfl, rfl, rfl, by decide +kernel, rfl, by decide +kernel, by decide +kernel⟩
theorem ok_isPair {f C : Addr} {fd : FuncData} (F : Fun K "_law_is_pair" "_law_is_pair" sIsPair f fd) (T : Bn mg) (R : RPr P w K mg base C) : FnG P w K mg base CX0 8 f fd ["_law_one", "_law_pair"] (spIsPair C) := by
  refine F.okG scIsPair (fun vs H Q E h => ?_) (fun cdv A outer s H vs Q E gd hr h => ?_)
  · obtain ⟨a, t, p, rfl, _⟩ := h
    rfl
  · obtain ⟨a, t, p, rfl, ha, ht, bp, k⟩ := h
    have N := R.op.rm.rc
    obtain ⟨p1, g1, fd1, P1, B1, F1⟩ := R.top
    obtain ⟨p2, g2, fd2, P2, B2, F2⟩ := R.bot
    obtain ⟨p3, g3, fd3, P3, B3, F3⟩ := R.sgn
    obtain ⟨dx, h1⟩ := id ha
    have hix : ∀ {H' : Hp}, Same H H' → SqT K H' t [.int p.1, .int p.2] := fun s => .inl (.inl (ht.same s))
    refine ⟨_, pss_cons (ps_set (i := 2) scIsPair.nd rfl (Or.inl rfl) (pe_ifExp (pt_cmpR op_eq (pe_ix ix_tup (pv 1) pe_int (fun _ _ => rfl)) pe_int (nomark _)) (pe_callTy call_str_int (by rfl) T.str (by decide +kernel) (pa_cons (pe_ix ix_tup (pv 1) pe_int (fun _ _ => rfl)) pa_nil))
        (pe_op op_add_str (pe_op op_add_str (pe_callTy call_str_int (by rfl) T.str (by decide +kernel) (pa_cons (pe_ix ix_tup (pv 1) pe_int (fun _ _ => rfl)) pa_nil)) pe_str) (pe_callTy call_str_int (by rfl) T.str (by decide +kernel) (pa_cons (pe_ix ix_tup (pv 1) pe_int (fun _ _ => rfl)) pa_nil)))))
      (pss_cons (ps_set (i := 3) scIsPair.nd rfl (Or.inl rfl) (pe_ifExp (pt_cmpR op_gt (pe_ix ix_tup (pv 1) pe_int (fun _ _ => rfl)) pe_int (nomark _)) pe_int (pe_ifExp (pt_cmpR op_lt (pe_ix ix_tup (pv 1) pe_int (fun _ _ => rfl)) pe_int (nomark _)) (pe_un un_neg pe_int) pe_int)))
      (pss_cons (ps_if (pt_cmpR op_ne (pe_callB (call_rints gd (hr.mono (by decide))) (by rfl) T.repr (by decide +kernel) (pa_cons (pe_lst (pa_cons (pe_prop (E := E0) (pv 0) N.cl P1 F1 (hr.mono (by decide)) B1 .nil pass0 rfl) (pa_cons (pe_prop (E := E0) (pv 0) N.cl P2 F2 (hr.mono (by decide)) B2 .nil pass0 rfl) (pa_cons (pe_prop (E := E0) (pv 0) N.cl P3 F3 (hr.mono (by decide)) B3 .nil pass0 rfl) pa_nil)))) pa_nil))
          (pe_callB (call_rints gd (hr.mono (by decide))) (by rfl) T.repr (by decide +kernel) (pa_cons (pe_lst (pa_cons (pe_ix ix_tup (pv 1) pe_int (fun _ _ => rfl)) (pa_cons (pe_ix ix_tup (pv 1) pe_int (fun _ _ => rfl)) (pa_cons (pv 3) pa_nil)))) pa_nil)) (nomark _)) (pss_one ps_never) pss_nil)
      (pss_one (ps_ret (pe_and (pe_cmpR op_eq (pe_callTy (call_rstr R.op hr) (by rfl) T.str (by decide +kernel) (pa_cons (pv 0) pa_nil)) (pv 2) (nomark _))
        (pe_one (pe_cmpR op_eq (pe_callB (call_rrepr R.op (hr.mono (by decide))) (by rfl) T.repr (by decide +kernel) (pa_cons (pv 0) pa_nil))
          (pe_op op_add_str (pe_op op_add_str (pe_op op_add_str (pe_op op_add_str pe_str (pe_callTy call_str_int (by rfl) T.str (by decide +kernel) (pa_cons (pe_ix ix_tup (pv 1) pe_int (fun _ _ => rfl)) pa_nil))) pe_str) (pe_callTy call_str_int (by rfl) T.str (by decide +kernel) (pa_cons (pe_ix ix_tup (pv 1) pe_int (fun _ _ => rfl)) pa_nil))) pe_str) (nomark _)))))))), ?_⟩
    have bp9 := bp.mono (show 1800 ≤ 1900 by decide)
    have l1 := len_tx bp9.1
    have l2 := len_tx bp9.2
    have sl : sizeLine = 16777216 := sizeLine_eq
    have hsg : (sg p.1).natAbs < 2 ^ 1900 := by
      have e : (sg p.1).natAbs < 2 ^ 1 := by
        unfold sg
        split
        · decide
        · split <;> decide
      exact lt_mono e (by decide)
    have hns : ∀ n ∈ [p.1, p.2, sg p.1], n.natAbs < 2 ^ 1900 := fun n hn => by
      simp only [List.mem_cons, List.not_mem_nil, or_false] at hn
      rcases hn with rfl | rfl | rfl
      · exact bp9.1
      · exact bp9.2
      · exact hsg
    refine ⟨_, rfl, t, _, _, V.int p.2, rfl, rfl, hix (Same.refl H), at_of (j := 1) rfl rfl, rfl, _, rfl, ?_⟩
    refine ifE_same (v := .str (strT p)) (fun hb Q' q' => ?_) (fun hb Q' q' => ?_) ?_
    · have e1 : p.2 = 1 := V.int.inj (of_decide_eq_true hb)
      refine ⟨_, rfl, t, _, _, V.int p.1, rfl, rfl, hix (Same.refl H), at_of (j := 0) rfl rfl, _, rfl, log_ok bp9.1, ?_⟩
      unfold strT at q'
      rw [if_pos e1] at q'
      exact q'
    · have e1 : p.2 ≠ 1 := fun z => (of_decide_eq_false hb) (congrArg V.int z)
      refine ⟨_, rfl, t, _, _, V.int p.1, rfl, rfl, hix (Same.refl H), at_of (j := 0) rfl rfl, _, rfl, log_ok bp9.1, _, _, rfl, rfl, ?_, ?_⟩
      · show (tx p.1).length + (("/" : Str)).length ≤ _
        rw [s_len]; omega
      refine ⟨_, rfl, t, _, _, V.int p.2, rfl, rfl, hix (Same.refl H), at_of (j := 1) rfl rfl, _, rfl, log_ok bp9.2, _, _, rfl, rfl, ?_, ?_⟩
      · show (tx p.1 ++ ("/" : Str)).length + (tx p.2).length ≤ _
        rw [strLen_append, s_len]; omega
      unfold strT at q'
      rw [if_neg e1] at q'
      exact q'
    refine ⟨_, rfl, t, _, _, V.int p.1, rfl, rfl, hix (Same.refl H), at_of (j := 0) rfl rfl, _, _, rfl, rfl, _, rfl, ?_⟩
    refine ifE_same (v := .int (sg p.1)) (fun hb Q' q' => ?_) (fun hb Q' q' => ?_) ?_
    · have e2 : p.1 > 0 := of_decide_eq_true hb
      unfold sg at q'
      rw [if_pos e2] at q'
      exact q'
    · have e2 : ¬ p.1 > 0 := of_decide_eq_false hb
      refine ⟨_, rfl, t, _, _, V.int p.1, rfl, rfl, hix (Same.refl H), at_of (j := 0) rfl rfl, _, _, rfl, rfl, _, rfl, ?_⟩
      unfold sg at q'
      rw [if_neg e2] at q'
      by_cases e3 : p.1 < 0
      · rw [decide_eq_true e3]
        rw [if_pos e3] at q'
        exact iteT ⟨_, rfl, q'⟩
      · rw [decide_eq_false e3]
        rw [if_neg e3] at q'
        exact iteF q'
    -- the three numbers
    refine ⟨_, rfl, a, dx, _, rfl, h1, a, p, rfl, ha, _, rfl, a, dx, _, rfl, h1, a, p, rfl, ha, _, rfl, a, dx, _, rfl, h1, a, p, rfl, ha, (by show 3 ≤ sizeLine; decide), fun u1 hu1 => ?_⟩
    have s1 := sNew (o := .lst [V.int p.1, V.int p.2, V.int (sg p.1)]) (Same.refl H) hu1
    refine ⟨u1, [p.1, p.2, sg p.1], rfl, upd_same, by simp, (by show 3 ≤ 3; decide), hns, fun H2 s2 => ?_⟩
    have s12 := Same.trans s1 s2
    refine ⟨_, rfl, t, _, _, V.int p.1, rfl, rfl, hix s12, at_of (j := 0) rfl rfl, _, rfl, t, _, _, V.int p.2, rfl, rfl, hix s12, at_of (j := 1) rfl rfl, _, rfl, (by show 3 ≤ sizeLine; decide), fun u2 hu2 => ?_⟩
    have s3 := sNew (o := .lst [V.int p.1, V.int p.2, V.int (sg p.1)]) (Same.refl H2) hu2
    refine ⟨u2, [p.1, p.2, sg p.1], rfl, upd_same, by simp, (by show 3 ≤ 3; decide), hns, fun H4 s4 => ?_⟩
    have s14 := Same.trans (Same.trans s12 s3) s4
    refine ⟨rfl, _, rfl, ?_⟩
    rw [decide_eq_true rfl]
    refine iteF ?_
    refine ⟨_, rfl, a, p, rfl, ha.same s14, bp9, _, rfl, rfl, _, rfl, ?_⟩
    rw [decide_eq_true rfl]
    refine iteT ?_
    refine ⟨_, rfl, a, p, rfl, ha.same s14, bp9, ?_⟩
    refine ⟨_, rfl, t, _, _, V.int p.1, rfl, rfl, hix s14, at_of (j := 0) rfl rfl, _, rfl, log_ok bp9.1, _, _, rfl, rfl, ?_, ?_⟩
    · show (("Ratio(" : Str)).length + (tx p.1).length ≤ _
      rw [r_len]; omega
    refine ⟨_, _, rfl, rfl, ?_, ?_⟩
    · show (("Ratio(" : Str) ++ tx p.1).length + ((", " : Str)).length ≤ _
      rw [strLen_append, r_len, c_len]; omega
    refine ⟨_, rfl, t, _, _, V.int p.2, rfl, rfl, hix s14, at_of (j := 1) rfl rfl, _, rfl, log_ok bp9.2, _, _, rfl, rfl, ?_, ?_⟩
    · show (("Ratio(" : Str) ++ tx p.1 ++ (", " : Str)).length + (tx p.2).length ≤ _
      rw [strLen_append, strLen_append, r_len, c_len]; omega
    refine ⟨_, _, rfl, rfl, ?_, ?_⟩
    · show (("Ratio(" : Str) ++ tx p.1 ++ (", " : Str) ++ tx p.2).length + ((")" : Str)).length ≤ _
      rw [strLen_append, strLen_append, strLen_append, r_len, c_len, p_len]; omega
    refine ⟨rfl, ?_⟩
    have z := k H4 s14
    have e : decide (V.str (reprT p) = V.str (("Ratio(" : Str) ++ tx p.1 ++ (", " : Str) ++ tx p.2 ++ (")" : Str))) = true := decide_eq_true rfl
    rw [← e] at z
    exact z
end
end S15

namespace S15
open PySem L2 RA
theorem call_rbool {X : Cx} : CallR X (.builtin "repr") (fun us H Q => ∃ b : Bool, us = [.bl b] ∧ Q (.str (if b then "True" else "False")) H) := by
  intro pins s σ H xs us Q I r h
  obtain ⟨b, rfl, q⟩ := h
  obtain ⟨u, rfl, ru⟩ := vals1 r
  obtain rfl : u = Value.bool b := ru
  exact PySem.P.repr_of_bool ⟨.str (if b then "True" else "False"), H, I.tok _, ⟨_, rfl⟩, q⟩
def dPair (p : Int × Int) : PyData := .tuple [.int p.1, .int p.2]
theorem dp_pair {K : PySem.W.Frag} {H : Hp} {t : Addr} {p : Int × Int} (h : PairAt H t p) : Dp K H (.ref t) (dPair p) := .tup (xs := [.int p.1, .int p.2]) (.inl (.inl h)) (.cons (.int p.1) (.cons (.int p.2) .nil))
theorem eqv_pair (p q : Int × Int) : PyData.eqv (dPair p) (dPair q) = decide (p = q) := by
  show ((p.1 == q.1) && ((p.2 == q.2) && true)) = _
  rw [Bool.and_true]
  by_cases h : p = q
  · subst h
    simp
  · rw [decide_eq_false h]
    by_cases h1 : p.1 = q.1
    · have h2 : p.2 ≠ q.2 := fun z => h (Prod.ext h1 z)
      simp [h2]
    · simp [h1]
theorem sh_pair (p : Int × Int) : SeqAt.shaped (dPair p) = true := rfl
theorem iteFx {b : Bool} {A B : Prop} (hb : b = false) (h : B) : if b = true then A else B := by
  subst hb
  exact h
theorem at_last {l : List Addr} {x : Addr} (h : l[l.length - 1]? = some x) : atI (l.map V.ref) (-1) = some (V.ref x) := by
  have hne : l ≠ [] := fun e => by rw [e] at h; simp at h
  have e : l.getLast hne = x := by
    have z := List.getLast?_eq_getElem? (l := l)
    rw [h, List.getLast?_eq_some_getLast hne] at z
    exact Option.some.inj z
  have e2 : l = l.dropLast ++ [x] := by rw [← e]; exact (List.dropLast_concat_getLast hne).symm
  rw [e2, List.map_append]
  exact atI_last _ _
/-- is_below, is_number, total: what is known -/
structure RMore (P : Program) (w : World) (K : PySem.W.Frag) (mg : Str → Option Value) (base : Heap) (C : Addr) : Prop where
  pr : RPr P w K mg base C
  bel : ∃ f fd, Meth K C "is_below" f ∧ Binds K fd ["self", "other"] [] ∧ FnOk P w K mg base CX0 5 f fd ["self", "other"] (spBelow C)
section
variable {P : Program} {w : World} {K : PySem.W.Frag} {mg : Str → Option Value} {base : Heap}
/-! ### _law_compared -/
def spCompared (C : Addr) : Sp := fun vs H Q _ => ∃ (lm lp : Addr) (rs ts : List Addr) (ps : List (Int × Int)), vs = [.ref lm, .ref lp] ∧ Chain C H lm lp rs ts ps ∧ ∀ H' : Hp, Same H H' → Q (.bl true) H'
abbrev nCompared : List Str := ["_law_made", "_law_pairs", "_law_last", "_law_pair", "_law_one", "_law_other", "_law_floor"]
theorem scCompared : FnScope nCompared ["_law_made", "_law_pairs"] (defScope sCompared) := ⟨rfl, rfl, rfl, by decide +kernel, rfl, by decide +kernel, by decide +kernel⟩
theorem ok_compared {f C : Addr} {fd : FuncData} (F : Fun K "_law_compared" "_law_compared" sCompared f fd) (T : Bn mg) (R : RMore P w K mg base C) (DN : Df P w K mg base "is_number" ["value"] 2 (spIsNum C)) : FnG P w K mg base CX0 8 f fd ["_law_made", "_law_pairs"] (spCompared C) := by
  refine F.okG scCompared (fun vs H Q E h => ?_) (fun cdv A outer s H vs Q E gd hr h => ?_)
  · obtain ⟨lm, lp, rs, ts, ps, rfl, _⟩ := h
    rfl
  · obtain ⟨lm, lp, rs, ts, ps, rfl, hc, k⟩ := h
    have N := R.pr.op.rm.rc
    obtain ⟨fb, fdb, hmb, hbb, G⟩ := R.bel
    refine ⟨_, pss_cons (ps_par (i := 2) (j := 3) (by rfl) scCompared.nd rfl rfl (by decide) rfl rfl (pa_cons (pe_ix ix_list (pv 0) (pe_un un_neg pe_int) (fun _ _ => rfl)) (pa_cons (pe_ix ix_list (pv 1) (pe_un un_neg pe_int) (fun _ _ => rfl)) pa_nil)) (by rfl))
      (pss_cons (ps_for PassesOwn.never rfl (pi_zip (by rfl) T.zip (pa_cons (pv 0) (pa_cons (pv 1) pa_nil))) (pg_tup rfl (pgs_cons (pg_name (i := 4) scCompared.nd rfl (Or.inl rfl)) (pgs_cons (pg_name (i := 5) scCompared.nd rfl (Or.inl rfl)) pgs_nil)))
        (pss_cons (ps_if (pt_cmpR op_ne (pe_callB call_rbool (by rfl) T.repr (by decide +kernel) (pa_cons (pe_meth (E := E0) (pv 2) N.cl hmb G (hr.mono (by decide)) hbb .nil pass0 (pa_cons (pv 4) pa_nil)) pa_nil))
            (pe_callB call_rbool (by rfl) T.repr (by decide +kernel) (pa_cons (pe_cmpR op_lt (pe_op op_mulW (pe_ix ix_tup (pv 3) pe_int (fun _ _ => rfl)) (pe_ix ix_tup (pv 5) pe_int (fun _ _ => rfl))) (pe_op op_mulW (pe_ix ix_tup (pv 5) pe_int (fun _ _ => rfl)) (pe_ix ix_tup (pv 3) pe_int (fun _ _ => rfl))) (nomark _)) pa_nil)) (nomark _)) (pss_one ps_never) pss_nil)
        (pss_one (ps_if (PW.pt (pw_or (pt_cmpR op_ne (pe_cmpR (op_req R.pr.op (hr.mono (by decide))) (pv 2) (pv 4) (nomark _)) (pe_cmpR (op_eqD hr.units) (pv 3) (pv 5) (nomark _)) (nomark _))
            (pw_or1 (pt_cmpR op_eq (pe_cmpR (op_rne R.pr.op (hr.mono (by decide))) (pv 2) (pv 4) (nomark _)) (pe_cmpR (op_eqD hr.units) (pv 3) (pv 5) (nomark _)) (nomark _))))) (pss_one ps_never) pss_nil))))
      (pss_cons (ps_set (i := 6) scCompared.nd rfl (Or.inl rfl) (pe_op op_fdivW (pe_ix ix_tup (pv 3) pe_int (fun _ _ => rfl)) (pe_ix ix_tup (pv 3) pe_int (fun _ _ => rfl))))
      (pss_cons (ps_if (PW.pt (pw_or (pt_cmpR op_isnot_bl (pe_meth (E := E0) (pv 2) N.cl hmb G (hr.mono (by decide)) hbb .nil pass0 (pa_cons (pv 6) pa_nil)) pe_bl (nomark _))
            (pw_or1 (pt_cmpR op_isnot_bl (pe_meth (E := E0) (pv 2) N.cl hmb G (hr.mono (by decide)) hbb .nil pass0 (pa_cons (pe_op op_add (pv 6) pe_int) pa_nil)) pe_bl (nomark _))))) (pss_one ps_never) pss_nil)
      (pss_one (ps_ret (pe_and (pe_cmpR (op_rne R.pr.op (hr.mono (by decide))) (pv 2) (pe_ix ix_tup (pv 3) pe_int (fun _ _ => rfl)) (nomark _)) (pe_and (pe_cmpR (op_rne R.pr.op (hr.mono (by decide))) (pv 2) (pv 6) (nomark _))
        (pe_and (pe_cmpR op_is_bl (pe_df DN (hr.mono (by decide)) (by rfl) (pa_cons (pv 2) pa_nil)) pe_bl (nomark _)) (pe_one (pe_cmpR (op_rne R.pr.op (hr.mono (by decide))) (pv 2) (pe_callTy (call_rstr R.pr.op hr) (by rfl) T.str (by decide +kernel) (pa_cons (pv 2) pa_nil)) (nomark _))))))))))), ?_⟩
    have hpos : 0 < ps.length := List.length_pos_iff.mpr hc.ne
    have hlt : ps.length - 1 < ps.length := by omega
    obtain ⟨r, t, g1, g2, g3, g4⟩ := hc.all (ps.length - 1) ps[ps.length - 1] (List.getElem?_eq_getElem hlt)
    have okp := hc.ok _ (List.getElem_mem hlt)
    generalize ps[ps.length - 1] = p at g3 g4 okp
    rw [← hc.len1] at g1
    rw [← hc.len2] at g2
    obtain ⟨np, bp⟩ := okp
    have bp9 := bp.mono (show 90 ≤ 900 by decide)
    refine ⟨_, rfl, _, rfl, lm, _, _, V.ref r, rfl, rfl, SqL.of hc.made, at_last g1, _, rfl, _, rfl, lp, _, _, V.ref t, rfl, rfl, SqL.of hc.pairs, at_last g2, _, _, rfl, ?_⟩
    obtain ⟨dx, h1⟩ := id g3
    refine ⟨_, rfl, _, rfl, lm, lp, _, _, rfl, SqL.of hc.made, SqL.of hc.pairs, ?_⟩
    refine RZ.for_zipL (by rw [List.length_map, List.length_map, hc.len1, hc.len2]) (fun i σ H' => Same H H' ∧ ∃ v4 v5, σ = [some (.ref lm), some (.ref lp), some (.ref r), some (.ref t), v4, v5, none]) ⟨Same.refl H, none, none, rfl⟩ (fun i σ H' h => ⟨h.1.seq (SqL.of hc.made), h.1.seq (SqL.of hc.pairs)⟩) ?_ ?_
    · rintro i x y TT σ H' hx hy ⟨s1, v4, v5, rfl⟩ hTT
      rw [List.getElem?_map] at hx hy
      have hi : i < ps.length := by
        cases e : rs[i]? with
        | none => rw [e] at hx; cases hx
        | some z =>
          have := (List.getElem?_eq_some_iff.mp e).1
          rw [hc.len1] at this
          exact this
      obtain ⟨ri, ti, f1, f2, f3, f4⟩ := hc.all i ps[i] (List.getElem?_eq_getElem hi)
      obtain ⟨nq, bq⟩ := hc.ok _ (List.getElem_mem hi)
      generalize ps[i] = q at f3 f4 nq bq
      rw [f1] at hx
      rw [f2] at hy
      obtain rfl := Option.some.inj hx
      obtain rfl := Option.some.inj hy
      have bq9 := bq.mono (show 90 ≤ 900 by decide)
      have s2 := sNew (o := .tup [V.ref ri, V.ref ti]) s1 hTT
      have hix : ∀ {H2 : Hp}, Same H H2 → SqT K H2 t [.int p.1, .int p.2] := fun s => .inl (.inl (g4.same s))
      have hiq : ∀ {H2 : Hp}, Same H H2 → SqT K H2 ti [.int q.1, .int q.2] := fun s => .inl (.inl (f4.same s))
      refine ⟨TT, _, rfl, .inl (.inl upd_same), rfl, _, _, rfl, _, _, rfl, rfl, ?_⟩
      refine ⟨_, rfl, r, dx, _, rfl, s2 _ _ h1, rfl, _, rfl, r, _, p, q, rfl, g3.same s2, .inl ⟨ri, rfl, f3.same s2⟩, bp9, bq9, fun H3 s3 => ?_⟩
      have s13 := Same.trans s2 s3
      refine ⟨_, rfl, ?_⟩
      refine ⟨_, rfl, t, _, _, V.int p.1, rfl, rfl, hix s13, at_of (j := 0) rfl rfl, _, rfl, ti, _, _, V.int q.2, rfl, rfl, hiq s13, at_of (j := 1) rfl rfl, _, _, rfl, rfl, wmul bp9.1 bq9.2 (by decide), ?_⟩
      refine ⟨_, rfl, ti, _, _, V.int q.1, rfl, rfl, hiq s13, at_of (j := 0) rfl rfl, _, rfl, t, _, _, V.int p.2, rfl, rfl, hix s13, at_of (j := 1) rfl rfl, _, _, rfl, rfl, wmul bq9.1 bp9.2 (by decide), ?_⟩
      refine ⟨_, _, rfl, rfl, _, rfl, rfl, _, rfl, ?_⟩
      refine iteFx (by rw [Bool.not_eq_false']; exact decide_eq_true rfl) ?_
      refine ⟨_, rfl, _, rfl, r, p, rfl, g3.same s13, .inl ⟨ri, q, rfl, f3.same s13, ?_⟩⟩
      refine ⟨_, rfl, _, rfl, dPair p, dPair q, dp_pair (g4.same s13), dp_pair (f4.same s13), sh_pair p, sh_pair q, ?_⟩
      rw [eqv_pair, Bool.false_xor]
      refine ⟨rfl, _, rfl, ?_⟩
      refine iteFx (by rw [Bool.not_eq_false']; exact decide_eq_true rfl) ?_
      refine ⟨_, rfl, _, rfl, r, p, rfl, g3.same s13, .inl ⟨ri, q, rfl, f3.same s13, ?_⟩⟩
      refine ⟨_, rfl, _, rfl, dPair p, dPair q, dp_pair (g4.same s13), dp_pair (f4.same s13), sh_pair p, sh_pair q, ?_⟩
      rw [eqv_pair, Bool.true_xor]
      refine ⟨rfl, _, rfl, ?_⟩
      refine iteFx (decide_eq_false fun z => by cases hb : decide (p = q) <;> rw [hb] at z <;> cases z) ?_
      exact ⟨s13, _, _, rfl⟩
    · rintro σ H' ⟨s1, v4, v5, rfl⟩
      have ht1 := g4.same s1
      have hix : ∀ {H2 : Hp}, Same H H2 → SqT K H2 t [.int p.1, .int p.2] := fun s => .inl (.inl (g4.same s))
      refine ⟨_, rfl, t, _, _, V.int p.1, rfl, rfl, hix s1, at_of (j := 0) rfl rfl, _, rfl, t, _, _, V.int p.2, rfl, rfl, hix s1, at_of (j := 1) rfl rfl, _, _, rfl, rfl, ⟨np.1, ?_⟩, ?_⟩
      · exact Nat.lt_trans (log_of bp.2 (by decide)) (by decide)
      have hq : (p.1 / p.2).natAbs ≤ p.1.natAbs := Int.natAbs_ediv_le_natAbs _ _
      have bfl : Bt 900 (p.1 / p.2, 1) := ⟨lt_mono (Nat.lt_of_le_of_lt hq bp.1) (by decide), by show (1 : Int).natAbs < 2 ^ 900; exact Nat.one_lt_two_pow (by decide)⟩
      have bfc : Bt 900 (p.1 / p.2 + 1, 1) := ⟨by
        have h2 : (p.1 / p.2 + 1).natAbs < 2 ^ (90 + 1) := add_lt (Nat.lt_of_le_of_lt hq bp.1) (by decide)
        exact lt_mono h2 (by decide), by show (1 : Int).natAbs < 2 ^ 900; exact Nat.one_lt_two_pow (by decide)⟩
      refine ⟨_, rfl, r, dx, _, rfl, s1 _ _ h1, rfl, _, rfl, r, _, p, (p.1 / p.2, 1), rfl, g3.same s1, .inr ⟨_, rfl, rfl⟩, bp9, bfl, fun H2 s2 => ?_⟩
      have s12 := Same.trans s1 s2
      rw [lt_floor np]
      refine ⟨_, _, rfl, rfl, _, rfl, ?_⟩
      refine iteF ?_
      refine ⟨_, rfl, r, dx, _, rfl, s12 _ _ h1, rfl, _, rfl, _, _, rfl, rfl, r, _, p, (p.1 / p.2 + 1, 1), rfl, g3.same s12, .inr ⟨_, rfl, rfl⟩, bp9, bfc, fun H3 s3 => ?_⟩
      have s13 := Same.trans s12 s3
      rw [lt_ceil np]
      refine ⟨_, _, rfl, rfl, _, rfl, ?_⟩
      refine iteF ?_
      refine ⟨_, rfl, _, rfl, t, _, _, V.int p.1, rfl, rfl, hix s13, at_of (j := 0) rfl rfl, r, p, rfl, g3.same s13, .inr (.inl ⟨⟨_, rfl⟩, true, rfl, iteT ?_⟩)⟩
      refine ⟨_, rfl, _, rfl, r, p, rfl, g3.same s13, .inr (.inl ⟨⟨_, rfl⟩, true, rfl, iteT ?_⟩)⟩
      refine ⟨_, rfl, r, p, rfl, g3.same s13, true, true, rfl, rfl, true, rfl, iteT ?_⟩
      refine ⟨_, rfl, _, rfl, r, p, rfl, g3.same s13, bp.mono (by decide), r, p, rfl, g3.same s13, .inr (.inr ⟨⟨_, rfl⟩, k H3 s13⟩)⟩
end
end S15

namespace S15
open PySem L2 RA
theorem cut3 (xs : List V) : cutV xs (some (-3)) none = xs.drop (xs.length - 3) := by
  unfold cutV
  have e1 : HT.sIx xs.length 0 (some (-3)) = xs.length - 3 := by
    show (if (-3 : Int) < 0 then ((-3 : Int) + (xs.length : Int)).toNat else min (-3 : Int).toNat xs.length) = _
    rw [if_pos (by decide)]
    omega
  have e2 : HT.sIx xs.length xs.length none = xs.length := rfl
  rw [e1, e2]
  refine List.take_of_length_le ?_
  rw [List.length_drop]
  exact Nat.le_refl _
theorem addP_zero {p : Int × Int} (h : Nrm p) : addP p (0, 1) = p := by
  unfold addP
  show nf (p.1 * 1 + 0 * p.2) (p.2 * 1) = p
  rw [Int.mul_one, Int.zero_mul, Int.add_zero, Int.mul_one]
  exact nf_of h
theorem sum_pad {qs : List (Int × Int)} (hq : ∀ q ∈ qs, Bt 100 q ∧ Nrm q) : ∀ k, sumP (qs ++ List.replicate k (0, 1)) = sumP qs
  | 0 => by simp
  | k + 1 => by
    rw [List.replicate_succ', ← List.append_assoc, sumP_snoc, sum_pad hq k]
    exact addP_zero (sumP_ok qs hq).1
theorem bt01 : Bt 100 ((0 : Int), (1 : Int)) ∧ Nrm ((0 : Int), (1 : Int)) := ⟨⟨by decide, by decide⟩, nrm_int 0⟩
/-- the first three of the ratios and two zeros -/
theorem three {C : Addr} {H : Hp} {qs : List (Int × Int)} {rs3 : List Addr} (hq0 : qs ≠ []) (hn3 : qs.length ≤ 3) (lr : rs3.length = qs.length) (hat : ∀ (i : Nat) (q : Int × Int), qs[i]? = some q → ∃ r, rs3[i]? = some r ∧ RatAt C H r q) (hqm : ∀ q ∈ qs, Bt 100 q ∧ Nrm q) :
    ∃ (y0 y1 y2 : V) (ps3 : List (Int × Int)), (rs3.map V.ref ++ [V.int 0, V.int 0])[0]? = some y0 ∧ (rs3.map V.ref ++ [V.int 0, V.int 0])[1]? = some y1 ∧ (rs3.map V.ref ++ [V.int 0, V.int 0])[2]? = some y2 ∧ NumsAt C H [y0, y1, y2] ps3 ∧ ps3.length ≤ 3 ∧ (∀ p ∈ ps3, Bt 100 p ∧ Nrm p) ∧ sumP ps3 = sumP qs := by
  have z : NumAt C H (.int 0) (0, 1) := .inr ⟨0, rfl, rfl⟩
  have mk : ∀ (y0 y1 y2 : V) (p0 p1 p2 : Int × Int), NumAt C H y0 p0 → NumAt C H y1 p1 → NumAt C H y2 p2 → NumsAt C H [y0, y1, y2] [p0, p1, p2] := fun y0 y1 y2 p0 p1 p2 h0 h1 h2 => ⟨rfl, fun i y hy => by
    match i, hy with
    | 0, hy => cases (Option.some.inj hy); exact ⟨p0, rfl, h0⟩
    | 1, hy => cases (Option.some.inj hy); exact ⟨p1, rfl, h1⟩
    | 2, hy => cases (Option.some.inj hy); exact ⟨p2, rfl, h2⟩
    | n + 3, hy => simp at hy⟩
  match qs, rs3, hq0, hn3, lr with
  | [a], [r0], _, _, _ =>
    obtain ⟨r, h1, h2⟩ := hat 0 a rfl
    cases (Option.some.inj h1)
    refine ⟨.ref r0, .int 0, .int 0, [a, (0, 1), (0, 1)], rfl, rfl, rfl, mk _ _ _ _ _ _ (.inl ⟨r0, rfl, h2⟩) z z, Nat.le_refl _, fun p hp => ?_, sum_pad hqm 2⟩
    rcases List.mem_cons.mp hp with rfl | hp
    · exact hqm _ (List.mem_cons_self ..)
    · simp only [List.mem_cons, List.not_mem_nil, or_false, or_self] at hp
      rw [hp]
      exact bt01
  | [a, b], [r0, r1], _, _, _ =>
    obtain ⟨r, h1, h2⟩ := hat 0 a rfl
    cases (Option.some.inj h1)
    obtain ⟨r', g1, g2⟩ := hat 1 b rfl
    cases (Option.some.inj g1)
    refine ⟨.ref r0, .ref r1, .int 0, [a, b, (0, 1)], rfl, rfl, rfl, mk _ _ _ _ _ _ (.inl ⟨r0, rfl, h2⟩) (.inl ⟨r1, rfl, g2⟩) z, Nat.le_refl _, fun p hp => ?_, sum_pad hqm 1⟩
    simp only [List.mem_cons, List.not_mem_nil, or_false] at hp
    rcases hp with rfl | rfl | rfl
    · exact hqm _ (by simp)
    · exact hqm _ (by simp)
    · exact bt01
  | [a, b, c], [r0, r1, r2], _, _, _ =>
    obtain ⟨r, h1, h2⟩ := hat 0 a rfl
    cases (Option.some.inj h1)
    obtain ⟨r', g1, g2⟩ := hat 1 b rfl
    cases (Option.some.inj g1)
    obtain ⟨r'', k1, k2⟩ := hat 2 c rfl
    cases (Option.some.inj k1)
    exact ⟨.ref r0, .ref r1, .ref r2, [a, b, c], rfl, rfl, rfl, mk _ _ _ _ _ _ (.inl ⟨r0, rfl, h2⟩) (.inl ⟨r1, rfl, g2⟩) (.inl ⟨r2, rfl, k2⟩), Nat.le_refl _, hqm, rfl⟩
  | _ :: _ :: _ :: _ :: _, _, _, h, _ => simp at h
/-- what is known of total -/
structure RTot (P : Program) (w : World) (K : PySem.W.Frag) (mg : Str → Option Value) (base : Heap) (C : Addr) : Prop where
  mo : RMore P w K mg base C
  tot : ∃ mc p g, ClX.CRead K C mc ∧ ClX.CMet K C mc "total" p g ∧ FnR P w K mg base CX0 6 g (fun vs H Q E => ∃ ws rest, vs = ws ++ rest ∧ ws.length = (["cls"] : List Str).length ∧ rest.length ≤ sizeLine ∧ ∀ p, H p = Option.none → spTot C (ws ++ [V.ref p]) (upd H p (.tup rest)) Q E)
section
variable {P : Program} {w : World} {K : PySem.W.Frag} {mg : Str → Option Value} {base : Heap}
/-! ### _law_totalled -/
def spTotalled (C : Addr) : Sp := fun vs H Q _ => ∃ (lm lp : Addr) (rs ts : List Addr) (ps : List (Int × Int)), vs = [.ref lm, .ref lp] ∧ Chain C H lm lp rs ts ps ∧ ∀ H' : Hp, Same H H' → Q (.bl true) H'
abbrev nTotalled : List Str := ["_law_made", "_law_pairs", "_law_high", "_law_low", "_law_pair", "_law_some"]
theorem scTotalled : FnScope nTotalled ["_law_made", "_law_pairs"] (defScope sTotalled) := ⟨rfl, rfl, rfl, by decide +kernel, rfl, by decide +kernel, by decide +kernel⟩
theorem ok_totalled {f C : Addr} {fd : FuncData} (F : Fun K "_law_totalled" "_law_totalled" sTotalled f fd) (T : Bn mg) (R : RTot P w K mg base C) (DL : Df P w K mg base "_law_least" ["_law_high", "_law_low"] 1 spLeast) (DP : DfG P w K mg base "_law_is_pair" ["_law_one", "_law_pair"] 8 (spIsPair C)) :
    FnG P w K mg base CX0 9 f fd ["_law_made", "_law_pairs"] (spTotalled C) := by
  refine F.okG scTotalled (fun vs H Q E h => ?_) (fun cdv A outer s H vs Q E gd hr h => ?_)
  · obtain ⟨lm, lp, rs, ts, ps, rfl, _⟩ := h
    rfl
  · obtain ⟨lm, lp, rs, ts, ps, rfl, hc, k⟩ := h
    have N := R.mo.pr.op.rm.rc
    obtain ⟨mc, pt, gt, cr, cm, G⟩ := R.tot
    refine ⟨_, pss_cons (ps_asg (pe_tup (pa_cons pe_int (pa_cons pe_int pa_nil))) (pg_tup rfl (pgs_cons (pg_name (i := 2) scTotalled.nd rfl (Or.inl rfl)) (pgs_cons (pg_name (i := 3) scTotalled.nd rfl (Or.inl rfl)) pgs_nil))))
      (pss_cons (ps_for PassesOwn.never rfl (pi_list (pe_slice sl_list (pv 1) (po_some (pe_un un_neg pe_int)) po_none)) (pg_name (i := 4) scTotalled.nd rfl (Or.inl rfl))
        (pss_one (ps_asg (pe_df DL (hr.mono (by decide)) (by rfl) (pa_cons (pe_op op_add (pe_op op_mulW (pv 2) (pe_ix ix_tup (pv 4) pe_int (fun _ _ => rfl))) (pe_op op_mulW (pe_ix ix_tup (pv 4) pe_int (fun _ _ => rfl)) (pv 3))) (pa_cons (pe_op op_mulW (pv 3) (pe_ix ix_tup (pv 4) pe_int (fun _ _ => rfl))) pa_nil)))
          (pg_tup rfl (pgs_cons (pg_name (i := 2) scTotalled.nd rfl (Or.inl rfl)) (pgs_cons (pg_name (i := 3) scTotalled.nd rfl (Or.inl rfl)) pgs_nil))))))
      (pss_cons (ps_set (i := 5) scTotalled.nd rfl (Or.inl rfl) (pe_op op_cat (pe_slice sl_list (pv 0) (po_some (pe_un un_neg pe_int)) po_none) (pe_lst (pa_cons pe_int (pa_cons pe_int pa_nil)))))
      (pss_one (ps_ret (pe_and (pe_dfG DP gd hr (by rfl) (pa_cons (ClX.pe_cmeth (E := E0) (pe_glob (v := .ref C) (by rfl) N.mgC rfl) cr cm G (hr.mono (by decide)) pass0 (pa_cons (pe_ix ix_list (pv 5) pe_int (fun _ _ => rfl)) (pa_cons (pe_ix ix_list (pv 5) pe_int (fun _ _ => rfl)) (pa_cons (pe_ix ix_list (pv 5) pe_int (fun _ _ => rfl)) pa_nil)))) (pa_cons (pe_tup (pa_cons (pv 2) (pa_cons (pv 3) pa_nil))) pa_nil)))
        (pe_one (pe_dfG DP gd hr (by rfl) (pa_cons (pe_cmeth0 (E := E0) (pe_glob (v := .ref C) (by rfl) N.mgC rfl) cr cm G (hr.mono (by decide)) pass0) (pa_cons (pe_tup (pa_cons pe_int (pa_cons pe_int pa_nil))) pa_nil))))))))), ?_⟩
    have hn3 : (ps.drop (ps.length - 3)).length ≤ 3 := by rw [List.length_drop]; omega
    generalize hqs : ps.drop (ps.length - 3) = qs at hn3
    have hqm : ∀ q ∈ qs, Bt 100 q ∧ Nrm q := fun q hq => by
      rw [← hqs] at hq
      have := hc.ok q (List.mem_of_mem_drop hq)
      exact ⟨this.2.mono (by decide), this.1⟩
    have hat : ∀ (i : Nat) (q : Int × Int), qs[i]? = some q → ∃ r t, (rs.drop (rs.length - 3))[i]? = some r ∧ (ts.drop (ts.length - 3))[i]? = some t ∧ RatAt C H r q ∧ PairAt H t q := fun i q hq => by
      rw [← hqs, List.getElem?_drop] at hq
      obtain ⟨r, t, h1, h2, h3, h4⟩ := hc.all _ q hq
      exact ⟨r, t, by rw [List.getElem?_drop, hc.len1]; exact h1, by rw [List.getElem?_drop, hc.len2]; exact h2, h3, h4⟩
    have hq0 : qs ≠ [] := fun e => by
      have z := congrArg List.length hqs
      rw [e, List.length_drop] at z
      have := List.length_pos_iff.mpr hc.ne
      simp at z
      omega
    have lt3 : (ts.drop (ts.length - 3)).length = qs.length := by rw [← hqs, List.length_drop, List.length_drop, hc.len2]
    have lr3 : (rs.drop (rs.length - 3)).length = qs.length := by rw [← hqs, List.length_drop, List.length_drop, hc.len1]
    refine ⟨(by show 2 ≤ sizeLine; decide), fun t0 ht0 => ?_⟩
    have s0 := sNew (o := .tup [V.int 0, V.int 1]) (Same.refl H) ht0
    refine ⟨t0, _, rfl, .inl (.inl upd_same), rfl, _, _, rfl, _, _, rfl, rfl, ?_⟩
    refine ⟨_, rfl, 3, rfl, -3, rfl, lp, _, rfl, SqL.of (s0 _ _ hc.pairs), fun l1 hl1 => ?_⟩
    rw [cut3, List.length_map, ← List.map_drop]
    generalize hts : ts.drop (ts.length - 3) = ts3 at lt3 hat
    generalize hrs : rs.drop (rs.length - 3) = rs3 at lr3 hat
    have s1 := sNew (o := .lst (ts3.map V.ref)) s0 hl1
    generalize hH1 : upd (upd H t0 _) l1 (HO.lst (ts3.map V.ref)) = H1 at s1 ⊢
    have hl1' : H1 l1 = some (.lst (ts3.map V.ref)) := by rw [← hH1]; exact upd_same
    refine ⟨l1, rfl, ⟨_, SqL.of hl1'⟩, for_it (walk_list (K := K) (a := l1) (xs := ts3.map V.ref)) (fun i σ H' => Same H1 H' ∧ ∃ v, σ = [some (.ref lm), some (.ref lp), some (.int (sumP (qs.take i)).1), some (.int (sumP (qs.take i)).2), v, none]) ⟨Same.refl H1, none, rfl⟩ (fun i σ H' _ h => h.1.seq (SqL.of hl1')) ?_ ?_⟩
    · rintro i y σ _ H' hi ⟨s2, v, rfl⟩ ⟨rfl, hy⟩
      have hi' : i < qs.length := by rw [List.length_map, lt3] at hi; exact hi
      obtain ⟨r, t, f1, f2, f3, f4⟩ := hat i qs[i] (List.getElem?_eq_getElem hi')
      obtain ⟨bq, nq⟩ := hqm _ (List.getElem_mem hi')
      have hq : qs[i]? = some qs[i] := List.getElem?_eq_getElem hi'
      generalize qs[i] = q at f3 f4 bq nq hq
      rw [List.getElem?_map, f2] at hy
      obtain rfl := Option.some.inj hy
      have s12 := Same.trans s1 s2
      obtain ⟨nS, bS⟩ := sumP_ok (qs.take i) fun z hz => hqm z (List.mem_of_mem_take hz)
      have bS4 : Bt 400 (sumP (qs.take i)) := bS.mono (by rw [List.length_take]; omega)
      have bq4 := bq.mono (show 100 ≤ 400 by decide)
      have hix : SqT K H' t [.int q.1, .int q.2] := .inl (.inl (f4.same s12))
      refine ⟨_, rfl, _, rfl, t, _, _, V.int q.2, rfl, rfl, hix, at_of (j := 1) rfl rfl, _, _, rfl, rfl, wmul bS4.1 bq4.2 (by decide), ?_⟩
      refine ⟨_, rfl, t, _, _, V.int q.1, rfl, rfl, hix, at_of (j := 0) rfl rfl, _, rfl, _, _, rfl, rfl, wmul bq4.1 bS4.2 (by decide), _, _, rfl, rfl, ?_⟩
      refine ⟨_, rfl, _, rfl, t, _, _, V.int q.2, rfl, rfl, hix, at_of (j := 1) rfl rfl, _, _, rfl, rfl, wmul bS4.2 bq4.2 (by decide), ?_⟩
      refine ⟨_, _, rfl, Int.mul_ne_zero nS.ne nq.ne, lt_mono (add_lt (mul_lt bS4.1 bq4.2) (mul_lt bq4.1 bS4.2)) (by decide), lt_mono (mul_lt bS4.2 bq4.2) (by decide), fun H3 u s3 hu3 hpu => ?_⟩
      refine ⟨u, _, rfl, .inl (.inl hpu), rfl, _, _, rfl, _, _, rfl, rfl, Same.trans s2 s3, some (.ref t), ?_⟩
      rw [List.take_add_one, hq, Option.toList_some, sumP_snoc]
      rfl
    · rintro σ H' ⟨s2, v, rfl⟩
      rw [List.length_map, lt3, List.take_of_length_le (Nat.le_refl _)]
      have s12 := Same.trans s1 s2
      refine ⟨_, rfl, 3, rfl, -3, rfl, lm, _, rfl, SqL.of (s12 _ _ hc.made), fun l2 hl2 => ?_⟩
      rw [cut3, List.length_map, ← List.map_drop, hrs]
      refine ⟨(by show 2 ≤ sizeLine; decide), fun l3 hl3 => ?_⟩
      refine ⟨l2, l3, rs3.map V.ref, [V.int 0, V.int 0], rfl, rfl, old upd_same hl3, upd_same, ?_, fun l4 hl4 => ?_⟩
      · rw [List.length_map, lr3]
        have sl : sizeLine = 16777216 := sizeLine_eq
        show _ + 2 ≤ _
        omega
      have s3 := sNew (o := .lst (rs3.map V.ref ++ [V.int 0, V.int 0])) (sNew (o := .lst [V.int 0, V.int 0]) (sNew (o := .lst (rs3.map V.ref)) s12 hl2) hl3) hl4
      generalize hH4 : upd (upd (upd H' l2 _) l3 _) l4 (HO.lst (rs3.map V.ref ++ [V.int 0, V.int 0])) = H4 at s3 ⊢
      have hl4' : H4 l4 = some (.lst (rs3.map V.ref ++ [V.int 0, V.int 0])) := by rw [← hH4]; exact upd_same
      obtain ⟨y0, y1, y2, ps3, e0, e1, e2, hN3, hl3', hm3, hs3⟩ := three (C := C) (H := H) hq0 hn3 lr3 (fun i q h => let ⟨r, _, h1, _, h3, _⟩ := hat i q h; ⟨r, h1, h3⟩) hqm
      have sqL4 : ∀ {H5 : Hp}, Same H4 H5 → SqL K H5 l4 (rs3.map V.ref ++ [V.int 0, V.int 0]) := fun s => SqL.of (s _ _ hl4')
      refine ⟨rfl, _, rfl, l4, _, _, y0, rfl, rfl, sqL4 (Same.refl H4), at_of (j := 0) rfl e0, _, rfl, l4, _, _, y1, rfl, rfl, sqL4 (Same.refl H4), at_of (j := 1) rfl e1, _, rfl, l4, _, _, y2, rfl, rfl, sqL4 (Same.refl H4), at_of (j := 2) rfl e2, ?_⟩
      refine ⟨[.ref C], [y0, y1, y2], rfl, rfl, (by show 3 ≤ sizeLine; decide), fun tp htp => ?_⟩
      have s5 := sNew (o := .tup [y0, y1, y2]) s3 htp
      refine ⟨tp, [y0, y1, y2], ps3, rfl, upd_same, ⟨hN3.1, fun i y hy => let ⟨p, h1, h2⟩ := hN3.2 i y hy; ⟨p, h1, h2.same s5⟩⟩, hl3', hm3, fun H6 r6 s6 hn6 hr6 => ?_⟩
      rw [hs3] at hr6
      obtain ⟨nS, bS⟩ := sumP_ok qs hqm
      refine ⟨_, rfl, _, rfl, (by show 2 ≤ sizeLine; decide), fun tq htq => ?_⟩
      have s7 := sNew (o := .tup [V.int (sumP qs).1, V.int (sumP qs).2]) (Same.refl H6) htq
      refine ⟨r6, tq, sumP qs, rfl, hr6.same s7, upd_same, bS.mono (by omega), fun H8 s8 => ?_⟩
      have s58 := Same.trans (Same.trans (Same.trans s5 s6) s7) s8
      refine ⟨true, rfl, iteT ?_⟩
      refine ⟨rfl, [.ref C], [], rfl, rfl, (by show 0 ≤ sizeLine; decide), fun tp2 htp2 => ?_⟩
      have s9 := sNew (o := .tup []) s58 htp2
      refine ⟨tp2, [], [], rfl, upd_same, ⟨rfl, fun i y hy => by simp at hy⟩, (by decide), (fun p hp => by cases hp), fun H10 r10 s10 hn10 hr10 => ?_⟩
      refine ⟨(by show 2 ≤ sizeLine; decide), fun tq2 htq2 => ?_⟩
      have s11 := sNew (o := .tup [V.int 0, V.int 1]) (Same.refl H10) htq2
      exact ⟨r10, tq2, (0, 1), rfl, hr10.same s11, upd_same, bt01.1.mono (by decide), fun H12 s12' => k H12 (Same.trans (Same.trans (Same.trans s9 s10) s11) s12')⟩
end
end S15

namespace S15
open PySem L2 RA
theorem sxPut {l x : Addr} {H H' : Hp} {o : HO} (a : SameX l H H') (hx : H x = none) : SameX l H (upd H' x o) := fun c p hc e => by
  rw [upd_ne (ne_of_none e hx)]
  exact a c p hc e
theorem Chain.notLst {C : Addr} {H : Hp} {a l : Addr} {p : Int × Int} {xs : List V} (r : RatAt C H a p) (e : H l = some (.lst xs)) : a ≠ l := fun z => by
  obtain ⟨dx, h⟩ := r
  rw [z, e] at h
  cases h
theorem Chain.notLst2 {H : Hp} {a l : Addr} {p : Int × Int} {xs : List V} (r : PairAt H a p) (e : H l = some (.lst xs)) : a ≠ l := fun z => by
  unfold PairAt at r
  rw [z, e] at r
  cases r
/-- one more of each -/
theorem Chain.more {C : Addr} {H : Hp} {lm lp r t : Addr} {rs ts : List Addr} {ps : List (Int × Int)} {d : Int × Int} (c : Chain C H lm lp rs ts ps) (ne : lm ≠ lp) (hr : RatAt C H r d) (ht : PairAt H t d) (nd : Nrm d) (bd : Bt 90 d) (few : ps.length < 20) :
    Chain C (upd (upd H lp (.lst (ts.map V.ref ++ [.ref t]))) lm (.lst (rs.map V.ref ++ [.ref r]))) lm lp (rs ++ [r]) (ts ++ [t]) (ps ++ [d]) := by
  have kr : ∀ {a : Addr} {p : Int × Int}, RatAt C H a p → RatAt C (upd (upd H lp (.lst (ts.map V.ref ++ [.ref t]))) lm (.lst (rs.map V.ref ++ [.ref r]))) a p := fun {a p} h => by
    have h1 := Chain.notLst h c.made
    have h2 := Chain.notLst h c.pairs
    obtain ⟨dx, e⟩ := h
    exact ⟨dx, by rw [upd_ne h1, upd_ne h2]; exact e⟩
  have kt : ∀ {a : Addr} {p : Int × Int}, PairAt H a p → PairAt (upd (upd H lp (.lst (ts.map V.ref ++ [.ref t]))) lm (.lst (rs.map V.ref ++ [.ref r]))) a p := fun {a p} h => by
    have h1 := Chain.notLst2 h c.made
    have h2 := Chain.notLst2 h c.pairs
    unfold PairAt at h ⊢
    rw [upd_ne h1, upd_ne h2]
    exact h
  refine ⟨by rw [upd_same, List.map_append]; rfl, by rw [upd_ne ne.symm, upd_same, List.map_append]; rfl, by rw [List.length_append, List.length_append, c.len1]; rfl, by rw [List.length_append, List.length_append, c.len2]; rfl, fun i p h => ?_, fun p hp => ?_, by simp, by rw [List.length_append]; exact few⟩
  · by_cases hi : i < ps.length
    · rw [List.getElem?_append_left hi] at h
      obtain ⟨r', t', h1, h2, h3, h4⟩ := c.all i p h
      exact ⟨r', t', by rw [List.getElem?_append_left (by rw [c.len1]; exact hi)]; exact h1, by rw [List.getElem?_append_left (by rw [c.len2]; exact hi)]; exact h2, kr h3, kt h4⟩
    · have hl := (List.getElem?_eq_some_iff.mp h).1
      rw [List.length_append, List.length_singleton] at hl
      have e : i = ps.length := by omega
      subst e
      rw [List.getElem?_concat_length] at h
      obtain rfl := Option.some.inj h
      exact ⟨r, t, by rw [← c.len1, List.getElem?_concat_length], by rw [← c.len2, List.getElem?_concat_length], kr hr, kt ht⟩
  · rcases List.mem_append.mp hp with h | h
    · exact c.ok p h
    · rw [List.mem_singleton.mp h]
      exact ⟨nd, bd⟩
theorem Chain.one {C : Addr} {H : Hp} {lm lp r t : Addr} {d : Int × Int} (h1 : H lm = some (.lst [.ref r])) (h2 : H lp = some (.lst [.ref t])) (hr : RatAt C H r d) (ht : PairAt H t d) (nd : Nrm d) (bd : Bt 90 d) : Chain C H lm lp [r] [t] [d] :=
  ⟨h1, h2, rfl, rfl, fun i p h => by
    match i, h with
    | 0, h =>
      obtain rfl := Option.some.inj h
      exact ⟨r, t, rfl, rfl, hr, ht⟩
    | n + 1, h => simp at h, fun p hp => by rw [List.mem_singleton.mp hp]; exact ⟨nd, bd⟩, by simp, by show 1 ≤ 20; decide⟩
theorem Chain.last {C : Addr} {H : Hp} {lm lp : Addr} {rs ts : List Addr} {ps : List (Int × Int)} (c : Chain C H lm lp rs ts ps) : ∃ r t p, atI (rs.map V.ref) (-1) = some (V.ref r) ∧ atI (ts.map V.ref) (-1) = some (V.ref t) ∧ RatAt C H r p ∧ PairAt H t p ∧ Nrm p ∧ Bt 90 p := by
  have hpos : 0 < ps.length := List.length_pos_iff.mpr c.ne
  have hlt : ps.length - 1 < ps.length := by omega
  obtain ⟨r, t, g1, g2, g3, g4⟩ := c.all (ps.length - 1) ps[ps.length - 1] (List.getElem?_eq_getElem hlt)
  have okp := c.ok _ (List.getElem_mem hlt)
  rw [← c.len1] at g1
  rw [← c.len2] at g2
  exact ⟨r, t, _, at_last g1, at_last g2, g3, g4, okp.1, okp.2⟩
theorem small25 {d : Int × Int} (hn : Nrm d) (h : ¬ ((if d.2 > (if d.1 < 0 then -d.1 else d.1) then d.2 else (if d.1 < 0 then -d.1 else d.1)) > (10 : Int) ^ (25 : Nat))) : Bt 90 d := by
  have e : (10 : Int) ^ (25 : Nat) = 10000000000000000000000000 := by decide
  have e2 : (2 : Nat) ^ 90 = 1237940039285380274899124224 := by decide
  have h1 := hn.1
  rw [e] at h
  unfold Bt
  rw [e2]
  by_cases h2 : d.1 < 0
  · rw [if_pos h2] at h
    by_cases h3 : d.2 > -d.1
    · rw [if_pos h3] at h; omega
    · rw [if_neg h3] at h; omega
  · rw [if_neg h2] at h
    by_cases h3 : d.2 > d.1
    · rw [if_pos h3] at h; omega
    · rw [if_neg h3] at h; omega
section
variable {P : Program} {w : World} {K : PySem.W.Frag} {mg : Str → Option Value} {base : Heap}
/-! ### _law_right -/
def spRight : Sp := fun vs H Q _ => ∃ l : Addr, vs = [.ref l] ∧ PotAt H l ∧ ∀ H' : Hp, SameX l H H' → PotAt H' l → Q (.bl true) H'
abbrev nRight : List Str := ["_law_pot_here", "_law_pairs", "_law_made", "_law_turn", "_law_right_here", "_law_other", "_law_before", "_law_found", "_law_due", "_law_one", "_law_pair"]
theorem scRight : FnScope nRight ["_law_pot_here"] (defScope sRight) := ⟨rfl, rfl, rfl, by decide +kernel, rfl, by decide +kernel, by decide +kernel⟩
theorem ok_right {f C : Addr} {fd : FuncData} (F : Fun K "_law_right" "_law_right" sRight f fd) (T : Bn mg) (R : RTot P w K mg base C) (DD : Df P w K mg base "_law_draw" ["_law_pot_here", "_law_many"] 1 spDraw) (DF : Df P w K mg base "_law_fresh" ["_law_pot_here"] 4 spFresh)
    (DO : Df P w K mg base "_law_right_one" ["_law_pot_here", "_law_pairs", "_law_made"] 5 (spRightOne C)) (DN : DfG P w K mg base "_law_done" ["_law_pot_here", "_law_one", "_law_pair", "_law_right_here", "_law_other"] 7 (spDone C))
    (DP : DfG P w K mg base "_law_is_pair" ["_law_one", "_law_pair"] 8 (spIsPair C)) (DC : DfG P w K mg base "_law_compared" ["_law_made", "_law_pairs"] 8 (spCompared C)) (DT : DfG P w K mg base "_law_totalled" ["_law_made", "_law_pairs"] 9 (spTotalled C)) :
    FnG P w K mg base CX0 10 f fd ["_law_pot_here"] spRight := by
  refine F.okG scRight (fun vs H Q E h => ?_) (fun cdv A outer s H vs Q E gd hr h => ?_)
  · obtain ⟨l, rfl, _⟩ := h
    rfl
  · obtain ⟨l, rfl, hp, k⟩ := h
    have M := R.mo.pr.op.rm
    have N := M.rc
    have L1 : ∀ {X : Cx}, True := fun {_} => trivial
    refine ⟨_, pss_cons (ps_set (i := 1) scRight.nd rfl (Or.inl rfl) (pe_lst (pa_cons (pe_df DF (hr.mono (by decide)) (by rfl) (pa_cons (pv 0) pa_nil)) pa_nil)))
      (pss_cons (ps_set (i := 2) scRight.nd rfl (Or.inl rfl) (pe_lst (pa_cons (pe_rat2 M (hr.mono (by decide)) (by rfl) (pa_cons (pe_ix ix_tup (pe_ix ix_list (pv 1) pe_int (fun _ _ => rfl)) pe_int (fun _ _ => rfl)) (pa_cons (pe_ix ix_tup (pe_ix ix_list (pv 1) pe_int (fun _ _ => rfl)) pe_int (fun _ _ => rfl)) pa_nil))) pa_nil)))
      (pss_cons (ps_for PassesOwn.never rfl (pi_range1 (by rfl) T.range (pa_cons (pe_op op_add pe_int (pe_df DD (hr.mono (by decide)) (by rfl) (pa_cons (pv 0) (pa_cons pe_int pa_nil)))) pa_nil)) (pg_name (i := 3) scRight.nd rfl (Or.inl rfl))
        (pss_cons (ps_asg (pe_df DO (hr.mono (by decide)) (by rfl) (pa_cons (pv 0) (pa_cons (pv 1) (pa_cons (pv 2) pa_nil)))) (pg_tup rfl (pgs_cons (pg_name (i := 4) scRight.nd rfl (Or.inl rfl)) (pgs_cons (pg_name (i := 5) scRight.nd rfl (Or.inl rfl)) pgs_nil))))
        (pss_cons (ps_set (i := 6) scRight.nd rfl (Or.inl rfl) (pe_callB (call_rpair R.mo.pr.op gd (hr.mono (by decide))) (by rfl) T.repr (by decide +kernel) (pa_cons (pe_lst (pa_cons (pv 4) (pa_cons (pe_ix ix_list (pv 2) (pe_un un_neg pe_int) (fun _ _ => rfl)) pa_nil))) pa_nil)))
        (pss_cons (ps_asg (pe_dfG DN gd (hr.mono (by decide)) (by rfl) (pa_cons (pv 0) (pa_cons (pe_ix ix_list (pv 2) (pe_un un_neg pe_int) (fun _ _ => rfl)) (pa_cons (pe_ix ix_list (pv 1) (pe_un un_neg pe_int) (fun _ _ => rfl)) (pa_cons (pv 4) (pa_cons (pv 5) pa_nil)))))) (pg_tup rfl (pgs_cons (pg_name (i := 7) scRight.nd rfl (Or.inl rfl)) (pgs_cons (pg_name (i := 8) scRight.nd rfl (Or.inl rfl)) pgs_nil))))
        (pss_cons (ps_if (pt_cmpR op_ne (pe_callB (call_rpair R.mo.pr.op gd (hr.mono (by decide))) (by rfl) T.repr (by decide +kernel) (pa_cons (pe_lst (pa_cons (pv 4) (pa_cons (pe_ix ix_list (pv 2) (pe_un un_neg pe_int) (fun _ _ => rfl)) pa_nil))) pa_nil)) (pv 6) (nomark _)) (pss_one ps_never) pss_nil)
        (pss_cons (ps_if (pt_cmpR op_isN (pv 8) pe_non (nomark _)) (pss_one (ps_if (pt_cmpR op_notN (pv 7) pe_non (nomark _)) (pss_one ps_never) pss_nil))
          (pss_cons (ps_if (pt_not (pt_val (pe_dfG DP gd (hr.mono (by decide)) (by rfl) (pa_cons (pv 7) (pa_cons (pv 8) pa_nil))))) (pss_one ps_never) pss_nil)
          (pss_cons (ps_if (pt_cmpR op_gt (pe_callB (call_max2 rfl) (by rfl) T.max (by decide +kernel) (pa_cons (pe_callB call_abs (by rfl) T.abs (by decide +kernel) (pa_cons (pe_ix ix_tup (pv 8) pe_int (fun _ _ => rfl)) pa_nil)) (pa_cons (pe_ix ix_tup (pv 8) pe_int (fun _ _ => rfl)) pa_nil))) (pe_op op_pow pe_int pe_int) (nomark _))
            (pss_cons (ps_set (i := 8) scRight.nd rfl (Or.inl rfl) (pe_df DF (hr.mono (by decide)) (by rfl) (pa_cons (pv 0) pa_nil)))
            (pss_one (ps_set (i := 7) scRight.nd rfl (Or.inl rfl) (pe_rat2 M (hr.mono (by decide)) (by rfl) (pa_cons (pe_un un_neg (pe_ix ix_tup (pv 8) pe_int (fun _ _ => rfl))) (pa_cons (pe_un un_neg (pe_ix ix_tup (pv 8) pe_int (fun _ _ => rfl))) pa_nil)))))) pss_nil)
          (pss_cons (ps_expr (pe_bm PySem.F.plainAttrs_list PySem.F.slot_list_append PySem.F.type_list_append mt_append (pv 1) (pa_cons (pv 8) pa_nil)))
          (pss_one (ps_expr (pe_bm PySem.F.plainAttrs_list PySem.F.slot_list_append PySem.F.type_list_append mt_append (pv 2) (pa_cons (pv 7) pa_nil))))))))
        (pss_one (ps_if (PW.pt (pw_or (pt_not (pt_val (pe_dfG DC gd (hr.mono (by decide)) (by rfl) (pa_cons (pv 2) (pa_cons (pv 1) pa_nil))))) (pw_or1 (pt_not (pt_val (pe_dfG DT gd hr (by rfl) (pa_cons (pv 2) (pa_cons (pv 1) pa_nil)))))))) (pss_one ps_never) pss_nil))))))))
      (pss_one (ps_ret (pe_callB (cr_all rfl) (by rfl) T.all (by decide +kernel) (pa_cons (pe_lc (own := [("_law_one", 9), ("_law_pair", 10)]) (g := gTup K 2 (gCons (gName 9) (gCons (gName 10) gNil))) (tt := tYes) (te := tCall (spIsPair C) [] E0 (tCons (tVar 9) (tCons (tVar 10) tNil))) (by rfl) scRight.nd (pi_zip (by rfl) T.zip (pa_cons (pv 2) (pa_cons (pv 1) pa_nil)))
        (blkOk_by (own := [("_law_one", 9), ("_law_pair", 10)]) (N := nRight) (sc := defScope sRight) (by decide +kernel))
        (fun _ _ _ _ _ => pg_tup rfl (pgs_cons (pg_name (i := 9) scRight.nd rfl (Or.inl rfl)) (pgs_cons (pg_name (i := 10) scRight.nd rfl (Or.inl rfl)) pgs_nil))) (fun _ _ _ _ _ => pts_nil) (fun _ _ _ _ _ => pe_dfG DP gd (hr.mono (by decide)) (by rfl) (pa_cons (pv 9) (pa_cons (pv 10) pa_nil)))) pa_nil)))))), ?_⟩
    refine ⟨_, rfl, l, rfl, hp, fun H1 t0 p0 sx1 hp1 hf1 ht1 n1 b1 => ?_⟩
    refine ⟨(by show 1 ≤ sizeLine; decide), fun lp hlp => ?_⟩
    have s2 := sNew (o := .lst [V.ref t0]) (Same.refl H1) hlp
    generalize hH2 : upd H1 lp (HO.lst [V.ref t0]) = H2 at s2 ⊢
    have hlp2 : H2 lp = some (.lst [V.ref t0]) := by rw [← hH2]; exact upd_same
    have ht2 := ht1.same s2
    refine ⟨_, rfl, lp, _, _, V.ref t0, rfl, rfl, SqL.of hlp2, at_of (j := 0) rfl rfl, t0, _, _, V.int p0.1, rfl, rfl, .inl (.inl ht2), at_of (j := 0) rfl rfl, ?_⟩
    refine ⟨_, rfl, lp, _, _, V.ref t0, rfl, rfl, SqL.of hlp2, at_of (j := 0) rfl rfl, t0, _, _, V.int p0.2, rfl, rfl, .inl (.inl ht2), at_of (j := 1) rfl rfl, ?_⟩
    refine fun r0 dx hx hdx ne => ⟨r0, dx, p0.1, p0.2, rfl, upd_same, n1.ne, lt_mono b1.1 (by decide), lt_mono b1.2 (by decide), fun H3 sx3 hx3 => ⟨rfl, ?_⟩⟩
    have s3 := mk_same sx3 hx hdx
    have hr3 : RatAt C H3 r0 p0 := by
      rw [nf_of n1] at hx3
      exact ⟨dx, hx3⟩
    refine ⟨(by show 1 ≤ sizeLine; decide), fun lm hlm => ?_⟩
    have s4 := sNew (o := .lst [V.ref r0]) (Same.refl H3) hlm
    generalize hH4 : upd H3 lm (HO.lst [V.ref r0]) = H4 at s4 ⊢
    have hlm4 : H4 lm = some (.lst [V.ref r0]) := by rw [← hH4]; exact upd_same
    have s24 := Same.trans s3 s4
    have c4 : Chain C H4 lm lp [r0] [t0] [p0] := Chain.one hlm4 (s24 _ _ hlp2) (hr3.same s4) (ht2.same s24) n1 (b1.mono (by decide))
    have s14 := Same.trans s2 s24
    have nml : lm ≠ lp := fun z => by
      have h2 := s3 _ _ hlp2
      rw [z, h2] at hlm
      cases hlm
    have hlpl : lp ≠ l := fun z => by
      obtain ⟨x, y, e1, _⟩ := hp1
      rw [z, e1] at hlp
      cases hlp
    have hlml : lm ≠ l := fun z => by
      obtain ⟨x, y, e1, _⟩ := hp1.same (Same.trans s2 s3)
      rw [z, e1] at hlm
      cases hlm
    have hlpH : H lp = none := sx1.free hlpl hlp
    have hlmH : H lm = none := (SameX.same sx1 (Same.trans s2 s3)).free hlml hlm
    have sx4 : SameX l H H4 := SameX.same sx1 s14
    have hp4 := hp1.same s14
    clear hlm4 hH4 hr3 hx3 sx3 hlp2 hH2 ht2 s2 s3 s4 s24 s14 hx hdx ne hlm hlp ht1 hf1 sx1
    refine ⟨_, rfl, l, 13, rfl, hp4, by decide, by decide, fun H5 d sx5 hp5 d0 d1 => ?_⟩
    have c5 := c4.sameX hp4 sx5
    have sxx5 := SameX.trans sx4 sx5
    refine ⟨_, _, rfl, rfl, 4 + d, rfl, by omega, by omega, for_it (walk_range (lo := 0) (n := (4 + d).toNat)) (fun i σ H' => (∃ rs ts ps, Chain C H' lm lp rs ts ps ∧ ps.length ≤ i + 1) ∧ PotAt H' l ∧ SameX l H H' ∧ ∃ v3 v4 v5 v6 v7 v8, σ = [some (.ref l), some (.ref lp), some (.ref lm), v3, v4, v5, v6, v7, v8, none, none]) ⟨⟨_, _, _, c5, Nat.le_refl _⟩, hp5, sxx5, none, none, none, none, none, none, rfl⟩ (fun _ _ _ _ _ => trivial) ?_ ?_⟩
    · rintro i x σ _ Ha hi ⟨⟨rs, ts, ps, ca, hfew⟩, hpa, sxa, v3, v4, v5, v6, v7, v8, rfl⟩ ⟨rfl, rfl⟩
      have hps : ps.length < 20 := by omega
      have hrl : ∀ n, n ≤ 30 → n < sizeLine := fun n h => by
        have sl : sizeLine = 16777216 := sizeLine_eq
        omega
      refine ⟨_, rfl, _, rfl, _, rfl, l, lp, lm, rs, ts, ps, rfl, hpa, ca, fun Hb u y t q sxb hpb hu hy hq nq bq => ?_⟩
      have cb := ca.sameX hpa sxb
      have sxb' := SameX.trans sxa sxb
      refine ⟨u, _, rfl, .inl (.inl hu), rfl, _, _, rfl, _, _, rfl, rfl, ?_⟩
      obtain ⟨r, tt, p, e1, e2, hr1, ht1, np, bp⟩ := cb.last
      have bp19 := bp.mono (show 90 ≤ 1900 by decide)
      have bq19 := bq.mono (show 90 ≤ 1900 by decide)
      refine ⟨_, rfl, _, rfl, _, rfl, lm, _, _, V.ref r, rfl, rfl, SqL.of cb.made, e1, (by show 2 ≤ sizeLine; decide), fun lb hlb => ?_⟩
      have sb1 := sNew (o := .lst [y, V.ref r]) (Same.refl Hb) hlb
      refine ⟨lb, r, y, q, p, rfl, upd_same, hy.same sb1, hr1.same sb1, bq19, bp19, fun Hc sc => ?_⟩
      have sbc := Same.trans sb1 sc
      have cc := cb.same sbc
      have hpc := hpb.same sbc
      refine ⟨_, rfl, _, rfl, _, rfl, lm, _, _, V.ref r, rfl, rfl, SqL.of cc.made, e1, _, rfl, _, rfl, lp, _, _, V.ref tt, rfl, rfl, SqL.of cc.pairs, e2, _, rfl, _, rfl, ?_⟩
      refine ⟨l, r, tt, t, y, p, q, rfl, hpc, hr1.same sbc, ht1.same sbc, hy.same sbc, hq.same sbc, np, nq, bp, bq, fun Hd u2 sxd hpd fnd => ?_⟩
      have cd := cc.sameX hpc sxd
      have hyd := (hy.same sbc).sameX hpc sxd
      have hrd := (hr1.same sbc).sameX hpc sxd
      have sxd' : SameX l H Hd := SameX.trans (SameX.same sxb' sbc) sxd
      rcases fnd with ⟨r', t', dd, hu2, hr', ht', nd, bd⟩ | hu2
      · refine ⟨u2, _, rfl, .inl (.inl hu2), rfl, _, _, rfl, _, _, rfl, rfl, ?_⟩
        refine ⟨_, rfl, _, rfl, _, rfl, lm, _, _, V.ref r, rfl, rfl, SqL.of cd.made, e1, (by show 2 ≤ sizeLine; decide), fun lb2 hlb2 => ?_⟩
        have sd1 := sNew (o := .lst [y, V.ref r]) (Same.refl Hd) hlb2
        refine ⟨lb2, r, y, q, p, rfl, upd_same, hyd.same sd1, hrd.same sd1, bq19, bp19, fun He se => ?_⟩
        refine ⟨_, rfl, rfl, _, rfl, iteFx (by rw [Bool.not_eq_false']; exact decide_eq_true rfl) ?_⟩
        have sde := Same.trans sd1 se
        refine ⟨_, rfl, rfl, _, rfl, iteFx (decide_eq_false (by intro z; cases z)) ?_⟩
        refine ⟨_, rfl, _, rfl, r', t', dd, rfl, hr'.same sde, ht'.same sde, bd.mono (by decide), fun Hf sf => ⟨true, rfl, iteF ?_⟩⟩
        have sdf := Same.trans sde sf
        have htf := ht'.same sdf
        have cf := cd.same sdf
        have hpf := hpd.same sdf
        have sxf := SameX.same sxd' sdf
        refine ⟨_, rfl, t', _, _, V.int dd.1, rfl, rfl, .inl (.inl htf), at_of (j := 0) rfl rfl, dd.1, rfl, _, rfl, t', _, _, V.int dd.2, rfl, rfl, .inl (.inl htf), at_of (j := 1) rfl rfl, _, _, rfl, ?_⟩
        refine ⟨_, _, rfl, rfl, ⟨by decide, by decide, by decide⟩, _, _, rfl, rfl, _, rfl, ?_⟩
        by_cases big : (if dd.2 > (if dd.1 < 0 then -dd.1 else dd.1) then dd.2 else (if dd.1 < 0 then -dd.1 else dd.1)) > (10 : Int) ^ (25 : Int).toNat
        · rw [decide_eq_true big]
          refine iteT ?_
          refine ⟨_, rfl, l, rfl, hpf, fun Hg tg pg sxg hpg hfg htg ng bg => ?_⟩
          refine ⟨_, rfl, tg, _, _, V.int pg.1, rfl, rfl, .inl (.inl htg), at_of (j := 0) rfl rfl, _, rfl, _, rfl, tg, _, _, V.int pg.2, rfl, rfl, .inl (.inl htg), at_of (j := 1) rfl rfl, _, rfl, ?_⟩
          refine fun rg dx hx hdx ne => ⟨rg, dx, -pg.1, -pg.2, rfl, upd_same, fun z => ng.ne (Int.neg_eq_zero.mp z), by rw [Int.natAbs_neg]; exact lt_mono bg.1 (by decide), by rw [Int.natAbs_neg]; exact lt_mono bg.2 (by decide), fun Hh sxh hxh => ⟨rfl, ?_⟩⟩
          have sgh := mk_same sxh hx hdx
          have hrh : RatAt C Hh rg pg := by
            rw [nf_negneg ng] at hxh
            exact ⟨dx, hxh⟩
          have ch := (cf.sameX hpf sxg).same sgh
          have hph := hpg.same sgh
          have sxh' := SameX.same (SameX.trans sxf sxg) sgh
          refine ⟨_, rfl, .inl ⟨rfl, _, SqL.of ch.pairs⟩, _, rfl, lp, _, V.ref tg, rfl, rfl, ch.pairs, hrl _ (by rw [List.length_map, ch.len2]; omega), ?_⟩
          refine ⟨_, rfl, .inl ⟨rfl, _, SqL.of (by rw [upd_ne nml]; exact ch.made)⟩, _, rfl, lm, _, V.ref rg, rfl, rfl, (by rw [upd_ne nml]; exact ch.made), hrl _ (by rw [List.length_map, ch.len1]; omega), ?_⟩
          have cz := ch.more nml hrh (htg.same sgh) ng (bg.mono (by decide)) hps
          have sxz := sxPut (o := .lst (rs.map V.ref ++ [V.ref rg])) (sxPut (o := .lst (ts.map V.ref ++ [V.ref tg])) sxh' hlpH) hlmH
          have hpz : PotAt (upd (upd Hh lp (.lst (ts.map V.ref ++ [V.ref tg]))) lm (.lst (rs.map V.ref ++ [V.ref rg]))) l := by
            obtain ⟨a, b, e, k'⟩ := hph
            exact ⟨a, b, by rw [upd_ne hlml.symm, upd_ne hlpl.symm]; exact e, k'⟩
          refine ⟨_, rfl, _, rfl, lm, lp, _, _, _, rfl, cz, fun Hy sy => ⟨true, rfl, iteF ?_⟩⟩
          refine ⟨_, rfl, _, rfl, lm, lp, _, _, _, rfl, cz.same sy, fun Hx sx => ⟨true, rfl, iteF ?_⟩⟩
          have syx := Same.trans sy sx
          exact ⟨⟨_, _, _, cz.same syx, by rw [List.length_append]; show ps.length + 1 ≤ _; omega⟩, hpz.same syx, SameX.same sxz syx, _, _, _, _, _, _, rfl⟩
        · rw [decide_eq_false big]
          refine iteF ?_
          have bd90 := small25 nd big
          refine ⟨_, rfl, .inl ⟨rfl, _, SqL.of cf.pairs⟩, _, rfl, lp, _, V.ref t', rfl, rfl, cf.pairs, hrl _ (by rw [List.length_map, cf.len2]; omega), ?_⟩
          refine ⟨_, rfl, .inl ⟨rfl, _, SqL.of (by rw [upd_ne nml]; exact cf.made)⟩, _, rfl, lm, _, V.ref r', rfl, rfl, (by rw [upd_ne nml]; exact cf.made), hrl _ (by rw [List.length_map, cf.len1]; omega), ?_⟩
          have cz := cf.more nml (hr'.same sdf) htf nd bd90 hps
          have sxz := sxPut (o := .lst (rs.map V.ref ++ [V.ref r'])) (sxPut (o := .lst (ts.map V.ref ++ [V.ref t'])) sxf hlpH) hlmH
          have hpz : PotAt (upd (upd Hf lp (.lst (ts.map V.ref ++ [V.ref t']))) lm (.lst (rs.map V.ref ++ [V.ref r']))) l := by
            obtain ⟨a, b, e, k'⟩ := hpf
            exact ⟨a, b, by rw [upd_ne hlml.symm, upd_ne hlpl.symm]; exact e, k'⟩
          refine ⟨_, rfl, _, rfl, lm, lp, _, _, _, rfl, cz, fun Hy sy => ⟨true, rfl, iteF ?_⟩⟩
          refine ⟨_, rfl, _, rfl, lm, lp, _, _, _, rfl, cz.same sy, fun Hx sx => ⟨true, rfl, iteF ?_⟩⟩
          have syx := Same.trans sy sx
          exact ⟨⟨_, _, _, cz.same syx, by rw [List.length_append]; show ps.length + 1 ≤ _; omega⟩, hpz.same syx, SameX.same sxz syx, _, _, _, _, _, _, rfl⟩
      · refine ⟨u2, _, rfl, .inl (.inl hu2), rfl, _, _, rfl, _, _, rfl, rfl, ?_⟩
        refine ⟨_, rfl, _, rfl, _, rfl, lm, _, _, V.ref r, rfl, rfl, SqL.of cd.made, e1, (by show 2 ≤ sizeLine; decide), fun lb2 hlb2 => ?_⟩
        have sd1 := sNew (o := .lst [y, V.ref r]) (Same.refl Hd) hlb2
        refine ⟨lb2, r, y, q, p, rfl, upd_same, hyd.same sd1, hrd.same sd1, bq19, bp19, fun He se => ?_⟩
        refine ⟨_, rfl, rfl, _, rfl, iteFx (by rw [Bool.not_eq_false']; exact decide_eq_true rfl) ?_⟩
        have sde := Same.trans sd1 se
        refine ⟨_, rfl, rfl, _, rfl, iteT ?_⟩
        refine ⟨_, rfl, rfl, _, rfl, iteF ?_⟩
        have ce := cd.same sde
        refine ⟨_, rfl, _, rfl, lm, lp, _, _, _, rfl, ce, fun Hy sy => ⟨true, rfl, iteF ?_⟩⟩
        refine ⟨_, rfl, _, rfl, lm, lp, _, _, _, rfl, ce.same sy, fun Hx sx => ⟨true, rfl, iteF ?_⟩⟩
        have syx := Same.trans sde (Same.trans sy sx)
        exact ⟨⟨_, _, _, cd.same syx, by omega⟩, hpd.same syx, SameX.same sxd' syx, _, _, _, _, _, _, rfl⟩
    · rintro σ Ha ⟨⟨rs, ts, ps, ca, hfew⟩, hpa, sxa, v3, v4, v5, v6, v7, v8, rfl⟩
      refine ⟨_, rfl, _, rfl, lm, lp, _, _, rfl, SqL.of ca.made, SqL.of ca.pairs, fun D hD => ?_⟩
      have hDH : ∀ c, Ha c ≠ none → c ≠ D := fun c h z => h (z ▸ hD)
      refine lc_it (walk_zip (K := K) (a := lm) (b := lp) (xs := rs.map V.ref) (ys := ts.map V.ref) (n := ps.length) (by rw [List.length_map, List.length_map, ca.len1, ca.len2]; omega)) (fun i H' => Same Ha H' ∧ H' D = some (.lst ((List.replicate i true).map V.bl))) ⟨sNew (Same.refl Ha) hD, upd_same⟩ (fun _ _ _ h => ⟨h.1.seq (SqL.of ca.made), h.1.seq (SqL.of ca.pairs)⟩) ?_ ?_
      · rintro i x H' _ hi ⟨s1, hw⟩ ⟨TT, x1, y1, rfl, hTT, rfl, hx, hy⟩
        obtain ⟨ri, ti, f1, f2, f3, f4⟩ := ca.all i ps[i] (List.getElem?_eq_getElem hi)
        obtain ⟨nq, bq⟩ := ca.ok _ (List.getElem_mem hi)
        generalize ps[i] = q at f3 f4 nq bq
        simp only [List.getElem?_map, f1, f2, Option.map_some, Option.some.injEq] at hx hy
        subst hx hy
        have s2 := sNew (o := .tup [V.ref ri, V.ref ti]) s1 hTT
        refine ⟨TT, _, rfl, .inl (.inl upd_same), rfl, _, _, rfl, _, _, rfl, rfl, ?_⟩
        refine ⟨rfl, _, rfl, _, rfl, ri, ti, q, rfl, f3.same s2, f4.same s2, bq.mono (by decide), fun H3 s3 => ?_⟩
        refine ⟨_, s3 _ _ (old hw hTT), ?_, sPut (Same.trans s2 s3) hD, ?_⟩
        · have sl : sizeLine = 16777216 := sizeLine_eq
          have := ca.few
          rw [List.length_map, List.length_replicate]
          omega
        · rw [upd_same, List.replicate_succ', List.map_append]; rfl
      · rintro H1 ⟨s1, hw⟩
        refine ⟨D, _, rfl, SqL.of hw, ?_⟩
        have e : (List.replicate ps.length true).all id = true := by simp
        rw [e]
        exact k H1 (SameX.same sxa s1) (hpa.same s1)
end
end S15

namespace S15
open PySem L2 RA
section
variable {P : Program} {w : World} {K : PySem.W.Frag} {mg : Str → Option Value} {base : Heap}
/-! ### law -/
def spLaw (K : PySem.W.Frag) : Sp := fun vs H Q _ => ∃ (a : Addr) (ns : List Int), vs = [.ref a] ∧ SqL K H a (ns.map V.int) ∧ ns.length ≤ 63 ∧ ∀ H', Q (.bl true) H'
abbrev nLaw : List Str := ["_law_script", "_law_k"]
theorem scLaw : FnScope nLaw ["_law_script"] (defScope sLaw) := ⟨rfl, rfl, rfl, by decide +kernel, rfl, by decide +kernel, by decide +kernel⟩
def teLaw (K : PySem.W.Frag) : TE := tCall spRight [] E0 (tCons (tCall (spPot K) [] E0 (tCons (tVar 0) (tCons (tVar 1) tNil))) tNil)
theorem ok_law {f : Addr} {fd : FuncData} (F : Fun K "law" "law" sLaw f fd) (T : Bn mg) (DP : Df P w K mg base "_law_pot" ["_law_script", "_law_k"] 1 (spPot K)) (DR : DfG P w K mg base "_law_right" ["_law_pot_here"] 10 spRight) : FnG P w K mg base CX0 11 f fd ["_law_script"] (spLaw K) := by
  refine F.okG scLaw (fun vs H Q E h => ?_) (fun cdv A outer s H vs Q E gd hr h => ?_)
  · obtain ⟨a, ns, rfl, _⟩ := h
    rfl
  · obtain ⟨a, ns, rfl, ha, hlen, q⟩ := h
    have h1 : Room 1 _ := hr.mono (by decide)
    refine ⟨_, pss_one (ps_ret (pe_callB (cr_all rfl) (by rfl) T.all (by decide +kernel) (pa_cons (pe_lc (own := [("_law_k", 1)]) (g := gName 1) (tt := tYes) (te := teLaw K) (by rfl) scLaw.nd
        (pi_range1 (by rfl) T.range (pa_cons (pe_callB (call_max2 rfl) (by rfl) T.max (by decide +kernel) (pa_cons pe_int (pa_cons (pe_callB (call_min2 rfl) (by rfl) T.min (by decide +kernel) (pa_cons (pe_callB call_len_seq (by rfl) T.len PySem.boot_len (pa_cons (pv 0) pa_nil)) (pa_cons pe_int pa_nil))) pa_nil))) pa_nil))
        (blkOk_by (own := [("_law_k", 1)]) (N := nLaw) (sc := defScope sLaw) (by decide +kernel))
        (fun _ _ _ _ _ => pg_name (i := 1) scLaw.nd rfl (Or.inl rfl)) (fun _ _ _ _ _ => pts_nil)
        (fun _ _ _ _ _ => pe_dfG DR gd hr (by rfl) (pa_cons (pe_df DP h1 (by rfl) (pa_cons (pv 0) (pa_cons (pv 1) pa_nil))) pa_nil))) pa_nil))), ?_⟩
    refine ⟨_, rfl, a, _, rfl, .inl ha, _, _, rfl, _, _, rfl, ?_⟩
    obtain ⟨kk, hkk⟩ : ∃ kk : Int, kk = (if (if (4 : Int) < (((ns.map V.int).length : Nat) : Int) then 4 else (((ns.map V.int).length : Nat) : Int)) > 1 then (if (4 : Int) < (((ns.map V.int).length : Nat) : Int) then 4 else (((ns.map V.int).length : Nat) : Int)) else 1) := ⟨_, rfl⟩
    have hk4 : 1 ≤ kk ∧ kk ≤ 4 := by
      rw [hkk]; split <;> split <;> omega
    refine ⟨kk, by rw [hkk], by omega, by omega, fun D hD => ?_⟩
    clear hkk
    refine lc_it (walk_range (lo := 0) (n := kk.toNat)) (fun i H' => Same H H' ∧ H' D = some (.lst ((List.replicate i true).map V.bl))) ⟨sNew (Same.refl H) hD, upd_same⟩ (fun _ _ _ _ => trivial) ?_ ?_
    · rintro i x _ H1 hi ⟨s1, hw⟩ ⟨rfl, rfl⟩
      have e0 : (0 : Int) + (i : Nat) = (i : Nat) := by omega
      refine ⟨rfl, _, rfl, _, rfl, a, ns, i, (by show [V.ref a, V.int ((0 : Int) + (i : Nat))] = [V.ref a, V.int ((i : Nat) : Int)]; rw [e0]), s1.seq ha, by omega, by omega, fun H2 l s2 nl pot => ?_⟩
      refine ⟨l, rfl, pot, fun H3 sx _ => ?_⟩
      have s13 : Same H1 H3 := fun b o e => sx b o (ne_of_none e nl) (s2 _ _ e)
      refine ⟨_, s13 _ _ hw, ?_, sPut (Same.trans s1 s13) hD, ?_⟩
      · have sl : sizeLine = 16777216 := sizeLine_eq
        rw [List.length_map, List.length_replicate]
        omega
      · rw [upd_same, List.replicate_succ', List.map_append]; rfl
    · rintro H1 ⟨s1, hw⟩
      refine ⟨D, _, rfl, SqL.of hw, ?_⟩
      have e : (List.replicate kk.toNat true).all id = true := by simp
      rw [e]
      exact q H1
end
end S15

namespace S15
open PySem L2 RA
section
variable {P : Program} {w : World} {K : PySem.W.Frag} {mg : Str → Option Value} {base : Heap}
theorem df_of {x : Str} {ps : List Str} {k : Nat} {sp : Sp} {f : Addr} {fd : FuncData} {st : Stmt} (F : Fun K x x st f fd) (hm : mg x = some (.ref f)) (b : Binds K fd ps []) (G : FnOk P w K mg base CX0 k f fd ps sp) : Df P w K mg base x ps k sp := ⟨f, fd, hm, F.kp, b, G⟩
theorem dfG_of {x : Str} {ps : List Str} {k : Nat} {sp : Sp} {f : Addr} {fd : FuncData} {st : Stmt} (F : Fun K x x st f fd) (hm : mg x = some (.ref f)) (b : Binds K fd ps []) (G : FnG P w K mg base CX0 k f fd ps sp) : DfG P w K mg base x ps k sp := ⟨f, fd, hm, F.kp, b, G⟩
theorem raw0 {f : Addr} {fd : FuncData} {ps : List Str} {j k : Nat} {sp : Sp} (G : FnOk P w K mg base CX0 j f fd ps sp) (b : Binds K fd ps []) (h : j ≤ k) : FnR P w K mg base CX0 k f sp := FnR.mono (FnR.imp (FnOk.raw (dvs := []) G b .nil) fun vs H Q E h => by rw [List.append_nil]; exact h) h
theorem kit_rt {C : Addr} {T : String} {b : Bool} (m : PySem.W.kitMeta T = true) (h : PySem.W.subIn K (.ref C) (.type T) = some b) : PySem.W.kitOne K (.ref C) (.type T) = some b := by
  unfold PySem.W.kitOne
  rw [if_neg (by simp)]
  show (if PySem.W.kitMeta T = true then PySem.W.subIn K (.ref C) (.type T) else none) = some b
  rw [if_pos m]
  exact h
theorem kit_tr {C : Addr} {T : String} {b : Bool} (i : PySem.W.isClsIn K C = true) (t : PySem.W.typeIn K (.ref C) = some (.type "type")) (h : PySem.W.subIn K (.type T) (.ref C) = some b) : PySem.W.kitOne K (.type T) (.ref C) = some b := by
  unfold PySem.W.kitOne
  rw [if_neg (by simp)]
  show (if ((PySem.W.clsIn K C).isSome && PySem.W.typeIn K (.ref C) == some (.type "type")) = true then PySem.W.subIn K (.type T) (.ref C) else none) = some b
  rw [if_pos (by rw [t]; show ((PySem.W.clsIn K C).isSome && _) = true; unfold PySem.W.isClsIn at i; rw [i]; simp)]
  exact h
theorem exm_self {C : Addr} (e : PySem.W.subIn K (.ref C) (.type "BaseException") = some true) (i : PySem.W.isClsIn K C = true) (t : PySem.W.typeIn K (.ref C) = some (.type "type")) (h : PySem.W.subIn K (.ref C) (.ref C) = some true) : PySem.W.exmOne K (.ref C) (.ref C) = some true := by
  unfold PySem.W.exmOne
  rw [if_pos (by rw [e]; simp)]
  show (if ((PySem.W.clsIn K C).isSome && PySem.W.typeIn K (.ref C) == some (.type "type")) = true then PySem.W.subIn K (.ref C) (.ref C) else none) = some true
  rw [if_pos (by rw [t]; unfold PySem.W.isClsIn at i; rw [i]; simp)]
  exact h
theorem rat_mk {C f TD : Addr} {oc tdc kV doc pm cdv ct : Value} {od tdd an : Option Addr} {osl tds : Array (Option Value)} {tdn : Nat} {tdt : Tok} (N : Rc K mg C) (M : Mk K C f) (l : K.lookup f = some ⟨oc, od, .func (PySem.W.fnOf "__init__" "Ratio.__init__" (defArgs sRInit) (defBody sRInit) (defScope sRInit) (.ref TD) kV doc pm an cdv ct), osl⟩)
    (c : PySem.W.codeIn K cdv "Ratio.__init__" = true) (k : PySem.W.keepIn K (.ref f) = true) (lt : K.lookup TD = some ⟨tdc, tdd, .seq #[Value.int 1 tdt] tdn, tds⟩) (T : Bn mg) (DI : Df P w K mg base "is_integer" ["value"] 1 (spIsInt C)) (DG : Df P w K mg base "common_divisor" ["one", "other"] 1 spGcd) : RMk P w K mg base C := by
  have F : FunD K "__init__" "Ratio.__init__" (defArgs sRInit) (defBody sRInit) (defScope sRInit) [.int 1] [] f (PySem.W.fnOf "__init__" "Ratio.__init__" (defArgs sRInit) (defBody sRInit) (defScope sRInit) (.ref TD) kV doc pm an cdv ct) :=
    ⟨⟨oc, od, .ref TD, kV, doc, pm, an, cdv, ct, osl, rfl, l, c, .inr ⟨by simp, TD, _, [Value.int 1 tdt], tdn, rfl, lt, rfl, .cons ⟨tdt, rfl⟩ .nil⟩, .inl rfl⟩, k⟩
  have G := ok_rinit (P := P) (w := w) (base := base) F T N DI DG
  have b2 : ∃ ds, Vals ([V.int 1].drop 0) ds ∧ Binds K _ ["self", "top", "bottom"] ds := F.binds1 2 0 (by simp) rfl fun _ _ _ _ _ _ _ us its hu hi => match us, its, hu, hi with
    | [_, _], [_], _, _ => ⟨_, rfl, rfl⟩
  have b3 : ∃ ds, Vals ([V.int 1].drop 1) ds ∧ Binds K _ ["self", "top", "bottom"] ds := F.binds1 3 1 (by simp) rfl fun _ _ _ _ _ _ _ us its hu hi => match us, its, hu, hi with
    | [_, _, _], [_], _, _ => ⟨_, rfl, rfl⟩
  obtain ⟨d2, v2, b2⟩ := b2
  obtain ⟨d3, v3, b3⟩ := b3
  exact ⟨N, f, M, FnR.imp (FnOk.raw G b3 v3) fun vs H Q E h => by rw [show vs ++ [V.int 1].drop 1 = vs from List.append_nil vs]; exact h, FnOk.raw G b2 v2⟩
end
theorem all_mk {l : PySem.W.OpenLaw} {w : World} {K : PySem.W.Frag} {h : Heap} {mg : Str → Option Value} {fa f0 f1 f2 f3 f4 f5 f6 f7 f8 f9 f10 f11 f12 f13 f14 f15 f16 f17 fm0 fm1 fm2 fm3 fm4 fm5 fm6 fm7 fm8 fp0 fp1 fp2 qp0 qp1 qp2 fin TD ft qt C D fd0 cda cell yS : Addr} (X : K.In h) (G : h.Ns mainGlobals mg) (hfa : mg "law" = some (.ref fa))
    {od0 an0 : Option Addr} {sl0 : Array (Option Value)} {oc0 kV0 dc0 pm0 cd0 ct0 : Value}
    {od1 an1 : Option Addr} {sl1 : Array (Option Value)} {oc1 kV1 dc1 pm1 cd1 ct1 : Value}
    {od2 an2 : Option Addr} {sl2 : Array (Option Value)} {oc2 kV2 dc2 pm2 cd2 ct2 : Value}
    {od3 an3 : Option Addr} {sl3 : Array (Option Value)} {oc3 kV3 dc3 pm3 cd3 ct3 : Value}
    {od4 an4 : Option Addr} {sl4 : Array (Option Value)} {oc4 kV4 dc4 pm4 cd4 ct4 : Value}
    {od5 an5 : Option Addr} {sl5 : Array (Option Value)} {oc5 kV5 dc5 pm5 cd5 ct5 : Value}
    {od6 an6 : Option Addr} {sl6 : Array (Option Value)} {oc6 kV6 dc6 pm6 cd6 ct6 : Value}
    {od7 an7 : Option Addr} {sl7 : Array (Option Value)} {oc7 kV7 dc7 pm7 cd7 ct7 : Value}
    {od8 an8 : Option Addr} {sl8 : Array (Option Value)} {oc8 kV8 dc8 pm8 cd8 ct8 : Value}
    {od9 an9 : Option Addr} {sl9 : Array (Option Value)} {oc9 kV9 dc9 pm9 cd9 ct9 : Value}
    {od10 an10 : Option Addr} {sl10 : Array (Option Value)} {oc10 kV10 dc10 pm10 cd10 ct10 : Value}
    {od11 an11 : Option Addr} {sl11 : Array (Option Value)} {oc11 kV11 dc11 pm11 cd11 ct11 : Value}
    {od12 an12 : Option Addr} {sl12 : Array (Option Value)} {oc12 kV12 dc12 pm12 cd12 ct12 : Value}
    {od13 an13 : Option Addr} {sl13 : Array (Option Value)} {oc13 kV13 dc13 pm13 cd13 ct13 : Value}
    {od14 an14 : Option Addr} {sl14 : Array (Option Value)} {oc14 kV14 dc14 pm14 cd14 ct14 : Value}
    {od15 an15 : Option Addr} {sl15 : Array (Option Value)} {oc15 kV15 dc15 pm15 cd15 ct15 : Value}
    {od16 an16 : Option Addr} {sl16 : Array (Option Value)} {oc16 kV16 dc16 pm16 cd16 ct16 : Value}
    {od17 an17 : Option Addr} {sl17 : Array (Option Value)} {oc17 kV17 dc17 pm17 cd17 ct17 : Value}
    {odm0 anm0 : Option Addr} {slm0 : Array (Option Value)} {ocm0 kVm0 dcm0 pmm0 cdm0 ctm0 : Value}
    {odm1 anm1 : Option Addr} {slm1 : Array (Option Value)} {ocm1 kVm1 dcm1 pmm1 cdm1 ctm1 : Value}
    {odm2 anm2 : Option Addr} {slm2 : Array (Option Value)} {ocm2 kVm2 dcm2 pmm2 cdm2 ctm2 : Value}
    {odm3 anm3 : Option Addr} {slm3 : Array (Option Value)} {ocm3 kVm3 dcm3 pmm3 cdm3 ctm3 : Value}
    {odm4 anm4 : Option Addr} {slm4 : Array (Option Value)} {ocm4 kVm4 dcm4 pmm4 cdm4 ctm4 : Value}
    {odm5 anm5 : Option Addr} {slm5 : Array (Option Value)} {ocm5 kVm5 dcm5 pmm5 cdm5 ctm5 : Value}
    {odm6 anm6 : Option Addr} {slm6 : Array (Option Value)} {ocm6 kVm6 dcm6 pmm6 cdm6 ctm6 : Value}
    {odm7 anm7 : Option Addr} {slm7 : Array (Option Value)} {ocm7 kVm7 dcm7 pmm7 cdm7 ctm7 : Value}
    {odm8 anm8 : Option Addr} {slm8 : Array (Option Value)} {ocm8 kVm8 dcm8 pmm8 cdm8 ctm8 : Value}
    {rp0 : List Value}
    {odp0 anp0 : Option Addr} {slp0 : Array (Option Value)} {ocp0 kVp0 dcp0 pmp0 cdp0 ctp0 : Value}
    {rp1 : List Value}
    {odp1 anp1 : Option Addr} {slp1 : Array (Option Value)} {ocp1 kVp1 dcp1 pmp1 cdp1 ctp1 : Value}
    {rp2 : List Value}
    {odp2 anp2 : Option Addr} {slp2 : Array (Option Value)} {ocp2 kVp2 dcp2 pmp2 cdp2 ctp2 : Value}
    {odin anin : Option Addr} {slin : Array (Option Value)} {ocin kVin dcin pmin cdin ctin : Value}
    {tdc : Value} {tdd : Option Addr} {tdn : Nat} {tdt : Tok} {tds : Array (Option Value)}
    {rt : List Value}
    {odt ant : Option Addr} {slt : Array (Option Value)} {oct kVt dct pmt cdt ctt : Value}
    {odd and_ : Option Addr} {sld : Array (Option Value)} {ocd kVd dcd pmd ctd : Value}
    {celd : Option Addr} {cels : Array (Option Value)}
    {cdk1 : Value} {cdk2 : Option Addr} {vsc : Array Value} {cdk3 : Array (Option Value)} {file : Str} {tf : Tok}
    {ynm yq : _} {yN : _} {ybs : _} {ysn : _} {ysub : _} {yab : _} {ycol : _} {ydd : _} {y0 y1 y2 y3 y5 : _}
    (a0 : PySem.W.nsIn K mainGlobals "is_integer" = some (some (.ref f0)))
    (l0 : K.lookup f0 = some ⟨oc0, od0, .func (PySem.W.fnOf "is_integer" "is_integer" (defArgs sIsInt) (defBody sIsInt) (defScope sIsInt) .none kV0 dc0 pm0 an0 cd0 ct0), sl0⟩)
    (c0 : PySem.W.codeIn K cd0 "is_integer" = true)
    (k0 : PySem.W.keepIn K (.ref f0) = true)
    (a1 : PySem.W.nsIn K mainGlobals "common_divisor" = some (some (.ref f1)))
    (l1 : K.lookup f1 = some ⟨oc1, od1, .func (PySem.W.fnOf "common_divisor" "common_divisor" (defArgs sGcd) (defBody sGcd) (defScope sGcd) .none kV1 dc1 pm1 an1 cd1 ct1), sl1⟩)
    (c1 : PySem.W.codeIn K cd1 "common_divisor" = true)
    (k1 : PySem.W.keepIn K (.ref f1) = true)
    (a2 : PySem.W.nsIn K mainGlobals "is_number" = some (some (.ref f2)))
    (l2 : K.lookup f2 = some ⟨oc2, od2, .func (PySem.W.fnOf "is_number" "is_number" (defArgs sIsNum) (defBody sIsNum) (defScope sIsNum) .none kV2 dc2 pm2 an2 cd2 ct2), sl2⟩)
    (c2 : PySem.W.codeIn K cd2 "is_number" = true)
    (k2 : PySem.W.keepIn K (.ref f2) = true)
    (a3 : PySem.W.nsIn K mainGlobals "ratio_of" = some (some (.ref f3)))
    (l3 : K.lookup f3 = some ⟨oc3, od3, .func (PySem.W.fnOf "ratio_of" "ratio_of" (defArgs sRatioOf) (defBody sRatioOf) (defScope sRatioOf) .none kV3 dc3 pm3 an3 cd3 ct3), sl3⟩)
    (c3 : PySem.W.codeIn K cd3 "ratio_of" = true)
    (k3 : PySem.W.keepIn K (.ref f3) = true)
    (a4 : PySem.W.nsIn K mainGlobals "_law_pot" = some (some (.ref f4)))
    (l4 : K.lookup f4 = some ⟨oc4, od4, .func (PySem.W.fnOf "_law_pot" "_law_pot" (defArgs sPot) (defBody sPot) (defScope sPot) .none kV4 dc4 pm4 an4 cd4 ct4), sl4⟩)
    (c4 : PySem.W.codeIn K cd4 "_law_pot" = true)
    (k4 : PySem.W.keepIn K (.ref f4) = true)
    (a5 : PySem.W.nsIn K mainGlobals "_law_draw" = some (some (.ref f5)))
    (l5 : K.lookup f5 = some ⟨oc5, od5, .func (PySem.W.fnOf "_law_draw" "_law_draw" (defArgs sDraw) (defBody sDraw) (defScope sDraw) .none kV5 dc5 pm5 an5 cd5 ct5), sl5⟩)
    (c5 : PySem.W.codeIn K cd5 "_law_draw" = true)
    (k5 : PySem.W.keepIn K (.ref f5) = true)
    (a6 : PySem.W.nsIn K mainGlobals "_law_pick" = some (some (.ref f6)))
    (l6 : K.lookup f6 = some ⟨oc6, od6, .func (PySem.W.fnOf "_law_pick" "_law_pick" (defArgs sPick) (defBody sPick) (defScope sPick) .none kV6 dc6 pm6 an6 cd6 ct6), sl6⟩)
    (c6 : PySem.W.codeIn K cd6 "_law_pick" = true)
    (k6 : PySem.W.keepIn K (.ref f6) = true)
    (a7 : PySem.W.nsIn K mainGlobals "_law_least" = some (some (.ref f7)))
    (l7 : K.lookup f7 = some ⟨oc7, od7, .func (PySem.W.fnOf "_law_least" "_law_least" (defArgs sLeast) (defBody sLeast) (defScope sLeast) .none kV7 dc7 pm7 an7 cd7 ct7), sl7⟩)
    (c7 : PySem.W.codeIn K cd7 "_law_least" = true)
    (k7 : PySem.W.keepIn K (.ref f7) = true)
    (a8 : PySem.W.nsIn K mainGlobals "_law_whole_number" = some (some (.ref f8)))
    (l8 : K.lookup f8 = some ⟨oc8, od8, .func (PySem.W.fnOf "_law_whole_number" "_law_whole_number" (defArgs sWhole) (defBody sWhole) (defScope sWhole) .none kV8 dc8 pm8 an8 cd8 ct8), sl8⟩)
    (c8 : PySem.W.codeIn K cd8 "_law_whole_number" = true)
    (k8 : PySem.W.keepIn K (.ref f8) = true)
    (a9 : PySem.W.nsIn K mainGlobals "_law_fresh" = some (some (.ref f9)))
    (l9 : K.lookup f9 = some ⟨oc9, od9, .func (PySem.W.fnOf "_law_fresh" "_law_fresh" (defArgs sFresh) (defBody sFresh) (defScope sFresh) .none kV9 dc9 pm9 an9 cd9 ct9), sl9⟩)
    (c9 : PySem.W.codeIn K cd9 "_law_fresh" = true)
    (k9 : PySem.W.keepIn K (.ref f9) = true)
    (a10 : PySem.W.nsIn K mainGlobals "_law_right_one" = some (some (.ref f10)))
    (l10 : K.lookup f10 = some ⟨oc10, od10, .func (PySem.W.fnOf "_law_right_one" "_law_right_one" (defArgs sRightOne) (defBody sRightOne) (defScope sRightOne) .none kV10 dc10 pm10 an10 cd10 ct10), sl10⟩)
    (c10 : PySem.W.codeIn K cd10 "_law_right_one" = true)
    (k10 : PySem.W.keepIn K (.ref f10) = true)
    (a11 : PySem.W.nsIn K mainGlobals "_law_divided" = some (some (.ref f11)))
    (l11 : K.lookup f11 = some ⟨oc11, od11, .func (PySem.W.fnOf "_law_divided" "_law_divided" (defArgs sDivided) (defBody sDivided) (defScope sDivided) .none kV11 dc11 pm11 an11 cd11 ct11), sl11⟩)
    (c11 : PySem.W.codeIn K cd11 "_law_divided" = true)
    (k11 : PySem.W.keepIn K (.ref f11) = true)
    (a12 : PySem.W.nsIn K mainGlobals "_law_done" = some (some (.ref f12)))
    (l12 : K.lookup f12 = some ⟨oc12, od12, .func (PySem.W.fnOf "_law_done" "_law_done" (defArgs sDone) (defBody sDone) (defScope sDone) .none kV12 dc12 pm12 an12 cd12 ct12), sl12⟩)
    (c12 : PySem.W.codeIn K cd12 "_law_done" = true)
    (k12 : PySem.W.keepIn K (.ref f12) = true)
    (a13 : PySem.W.nsIn K mainGlobals "_law_is_pair" = some (some (.ref f13)))
    (l13 : K.lookup f13 = some ⟨oc13, od13, .func (PySem.W.fnOf "_law_is_pair" "_law_is_pair" (defArgs sIsPair) (defBody sIsPair) (defScope sIsPair) .none kV13 dc13 pm13 an13 cd13 ct13), sl13⟩)
    (c13 : PySem.W.codeIn K cd13 "_law_is_pair" = true)
    (k13 : PySem.W.keepIn K (.ref f13) = true)
    (a14 : PySem.W.nsIn K mainGlobals "_law_compared" = some (some (.ref f14)))
    (l14 : K.lookup f14 = some ⟨oc14, od14, .func (PySem.W.fnOf "_law_compared" "_law_compared" (defArgs sCompared) (defBody sCompared) (defScope sCompared) .none kV14 dc14 pm14 an14 cd14 ct14), sl14⟩)
    (c14 : PySem.W.codeIn K cd14 "_law_compared" = true)
    (k14 : PySem.W.keepIn K (.ref f14) = true)
    (a15 : PySem.W.nsIn K mainGlobals "_law_totalled" = some (some (.ref f15)))
    (l15 : K.lookup f15 = some ⟨oc15, od15, .func (PySem.W.fnOf "_law_totalled" "_law_totalled" (defArgs sTotalled) (defBody sTotalled) (defScope sTotalled) .none kV15 dc15 pm15 an15 cd15 ct15), sl15⟩)
    (c15 : PySem.W.codeIn K cd15 "_law_totalled" = true)
    (k15 : PySem.W.keepIn K (.ref f15) = true)
    (a16 : PySem.W.nsIn K mainGlobals "_law_right" = some (some (.ref f16)))
    (l16 : K.lookup f16 = some ⟨oc16, od16, .func (PySem.W.fnOf "_law_right" "_law_right" (defArgs sRight) (defBody sRight) (defScope sRight) .none kV16 dc16 pm16 an16 cd16 ct16), sl16⟩)
    (c16 : PySem.W.codeIn K cd16 "_law_right" = true)
    (k16 : PySem.W.keepIn K (.ref f16) = true)
    (a17 : PySem.W.nsIn K mainGlobals "law" = some (some (.ref f17)))
    (l17 : K.lookup f17 = some ⟨oc17, od17, .func (PySem.W.fnOf "law" "law" (defArgs sLaw) (defBody sLaw) (defScope sLaw) .none kV17 dc17 pm17 an17 cd17 ct17), sl17⟩)
    (c17 : PySem.W.codeIn K cd17 "law" = true)
    (k17 : PySem.W.keepIn K (.ref f17) = true)
    (aC : PySem.W.nsIn K mainGlobals "Ratio" = some (some (.ref C)))
    (am0 : PySem.W.findIn K (.ref C) "is_below" = some (some (.ref fm0)))
    (im0 : PySem.W.isFn K (.ref fm0) = true)
    (lm0 : K.lookup fm0 = some ⟨ocm0, odm0, .func (PySem.W.fnOf "is_below" "Ratio.is_below" (defArgs sBelow) (defBody sBelow) (defScope sBelow) .none kVm0 dcm0 pmm0 anm0 cdm0 ctm0), slm0⟩)
    (cm0 : PySem.W.codeIn K cdm0 "Ratio.is_below" = true)
    (km0 : PySem.W.keepIn K (.ref fm0) = true)
    (am1 : PySem.W.findIn K (.ref C) "over" = some (some (.ref fm1)))
    (im1 : PySem.W.isFn K (.ref fm1) = true)
    (lm1 : K.lookup fm1 = some ⟨ocm1, odm1, .func (PySem.W.fnOf "over" "Ratio.over" (defArgs sOver) (defBody sOver) (defScope sOver) .none kVm1 dcm1 pmm1 anm1 cdm1 ctm1), slm1⟩)
    (cm1 : PySem.W.codeIn K cdm1 "Ratio.over" = true)
    (km1 : PySem.W.keepIn K (.ref fm1) = true)
    (am2 : PySem.W.findIn K (.ref C) "__add__" = some (some (.ref fm2)))
    (im2 : PySem.W.isFn K (.ref fm2) = true)
    (lm2 : K.lookup fm2 = some ⟨ocm2, odm2, .func (PySem.W.fnOf "__add__" "Ratio.__add__" (defArgs sAdd) (defBody sAdd) (defScope sAdd) .none kVm2 dcm2 pmm2 anm2 cdm2 ctm2), slm2⟩)
    (cm2 : PySem.W.codeIn K cdm2 "Ratio.__add__" = true)
    (km2 : PySem.W.keepIn K (.ref fm2) = true)
    (am3 : PySem.W.findIn K (.ref C) "__sub__" = some (some (.ref fm3)))
    (im3 : PySem.W.isFn K (.ref fm3) = true)
    (lm3 : K.lookup fm3 = some ⟨ocm3, odm3, .func (PySem.W.fnOf "__sub__" "Ratio.__sub__" (defArgs sSub) (defBody sSub) (defScope sSub) .none kVm3 dcm3 pmm3 anm3 cdm3 ctm3), slm3⟩)
    (cm3 : PySem.W.codeIn K cdm3 "Ratio.__sub__" = true)
    (km3 : PySem.W.keepIn K (.ref fm3) = true)
    (am4 : PySem.W.findIn K (.ref C) "__mul__" = some (some (.ref fm4)))
    (im4 : PySem.W.isFn K (.ref fm4) = true)
    (lm4 : K.lookup fm4 = some ⟨ocm4, odm4, .func (PySem.W.fnOf "__mul__" "Ratio.__mul__" (defArgs sMul) (defBody sMul) (defScope sMul) .none kVm4 dcm4 pmm4 anm4 cdm4 ctm4), slm4⟩)
    (cm4 : PySem.W.codeIn K cdm4 "Ratio.__mul__" = true)
    (km4 : PySem.W.keepIn K (.ref fm4) = true)
    (am5 : PySem.W.findIn K (.ref C) "__neg__" = some (some (.ref fm5)))
    (im5 : PySem.W.isFn K (.ref fm5) = true)
    (lm5 : K.lookup fm5 = some ⟨ocm5, odm5, .func (PySem.W.fnOf "__neg__" "Ratio.__neg__" (defArgs sNeg) (defBody sNeg) (defScope sNeg) .none kVm5 dcm5 pmm5 anm5 cdm5 ctm5), slm5⟩)
    (cm5 : PySem.W.codeIn K cdm5 "Ratio.__neg__" = true)
    (km5 : PySem.W.keepIn K (.ref fm5) = true)
    (am6 : PySem.W.findIn K (.ref C) "__eq__" = some (some (.ref fm6)))
    (im6 : PySem.W.isFn K (.ref fm6) = true)
    (lm6 : K.lookup fm6 = some ⟨ocm6, odm6, .func (PySem.W.fnOf "__eq__" "Ratio.__eq__" (defArgs sEq) (defBody sEq) (defScope sEq) .none kVm6 dcm6 pmm6 anm6 cdm6 ctm6), slm6⟩)
    (cm6 : PySem.W.codeIn K cdm6 "Ratio.__eq__" = true)
    (km6 : PySem.W.keepIn K (.ref fm6) = true)
    (am7 : PySem.W.findIn K (.ref C) "__str__" = some (some (.ref fm7)))
    (im7 : PySem.W.isFn K (.ref fm7) = true)
    (lm7 : K.lookup fm7 = some ⟨ocm7, odm7, .func (PySem.W.fnOf "__str__" "Ratio.__str__" (defArgs sStr) (defBody sStr) (defScope sStr) .none kVm7 dcm7 pmm7 anm7 cdm7 ctm7), slm7⟩)
    (cm7 : PySem.W.codeIn K cdm7 "Ratio.__str__" = true)
    (km7 : PySem.W.keepIn K (.ref fm7) = true)
    (am8 : PySem.W.findIn K (.ref C) "__repr__" = some (some (.ref fm8)))
    (im8 : PySem.W.isFn K (.ref fm8) = true)
    (lm8 : K.lookup fm8 = some ⟨ocm8, odm8, .func (PySem.W.fnOf "__repr__" "Ratio.__repr__" (defArgs sRepr) (defBody sRepr) (defScope sRepr) .none kVm8 dcm8 pmm8 anm8 cdm8 ctm8), slm8⟩)
    (cm8 : PySem.W.codeIn K cdm8 "Ratio.__repr__" = true)
    (km8 : PySem.W.keepIn K (.ref fm8) = true)
    (ap0 : PySem.W.findIn K (.ref C) "top" = some (some (.ref qp0)))
    (gp0 : PySem.W.specialIn K (.ref qp0) "__get__" = some (some (.builtin "property.__get__")))
    (tp0 : PySem.W.takesIn K (.ref qp0) = some true)
    (r_p0 : PySem.W.recIn K qp0 "property" = some (.ref fp0 :: rp0))
    (lp0 : K.lookup fp0 = some ⟨ocp0, odp0, .func (PySem.W.fnOf "top" "Ratio.top" (defArgs sTop) (defBody sTop) (defScope sTop) .none kVp0 dcp0 pmp0 anp0 cdp0 ctp0), slp0⟩)
    (cp0 : PySem.W.codeIn K cdp0 "Ratio.top" = true)
    (kp0 : PySem.W.keepIn K (.ref fp0) = true)
    (ap1 : PySem.W.findIn K (.ref C) "bottom" = some (some (.ref qp1)))
    (gp1 : PySem.W.specialIn K (.ref qp1) "__get__" = some (some (.builtin "property.__get__")))
    (tp1 : PySem.W.takesIn K (.ref qp1) = some true)
    (r_p1 : PySem.W.recIn K qp1 "property" = some (.ref fp1 :: rp1))
    (lp1 : K.lookup fp1 = some ⟨ocp1, odp1, .func (PySem.W.fnOf "bottom" "Ratio.bottom" (defArgs sBottom) (defBody sBottom) (defScope sBottom) .none kVp1 dcp1 pmp1 anp1 cdp1 ctp1), slp1⟩)
    (cp1 : PySem.W.codeIn K cdp1 "Ratio.bottom" = true)
    (kp1 : PySem.W.keepIn K (.ref fp1) = true)
    (ap2 : PySem.W.findIn K (.ref C) "sign" = some (some (.ref qp2)))
    (gp2 : PySem.W.specialIn K (.ref qp2) "__get__" = some (some (.builtin "property.__get__")))
    (tp2 : PySem.W.takesIn K (.ref qp2) = some true)
    (r_p2 : PySem.W.recIn K qp2 "property" = some (.ref fp2 :: rp2))
    (lp2 : K.lookup fp2 = some ⟨ocp2, odp2, .func (PySem.W.fnOf "sign" "Ratio.sign" (defArgs sSign) (defBody sSign) (defScope sSign) .none kVp2 dcp2 pmp2 anp2 cdp2 ctp2), slp2⟩)
    (cp2 : PySem.W.codeIn K cdp2 "Ratio.sign" = true)
    (kp2 : PySem.W.keepIn K (.ref fp2) = true)
    (ain : PySem.W.findIn K (.ref C) "__init__" = some (some (.ref fin)))
    (iin : PySem.W.isFn K (.ref fin) = true)
    (lin : K.lookup fin = some ⟨ocin, odin, .func (PySem.W.fnOf "__init__" "Ratio.__init__" (defArgs sRInit) (defBody sRInit) (defScope sRInit) (.ref TD) kVin dcin pmin anin cdin ctin), slin⟩)
    (cin : PySem.W.codeIn K cdin "Ratio.__init__" = true)
    (kin : PySem.W.keepIn K (.ref fin) = true)
    (ltd : K.lookup TD = some ⟨tdc, tdd, .seq #[Value.int 1 tdt] tdn, tds⟩)
    (rd : PySem.W.readsIn K C (.type "type") = true)
    (ga : PySem.W.specialIn K (.ref C) "__getattribute__" = some (some (.builtin "type.__getattribute__")))
    (att : PySem.W.findCls K (.ref C) (.type "type") "total" = some (.get (.builtin "classmethod.__get__") (.ref qt) .none (.ref C)))
    (rct : PySem.W.recIn K qt "classmethod" = some (.ref ft :: rt))
    (fit : PySem.W.fnIn K ft = true)
    (lt : K.lookup ft = some ⟨oct, odt, .func (PySem.W.fnOf "total" "Ratio.total" (defArgs sTotal) (defBody sTotal) (defScope sTotal) .none kVt dct pmt ant cdt ctt), slt⟩)
    (ct : PySem.W.codeIn K cdt "Ratio.total" = true)
    (kt : PySem.W.keepIn K (.ref ft) = true)
    (nradd : PySem.W.findIn K (.ref C) "__radd__" = some none)
    (nrsub : PySem.W.findIn K (.ref C) "__rsub__" = some none)
    (nrmul : PySem.W.findIn K (.ref C) "__rmul__" = some none)
    (nne : PySem.W.findIn K (.ref C) "__ne__" = some (some (.builtin "object.__ne__")))
    (pg : PySem.W.plainGet K C Str.empty = true)
    (hd : PySem.W.hasDictIn K C = true)
    (po : PySem.W.plainOver K C = true)
    (sa : PySem.W.findIn K (.ref C) "__setattr__" = some (some (.builtin "object.__setattr__")))
    (mk : PySem.W.makesIn K C = true)
    (kc : PySem.W.keepIn K (.ref C) = true)
    (nT : PySem.W.findIn K (.ref C) "own_top" = some none)
    (nB : PySem.W.findIn K (.ref C) "own_bottom" = some none)
    (ic : PySem.W.findIn K (.ref C) "__class__" = some (some (.builtin "object.__class__")))
    (gt : PySem.W.specialIn K (.builtin "object.__class__") "__get__" = some (some (.builtin "getset_descriptor.__get__")))
    (tk : PySem.W.takesIn K (.builtin "object.__class__") = some true)
    (mo : PySem.W.mroIn K C (.type "object") = some true)
    (sf : PySem.W.selfFirst K C = true)
    (jc : PySem.W.isClsIn K C = true)
    (tc : PySem.W.typeIn K (.ref C) = some (.type "type"))
    (sCi : PySem.W.subIn K (.ref C) (.type "int") = some false)
    (sic : PySem.W.subIn K (.type "int") (.ref C) = some false)
    (ssc : PySem.W.subIn K (.type "str") (.ref C) = some false)
    (aD : PySem.W.nsIn K mainGlobals "DividedByZero" = some (some (.ref D)))
    (xD : K.lookup D = some (excClassObj ynm yq D yN ybs [.ref yS, .type "RuntimeError", .type "Exception", .type "BaseException", .type "object"] true ysn ysub yab ycol ydd y0 y1 y2 y3 y5 "RuntimeError.__new__"))
    (eD : PySem.W.subIn K (.ref D) (.type "BaseException") = some true)
    (tD : PySem.W.typeIn K (.ref D) = some (.type "type"))
    (kD : PySem.W.keepIn K (.ref D) = true)
    (jD : PySem.W.isClsIn K D = true)
    (sDD : PySem.W.subIn K (.ref D) (.ref D) = some true)
    (sDR : PySem.W.subIn K (.ref D) (.type "RuntimeError") = some true)
    (ad : PySem.W.findIn K (.ref D) "__init__" = some (some (.ref fd0)))
    (td : PySem.W.typeIn K (.ref fd0) = some (.type "function"))
    (ld : K.lookup fd0 = some ⟨ocd, odd, .func (fnC "__init__" "DividedByZero.__init__" (defArgs sDZInit) (defBody sDZInit) (defScope sDZInit) .none kVd dcd pmd and_ (.ref cda) ctd cell), sld⟩)
    (cd : PySem.W.codeIn K (.ref cda) "DividedByZero.__init__" = true)
    (lcell : K.lookup cell = some ⟨.type "cell", celd, .cell (some (.ref D)), cels⟩)
    (lcda : K.lookup cda = some ⟨cdk1, cdk2, .fields vsc, cdk3⟩)
    (hvsc : vsc[2]? = some (.str file tf))
    (hfile : ((l.prog.main.file : Str) == file) = true)
    (htop : (l.prog.main.scope.names.lookup ("super" : Str)).isSome = false)
    (z_super : PySem.W.nsIn K mainGlobals "super" = some none)
    (sup : PySem.W.ks_superIn K D D "__init__" = some (some (.builtin "RuntimeError.__init__")))
    (opn : PySem.W.nsIn K cStatics "thirdparty.any" = some none)
    (z_isinstance : PySem.W.nsIn K mainGlobals "isinstance" = some none)
    (z_int : PySem.W.nsIn K mainGlobals "int" = some none)
    (z_bool : PySem.W.nsIn K mainGlobals "bool" = some none)
    (z_str : PySem.W.nsIn K mainGlobals "str" = some none)
    (z_len : PySem.W.nsIn K mainGlobals "len" = some none)
    (z_max : PySem.W.nsIn K mainGlobals "max" = some none)
    (z_min : PySem.W.nsIn K mainGlobals "min" = some none)
    (z_zip : PySem.W.nsIn K mainGlobals "zip" = some none)
    (z_range : PySem.W.nsIn K mainGlobals "range" = some none)
    (z_all : PySem.W.nsIn K mainGlobals "all" = some none)
    (z_abs : PySem.W.nsIn K mainGlobals "abs" = some none)
    (z_divmod : PySem.W.nsIn K mainGlobals "divmod" = some none)
    (z_repr : PySem.W.nsIn K mainGlobals "repr" = some none)
    : ∃ fd : FuncData, (∀ (s : Shared) (v : Value), BindsTo s fd ⟨[v], []⟩ [("_law_script", v)]) ∧ ∀ base : Heap, K.In base → base.Ns mainGlobals mg → FnG l.prog w K mg base CX0 11 fa fd ["_law_script"] (spLaw K) := by
  have e := hfa.symm.trans (PySem.W.mg_of X G a17)
  cases e
  have T : Bn mg := ⟨PySem.W.mg_none_of X G z_isinstance, PySem.W.mg_none_of X G z_int, PySem.W.mg_none_of X G z_bool, PySem.W.mg_none_of X G z_str, PySem.W.mg_none_of X G z_len, PySem.W.mg_none_of X G z_max, PySem.W.mg_none_of X G z_min, PySem.W.mg_none_of X G z_zip, PySem.W.mg_none_of X G z_range, PySem.W.mg_none_of X G z_all, PySem.W.mg_none_of X G z_abs, PySem.W.mg_none_of X G z_divmod, PySem.W.mg_none_of X G z_repr⟩
  have F0 := fun_mk (x := "is_integer") (qual := "is_integer") (st := sIsInt) l0 c0 k0
  have b0 := F0.binds (ps := ["value"]) fun _ _ _ _ _ _ us hl => match us, hl with | [_], _ => rfl
  have g0 := PySem.W.mg_of X G a0
  have F1 := fun_mk (x := "common_divisor") (qual := "common_divisor") (st := sGcd) l1 c1 k1
  have b1 := F1.binds (ps := ["one", "other"]) fun _ _ _ _ _ _ us hl => match us, hl with | [_, _], _ => rfl
  have g1 := PySem.W.mg_of X G a1
  have F2 := fun_mk (x := "is_number") (qual := "is_number") (st := sIsNum) l2 c2 k2
  have b2 := F2.binds (ps := ["value"]) fun _ _ _ _ _ _ us hl => match us, hl with | [_], _ => rfl
  have g2 := PySem.W.mg_of X G a2
  have F3 := fun_mk (x := "ratio_of") (qual := "ratio_of") (st := sRatioOf) l3 c3 k3
  have b3 := F3.binds (ps := ["value"]) fun _ _ _ _ _ _ us hl => match us, hl with | [_], _ => rfl
  have g3 := PySem.W.mg_of X G a3
  have F4 := fun_mk (x := "_law_pot") (qual := "_law_pot") (st := sPot) l4 c4 k4
  have b4 := F4.binds (ps := ["_law_script", "_law_k"]) fun _ _ _ _ _ _ us hl => match us, hl with | [_, _], _ => rfl
  have g4 := PySem.W.mg_of X G a4
  have F5 := fun_mk (x := "_law_draw") (qual := "_law_draw") (st := sDraw) l5 c5 k5
  have b5 := F5.binds (ps := ["_law_pot_here", "_law_many"]) fun _ _ _ _ _ _ us hl => match us, hl with | [_, _], _ => rfl
  have g5 := PySem.W.mg_of X G a5
  have F6 := fun_mk (x := "_law_pick") (qual := "_law_pick") (st := sPick) l6 c6 k6
  have b6 := F6.binds (ps := ["_law_pot_here", "_law_some"]) fun _ _ _ _ _ _ us hl => match us, hl with | [_, _], _ => rfl
  have g6 := PySem.W.mg_of X G a6
  have F7 := fun_mk (x := "_law_least") (qual := "_law_least") (st := sLeast) l7 c7 k7
  have b7 := F7.binds (ps := ["_law_high", "_law_low"]) fun _ _ _ _ _ _ us hl => match us, hl with | [_, _], _ => rfl
  have g7 := PySem.W.mg_of X G a7
  have F8 := fun_mk (x := "_law_whole_number") (qual := "_law_whole_number") (st := sWhole) l8 c8 k8
  have b8 := F8.binds (ps := ["_law_pot_here"]) fun _ _ _ _ _ _ us hl => match us, hl with | [_], _ => rfl
  have g8 := PySem.W.mg_of X G a8
  have F9 := fun_mk (x := "_law_fresh") (qual := "_law_fresh") (st := sFresh) l9 c9 k9
  have b9 := F9.binds (ps := ["_law_pot_here"]) fun _ _ _ _ _ _ us hl => match us, hl with | [_], _ => rfl
  have g9 := PySem.W.mg_of X G a9
  have F10 := fun_mk (x := "_law_right_one") (qual := "_law_right_one") (st := sRightOne) l10 c10 k10
  have b10 := F10.binds (ps := ["_law_pot_here", "_law_pairs", "_law_made"]) fun _ _ _ _ _ _ us hl => match us, hl with | [_, _, _], _ => rfl
  have g10 := PySem.W.mg_of X G a10
  have F11 := fun_mk (x := "_law_divided") (qual := "_law_divided") (st := sDivided) l11 c11 k11
  have b11 := F11.binds (ps := ["_law_one", "_law_right_here"]) fun _ _ _ _ _ _ us hl => match us, hl with | [_, _], _ => rfl
  have g11 := PySem.W.mg_of X G a11
  have F12 := fun_mk (x := "_law_done") (qual := "_law_done") (st := sDone) l12 c12 k12
  have b12 := F12.binds (ps := ["_law_pot_here", "_law_one", "_law_pair", "_law_right_here", "_law_other"]) fun _ _ _ _ _ _ us hl => match us, hl with | [_, _, _, _, _], _ => rfl
  have g12 := PySem.W.mg_of X G a12
  have F13 := fun_mk (x := "_law_is_pair") (qual := "_law_is_pair") (st := sIsPair) l13 c13 k13
  have b13 := F13.binds (ps := ["_law_one", "_law_pair"]) fun _ _ _ _ _ _ us hl => match us, hl with | [_, _], _ => rfl
  have g13 := PySem.W.mg_of X G a13
  have F14 := fun_mk (x := "_law_compared") (qual := "_law_compared") (st := sCompared) l14 c14 k14
  have b14 := F14.binds (ps := ["_law_made", "_law_pairs"]) fun _ _ _ _ _ _ us hl => match us, hl with | [_, _], _ => rfl
  have g14 := PySem.W.mg_of X G a14
  have F15 := fun_mk (x := "_law_totalled") (qual := "_law_totalled") (st := sTotalled) l15 c15 k15
  have b15 := F15.binds (ps := ["_law_made", "_law_pairs"]) fun _ _ _ _ _ _ us hl => match us, hl with | [_, _], _ => rfl
  have g15 := PySem.W.mg_of X G a15
  have F16 := fun_mk (x := "_law_right") (qual := "_law_right") (st := sRight) l16 c16 k16
  have b16 := F16.binds (ps := ["_law_pot_here"]) fun _ _ _ _ _ _ us hl => match us, hl with | [_], _ => rfl
  have g16 := PySem.W.mg_of X G a16
  have F17 := fun_mk (x := "law") (qual := "law") (st := sLaw) l17 c17 k17
  have b17 := F17.binds (ps := ["_law_script"]) fun _ _ _ _ _ _ us hl => match us, hl with | [_], _ => rfl
  have g17 := PySem.W.mg_of X G a17
  have Fm0 := fun_mk (x := "is_below") (qual := "Ratio.is_below") (st := sBelow) lm0 cm0 km0
  have bm0 := Fm0.binds (ps := ["self", "other"]) fun _ _ _ _ _ _ us hl => match us, hl with | [_, _], _ => rfl
  have Fm1 := fun_mk (x := "over") (qual := "Ratio.over") (st := sOver) lm1 cm1 km1
  have bm1 := Fm1.binds (ps := ["self", "other"]) fun _ _ _ _ _ _ us hl => match us, hl with | [_, _], _ => rfl
  have Fm2 := fun_mk (x := "__add__") (qual := "Ratio.__add__") (st := sAdd) lm2 cm2 km2
  have bm2 := Fm2.binds (ps := ["self", "other"]) fun _ _ _ _ _ _ us hl => match us, hl with | [_, _], _ => rfl
  have Fm3 := fun_mk (x := "__sub__") (qual := "Ratio.__sub__") (st := sSub) lm3 cm3 km3
  have bm3 := Fm3.binds (ps := ["self", "other"]) fun _ _ _ _ _ _ us hl => match us, hl with | [_, _], _ => rfl
  have Fm4 := fun_mk (x := "__mul__") (qual := "Ratio.__mul__") (st := sMul) lm4 cm4 km4
  have bm4 := Fm4.binds (ps := ["self", "other"]) fun _ _ _ _ _ _ us hl => match us, hl with | [_, _], _ => rfl
  have Fm5 := fun_mk (x := "__neg__") (qual := "Ratio.__neg__") (st := sNeg) lm5 cm5 km5
  have bm5 := Fm5.binds (ps := ["self"]) fun _ _ _ _ _ _ us hl => match us, hl with | [_], _ => rfl
  have Fm6 := fun_mk (x := "__eq__") (qual := "Ratio.__eq__") (st := sEq) lm6 cm6 km6
  have bm6 := Fm6.binds (ps := ["self", "other"]) fun _ _ _ _ _ _ us hl => match us, hl with | [_, _], _ => rfl
  have Fm7 := fun_mk (x := "__str__") (qual := "Ratio.__str__") (st := sStr) lm7 cm7 km7
  have bm7 := Fm7.binds (ps := ["self"]) fun _ _ _ _ _ _ us hl => match us, hl with | [_], _ => rfl
  have Fm8 := fun_mk (x := "__repr__") (qual := "Ratio.__repr__") (st := sRepr) lm8 cm8 km8
  have bm8 := Fm8.binds (ps := ["self"]) fun _ _ _ _ _ _ us hl => match us, hl with | [_], _ => rfl
  have Fp0 := fun_mk (x := "top") (qual := "Ratio.top") (st := sTop) lp0 cp0 kp0
  have bp0 := Fp0.binds (ps := ["self"]) fun _ _ _ _ _ _ us hl => match us, hl with | [_], _ => rfl
  have Fp1 := fun_mk (x := "bottom") (qual := "Ratio.bottom") (st := sBottom) lp1 cp1 kp1
  have bp1 := Fp1.binds (ps := ["self"]) fun _ _ _ _ _ _ us hl => match us, hl with | [_], _ => rfl
  have Fp2 := fun_mk (x := "sign") (qual := "Ratio.sign") (st := sSign) lp2 cp2 kp2
  have bp2 := Fp2.binds (ps := ["self"]) fun _ _ _ _ _ _ us hl => match us, hl with | [_], _ => rfl
  have Ft := fun_mk (x := "total") (qual := "Ratio.total") (st := sTotal) lt ct kt
  refine ⟨PySem.W.fnOf "law" "law" (defArgs sLaw) (defBody sLaw) (defScope sLaw) .none kV17 dc17 pm17 an17 cd17 ct17, fun s v => .of_eq rfl, fun base _ _ => ?_⟩
  have N : Rc K mg C := ⟨⟨pg, hd, po, sa⟩, nT, nB, PySem.W.mg_of X G aC, ic, gt, tk, mo, sf, kit_rt (by kernel_rfl) sCi, kit_tr jc tc sic, kit_tr jc tc ssc, sic, ssc⟩
  have D0 := df_of (P := l.prog) (w := w) (base := base) F0 g0 b0 (ok_isInt F0 T N)
  have D1 := df_of (P := l.prog) (w := w) (base := base) F1 g1 b1 (ok_gcd F1)
  have M : RMk l.prog w K mg base C := rat_mk N ⟨mk, ain, iin, kc⟩ lin cin kin ltd T D0 D1
  have D2 := df_of (P := l.prog) (w := w) (base := base) F2 g2 b2 (ok_isNum F2 T N D0)
  have D3 := df_of (P := l.prog) (w := w) (base := base) F3 g3 b3 (ok_ratioOf F3 T M D0)
  have O : ROp l.prog w K mg base C := ⟨M, ⟨fm2, am2, im2, raw0 (ok_add Fm2 M D3) bm2 (by decide), nradd⟩, ⟨fm3, am3, im3, raw0 (ok_sub Fm3 M D3) bm3 (by decide), nrsub⟩, ⟨fm4, am4, im4, raw0 (ok_mul Fm4 M D3) bm4 (by decide), nrmul⟩, ⟨fm5, am5, im5, raw0 (ok_neg Fm5 M) bm5 (by decide)⟩, ⟨fm6, am6, im6, raw0 (ok_eq Fm6 T N) bm6 (by decide), nne⟩, ⟨fm7, am7, im7, raw0 (ok_str Fm7 T N) bm7 (by decide)⟩, ⟨fm8, am8, im8, raw0 (ok_repr Fm8 N) bm8 (by decide)⟩⟩
  have R1 : RPr l.prog w K mg base C := ⟨O, ⟨qp0, fp0, _, ⟨ap0, gp0, tp0, ⟨_, r_p0⟩⟩, bp0, ok_top Fp0 N⟩, ⟨qp1, fp1, _, ⟨ap1, gp1, tp1, ⟨_, r_p1⟩⟩, bp1, ok_bottom Fp1 N⟩, ⟨qp2, fp2, _, ⟨ap2, gp2, tp2, ⟨_, r_p2⟩⟩, bp2, ok_sign Fp2 T N⟩⟩
  have R2 : RMore l.prog w K mg base C := ⟨R1, ⟨fm0, _, ⟨am0, im0, km0⟩, bm0, ok_below Fm0 N D3⟩⟩
  have R3 : RTot l.prog w K mg base C := ⟨R2, ⟨.type "type", qt, ft, ⟨rd, ga⟩, ⟨att, ⟨_, rct⟩, fit⟩, ok_total Ft O⟩⟩
  have SK : SupK "RuntimeError" "RuntimeError.__new__" "RuntimeError.__init__" reTail l.prog K mg D fd0 (fnC "__init__" "DividedByZero.__init__" (defArgs sDZInit) (defBody sDZInit) (defScope sDZInit) .none kVd dcd pmd and_ (.ref cda) ctd cell) dzArg := ⟨⟨_, _, _, ld⟩, by rfl, by show (defScope sDZInit).names.lookup dzArg.arg = some NameKind.local; decide +kernel, ⟨cda, _, _, vsc, _, file, tf, rfl, lcda, hvsc, hfile⟩, htop, PySem.W.mg_none_of X G z_super, ⟨_, _, _, _, _, _, _, _, _, _, _, _, _, _, _, xD, by show decide (reTail = reTail) = true; decide +kernel⟩, sup, sDR, sDD, opn⟩
  have Z : Dz l.prog w K mg base D := ⟨⟨⟨_, _, _, _, _, _, _, _, _, _, _, _, _, _, _, xD, by show decide (reTail = reTail) = true; decide +kernel⟩, eD, tD, kD⟩, PySem.W.mg_of X G aD, ⟨fd0, _, ad, td, .all (fun us hl => match us, hl with | [_], _ => rfl), ok_dz cd lcell SK⟩, exm_self eD jD tD sDD⟩
  have OV : Ov l.prog w K mg base C D := ⟨fm1, _, ⟨am1, im1, km1⟩, bm1, ok_over Fm1 M D3, ok_overX Fm1 M Z D3⟩
  have D4 := df_of (P := l.prog) (w := w) (base := base) F4 g4 b4 (ok_pot F4 T)
  have D5 := df_of (P := l.prog) (w := w) (base := base) F5 g5 b5 (ok_draw F5 T)
  have D6 := df_of (P := l.prog) (w := w) (base := base) F6 g6 b6 (ok_pick F6 T D5)
  have D7 := df_of (P := l.prog) (w := w) (base := base) F7 g7 b7 (ok_least F7 T)
  have D8 := df_of (P := l.prog) (w := w) (base := base) F8 g8 b8 (ok_whole F8 D5 D6)
  have D9 := df_of (P := l.prog) (w := w) (base := base) F9 g9 b9 (ok_fresh F9 D8 D7)
  have D10 := df_of (P := l.prog) (w := w) (base := base) F10 g10 b10 (ok_rightOne F10 T M D5 D8 D9)
  have D11 := dfG_of (P := l.prog) (w := w) (base := base) F11 g11 b11 (ok_divided F11 N Z OV)
  have D12 := dfG_of (P := l.prog) (w := w) (base := base) F12 g12 b12 (ok_done F12 O D5 D7 D11)
  have D13 := dfG_of (P := l.prog) (w := w) (base := base) F13 g13 b13 (ok_isPair F13 T R1)
  have D14 := dfG_of (P := l.prog) (w := w) (base := base) F14 g14 b14 (ok_compared F14 T R2 D2)
  have D15 := dfG_of (P := l.prog) (w := w) (base := base) F15 g15 b15 (ok_totalled F15 T R3 D7 D13)
  have D16 := dfG_of (P := l.prog) (w := w) (base := base) F16 g16 b16 (ok_right F16 T R3 D5 D9 D10 D12 D13 D14 D15)
  exact ok_law F17 T D4 D16
theorem walk {l : PySem.W.OpenLaw} {q : Program} {loose : List Str} {XP : (Str → Option Value) → Heap → Prop} {YP : World → Heap → Prop} {d : DefRec} {K : Params → PySem.W.Frag} (hn : l.most = some 63) (hdf : d.params.defaults = [])
    (hY : ∀ (w : World) (h : Heap), YP w h → (K w.params).In h)
    (F : ∀ (w : World) (mg : Str → Option Value) (fa : Addr) (h : Heap), (K w.params).In h → h.Ns mainGlobals mg → mg d.name = some (.ref fa) →
      ∃ fd : FuncData, (∀ (s : Shared) (u : Value), BindsTo s fd ⟨[u], []⟩ [("_law_script", u)]) ∧ ∀ base : Heap, (K w.params).In base → base.Ns mainGlobals mg → FnG l.prog w (K w.params) mg base CX0 11 fa fd ["_law_script"] (spLaw (K w.params))) :
    PySem.W.WalkO q loose XP YP l.row.toRowW d [] (fun f vs => PySem.call f vs) :=
  L2.walk_quiet (n := 63) (k := 11) (x := "_law_script") (CX := fun _ => CX0) (sp := fun w => spLaw (K w.params)) hn (by decide) hdf ⟨rfl, by decide, by decide⟩ hY F (fun _ _ a ns hl hS => ⟨a, ns, rfl, hS, hl, fun _ => rfl⟩) fun _ _ _ _ _ z => z
end S15

open PySem PySem.W PyProof.Rows in
set_option maxRecDepth 100000 in
set_option maxHeartbeats 0 in
theorem PySem.Challenge.cw_slotsums_k15_whole_ratios_in_chains_holds : PySem.Challenge.rw_slotsums_k15_whole_ratios_in_chains.Holds := by
  w_on; o_law; k_head; (case hw => w_witness2)
  k_fill
  refine S15.walk (l := PySem.Challenge.rw_slotsums_k15_whole_ratios_in_chains) rfl rfl (fun w h Y => PySem.W.kIn_of Y) ?F
  case F =>
    intro w mg fa h KX G hmg
    refine' S15.all_mk KX G hmg ?a0 ?l0 ?c0 ?k0 ?a1 ?l1 ?c1 ?k1 ?a2 ?l2 ?c2 ?k2 ?a3 ?l3 ?c3 ?k3 ?a4 ?l4 ?c4 ?k4 ?a5 ?l5 ?c5 ?k5 ?a6 ?l6 ?c6 ?k6 ?a7 ?l7 ?c7 ?k7 ?a8 ?l8 ?c8 ?k8 ?a9 ?l9 ?c9 ?k9 ?a10 ?l10 ?c10 ?k10 ?a11 ?l11 ?c11 ?k11 ?a12 ?l12 ?c12 ?k12 ?a13 ?l13 ?c13 ?k13 ?a14 ?l14 ?c14 ?k14 ?a15 ?l15 ?c15 ?k15 ?a16 ?l16 ?c16 ?k16 ?a17 ?l17 ?c17 ?k17 ?aC ?am0 ?im0 ?lm0 ?cm0 ?km0 ?am1 ?im1 ?lm1 ?cm1 ?km1 ?am2 ?im2 ?lm2 ?cm2 ?km2 ?am3 ?im3 ?lm3 ?cm3 ?km3 ?am4 ?im4 ?lm4 ?cm4 ?km4 ?am5 ?im5 ?lm5 ?cm5 ?km5 ?am6 ?im6 ?lm6 ?cm6 ?km6 ?am7 ?im7 ?lm7 ?cm7 ?km7 ?am8 ?im8 ?lm8 ?cm8 ?km8 ?ap0 ?gp0 ?tp0 ?r_p0 ?lp0 ?cp0 ?kp0 ?ap1 ?gp1 ?tp1 ?r_p1 ?lp1 ?cp1 ?kp1 ?ap2 ?gp2 ?tp2 ?r_p2 ?lp2 ?cp2 ?kp2 ?ain ?iin ?lin ?cin ?kin ?ltd ?rd ?ga ?att ?rct ?fit ?lt ?ct ?kt ?nradd ?nrsub ?nrmul ?nne ?pg ?hd ?po ?sa ?mk ?kc ?nT ?nB ?ic ?gt ?tk ?mo ?sf ?jc ?tc ?sCi ?sic ?ssc ?aD ?xD ?eD ?tD ?kD ?jD ?sDD ?sDR ?ad ?td ?ld ?cd ?lcell ?lcda ?hvsc ?hfile ?htop ?z_super ?sup ?opn ?z_isinstance ?z_int ?z_bool ?z_str ?z_len ?z_max ?z_min ?z_zip ?z_range ?z_all ?z_abs ?z_divmod ?z_repr
    (case a0 => k_is)
    (case l0 => k_is)
    (case c0 => k_is)
    (case k0 => k_is)
    (case a1 => k_is)
    (case l1 => k_is)
    (case c1 => k_is)
    (case k1 => k_is)
    (case a2 => k_is)
    (case l2 => k_is)
    (case c2 => k_is)
    (case k2 => k_is)
    (case a3 => k_is)
    (case l3 => k_is)
    (case c3 => k_is)
    (case k3 => k_is)
    (case a4 => k_is)
    (case l4 => k_is)
    (case c4 => k_is)
    (case k4 => k_is)
    (case a5 => k_is)
    (case l5 => k_is)
    (case c5 => k_is)
    (case k5 => k_is)
    (case a6 => k_is)
    (case l6 => k_is)
    (case c6 => k_is)
    (case k6 => k_is)
    (case a7 => k_is)
    (case l7 => k_is)
    (case c7 => k_is)
    (case k7 => k_is)
    (case a8 => k_is)
    (case l8 => k_is)
    (case c8 => k_is)
    (case k8 => k_is)
    (case a9 => k_is)
    (case l9 => k_is)
    (case c9 => k_is)
    (case k9 => k_is)
    (case a10 => k_is)
    (case l10 => k_is)
    (case c10 => k_is)
    (case k10 => k_is)
    (case a11 => k_is)
    (case l11 => k_is)
    (case c11 => k_is)
    (case k11 => k_is)
    (case a12 => k_is)
    (case l12 => k_is)
    (case c12 => k_is)
    (case k12 => k_is)
    (case a13 => k_is)
    (case l13 => k_is)
    (case c13 => k_is)
    (case k13 => k_is)
    (case a14 => k_is)
    (case l14 => k_is)
    (case c14 => k_is)
    (case k14 => k_is)
    (case a15 => k_is)
    (case l15 => k_is)
    (case c15 => k_is)
    (case k15 => k_is)
    (case a16 => k_is)
    (case l16 => k_is)
    (case c16 => k_is)
    (case k16 => k_is)
    (case a17 => k_is)
    (case l17 => k_is)
    (case c17 => k_is)
    (case k17 => k_is)
    (case aC => k_is)
    (case am0 => k_is)
    (case im0 => k_is)
    (case lm0 => k_is)
    (case cm0 => k_is)
    (case km0 => k_is)
    (case am1 => k_is)
    (case im1 => k_is)
    (case lm1 => k_is)
    (case cm1 => k_is)
    (case km1 => k_is)
    (case am2 => k_is)
    (case im2 => k_is)
    (case lm2 => k_is)
    (case cm2 => k_is)
    (case km2 => k_is)
    (case am3 => k_is)
    (case im3 => k_is)
    (case lm3 => k_is)
    (case cm3 => k_is)
    (case km3 => k_is)
    (case am4 => k_is)
    (case im4 => k_is)
    (case lm4 => k_is)
    (case cm4 => k_is)
    (case km4 => k_is)
    (case am5 => k_is)
    (case im5 => k_is)
    (case lm5 => k_is)
    (case cm5 => k_is)
    (case km5 => k_is)
    (case am6 => k_is)
    (case im6 => k_is)
    (case lm6 => k_is)
    (case cm6 => k_is)
    (case km6 => k_is)
    (case am7 => k_is)
    (case im7 => k_is)
    (case lm7 => k_is)
    (case cm7 => k_is)
    (case km7 => k_is)
    (case am8 => k_is)
    (case im8 => k_is)
    (case lm8 => k_is)
    (case cm8 => k_is)
    (case km8 => k_is)
    (case ap0 => k_is)
    (case gp0 => k_is)
    (case tp0 => k_is)
    (case r_p0 => k_is)
    (case lp0 => k_is)
    (case cp0 => k_is)
    (case kp0 => k_is)
    (case ap1 => k_is)
    (case gp1 => k_is)
    (case tp1 => k_is)
    (case r_p1 => k_is)
    (case lp1 => k_is)
    (case cp1 => k_is)
    (case kp1 => k_is)
    (case ap2 => k_is)
    (case gp2 => k_is)
    (case tp2 => k_is)
    (case r_p2 => k_is)
    (case lp2 => k_is)
    (case cp2 => k_is)
    (case kp2 => k_is)
    (case ain => k_is)
    (case iin => k_is)
    (case lin => k_is)
    (case cin => k_is)
    (case kin => k_is)
    (case ltd => k_is)
    (case rd => k_is)
    (case ga => k_is)
    (case att => k_is)
    (case rct => k_is)
    (case fit => k_is)
    (case lt => k_is)
    (case ct => k_is)
    (case kt => k_is)
    (case nradd => k_is)
    (case nrsub => k_is)
    (case nrmul => k_is)
    (case nne => k_is)
    (case pg => k_is)
    (case hd => k_is)
    (case po => k_is)
    (case sa => k_is)
    (case mk => k_is)
    (case kc => k_is)
    (case nT => k_is)
    (case nB => k_is)
    (case ic => k_is)
    (case gt => k_is)
    (case tk => k_is)
    (case mo => k_is)
    (case sf => k_is)
    (case jc => k_is)
    (case tc => k_is)
    (case sCi => k_is)
    (case sic => k_is)
    (case ssc => k_is)
    (case aD => k_is)
    (case xD => k_is)
    (case eD => k_is)
    (case tD => k_is)
    (case kD => k_is)
    (case jD => k_is)
    (case sDD => first | k_is | rfl)
    (case sDR => k_is)
    (case ad => k_is)
    (case td => k_is)
    (case ld => k_is)
    (case cd => k_is)
    (case lcell => k_is)
    (case lcda => k_is)
    (case hvsc => rfl)
    (case hfile => first | rfl | kernel_rfl)
    (case htop => first | rfl | kernel_rfl)
    (case z_super => k_is)
    (case sup => ks_is)
    (case opn => k_is)
    (case z_isinstance => k_is)
    (case z_int => k_is)
    (case z_bool => k_is)
    (case z_str => k_is)
    (case z_len => k_is)
    (case z_max => k_is)
    (case z_min => k_is)
    (case z_zip => k_is)
    (case z_range => k_is)
    (case z_all => k_is)
    (case z_abs => k_is)
    (case z_divmod => k_is)
    (case z_repr => k_is)
