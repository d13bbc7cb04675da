import PyProof.Rows.All
import Wide.All
import OpenK.AllK
import Wide.FinOn
import HandS.ForMost
import HandS.More
import PyProof.ReprRoads
import PyProof.ReprDict
import HandS.FStr
import KE.KExcIs
import HandS.ExcIs
import HandS.ExcField
import KE.KExcSuper
import HandS.ExcInit
import HandS.Nested
import KE.KExcStr
import KE.KExcInit
import PyProof.InstStoreFacts
import HandS.EndTab
import KE.KNest
import HandS.Lambda
import HandS.ExcOwn
import KE.KOpsOwn
import KE.KCallOwn
import PyProof.InstEq
import HandS.SlotsOwn
import HandS.IsInst
import HandS.Star
import HandS.ClsMeth
import HandS.Property
import HandS.Style
import HandS.Wide
import HandS.WideBits
import HandS.TupAny
import HandS.Conv
import KE.KUnpack
import KE.KRevSl
import PyProof.FString2
import HandS.TryMany
import KE.SortData
import KE.KDictDisplayH
import HandS.Dict
import HandS.List
import HandS.Sort
import PyProof.Rows.ReprOcc
import PyProof.StrLawsRepr
import KE.KxStill
import HandS.Walk
import HandS.Deep
import HandS.TupSets
import HandS.Head0
import HandS.Head1
import HandS.Head2
import HandS.HeadHook1
import HandS.HeadHook2
import PySem.Challenge.RW_slotsums_k14_error_classes
set_option Elab.async false
set_option linter.all false
set_option maxRecDepth 100000
set_option maxHeartbeats 8000000
/-! Defs that ask what is being shown around them: FnOk where no repr is under way (guards = some []). -/
namespace L2
open PySem PySem.Spec PyProof.Rows
/-- the def keeps its promise wherever no repr is under way -/
structure FnG (P : Program) (w : World) (K : PySem.W.Frag) (mg : Str → Option Value) (base : Heap) (CX : CXT) (k : Nat) (f : Addr) (fd : FuncData) (ps : List Str) (sp : Sp) : Prop where
  len : ∀ vs H Q E, sp vs H Q E → vs.length = ps.length
  run : ∀ (A : Around) (outer : List Env) (s : Shared) (H : Hp) (args : Args) (us : List Value) (vs : List V) (Q : VK) (E : XK), A.guards = some [] → Room k A → Env0 P w K mg base A outer s H → BindsTo s fd args (ps.zip us) → Vals vs us → sp vs H Q E →
    codeAny (model P w) A (.call (.ref f) args) (CR CX outer P w H s Q E) s
section
variable {CX : CXT} {P : Program} {w : World} {K : PySem.W.Frag} {mg : Str → Option Value} {base : Heap} {k : Nat} {f : Addr} {fd : FuncData} {N ps : List Str} {sp : Sp}
theorem FnOk.gd (F : FnOk P w K mg base CX k f fd ps sp) : FnG P w K mg base CX k f fd ps sp := ⟨F.len, fun A outer s H args us vs Q E _ => F.run A outer s H args us vs Q E⟩
theorem FnG.mono {j : Nat} (F : FnG P w K mg base CX j f fd ps sp) (h : j ≤ k) : FnG P w K mg base CX k f fd ps sp := ⟨F.len, fun A outer s H args us vs Q E hg hr => F.run A outer s H args us vs Q E hg (hr.mono h)⟩
/-- a body walked where no repr is under way -/
theorem fn_ofG {name qual : Str} {params : Arguments} {body : List Stmt} {scope : Scope} {dV kV doc pm cdv ct oc : Value} {an od : Option Addr} {osl : Array (Option Value)}
    (lk : K.lookup f = some ⟨oc, od, .func (PySem.W.fnOf name qual params body scope dV kV doc pm an cdv ct), osl⟩) (hcd : PySem.W.codeIn K cdv qual = true) (S : FnScope N ps scope) (len : ∀ vs H Q E, sp vs H Q E → vs.length = ps.length)
    (hbody : ∀ (A : Around) (outer : List Env) (s : Shared) (H : Hp) (vs : List V) (Q : VK) (E : XK), A.guards = some [] → Room k (A.deeper (envOfC qual scope s.heap.objs.size f cdv)) → sp vs H Q E →
      ∃ t, PSs (cxOf CX P w K mg base N qual scope f cdv A outer s H E) body t ∧ t { nx := fun _ H' => Q .non H', rt := Q } (start N vs) H) :
    FnG P w K mg base CX (k + 1) f (PySem.W.fnOf name qual params body scope dV kV doc pm an cdv ct) ps sp := by
  refine ⟨len, fun A outer s H args us vs Q E gd hr e0 hb r hsp => ?_⟩
  have KX : K.In s.heap := e0.mod.kin.keeps fun b o e => (e0.bs b o e).1
  refine codeAny_call_function hr.depth (KX _ _ lk) rfl S.co S.gen rfl (PySem.W.codeRec_of KX hcd) (hb _ _ _ _ ?_)
  refine wpAny_newFunctionEnv_cells S.kind (fun ⟨n, v⟩ hy => (S.par n (List.of_mem_zip hy).1).imp id fun q => ⟨q, PySem.W.cellsFrom_some _ _ _ (.inl q)⟩) fun env he s1 x => ?_
  subst he
  refine ⟨(e0.mod.nolimit.keeps fun b o e => (e0.bs b o e).1).keeps x.toInCall.keep, codeAny_func ?_⟩
  obtain ⟨t, ht, hq⟩ := hbody A outer s H vs Q E gd (hr.deeper _) hsp
  refine wpAny_mono (ht.run [] s1 (start N vs) H _ (inv_start S hr.hd e0 (len _ _ _ _ hsp) r x) hq) (fun fl s' hs => ?_) fun e s' hs => hs
  cases fl with
  | ret u => obtain ⟨v, σ', H', J, rv, q⟩ := hs; exact ⟨v, H', J.os, J.bare, J.base, J.hok, rv, q⟩
  | next => obtain ⟨σ', H', J, q⟩ := hs; exact ⟨V.non, H', J.os, J.bare, J.base, J.hok, rfl, q⟩
  | brk => obtain ⟨_, _, _, q⟩ := hs; exact False.elim q
  | cont => obtain ⟨_, _, _, q⟩ := hs; exact False.elim q
theorem Fun.okG {x qual : Str} {st : Stmt} (F : Fun K x qual st f fd) (S : FnScope N ps (defScope st)) (len : ∀ vs H Q E, sp vs H Q E → vs.length = ps.length)
    (hbody : ∀ (cdv : Value) (A : Around) (outer : List Env) (s : Shared) (H : Hp) (vs : List V) (Q : VK) (E : XK), A.guards = some [] → Room k (A.deeper (envOfC qual (defScope st) s.heap.objs.size f cdv)) → sp vs H Q E →
      ∃ t, PSs (cxOf CX0 P w K mg base N qual (defScope st) f cdv A outer s H E).nox (defBody st) t ∧ t { nx := fun _ H' => Q .non H', rt := Q } (start N vs) H) : FnG P w K mg base CX0 (k + 1) f fd ps sp := by
  obtain ⟨oc, od, kV, doc, pm, an, cdv, ct, osl, rfl, lk, hcd⟩ := F.ex
  refine fn_ofG lk hcd S len fun A outer s H vs Q E gd hr hsp => ?_
  obtain ⟨t, h, q⟩ := hbody cdv A outer s H vs Q E gd hr hsp
  exact ⟨t, h.nox, q⟩
end
section
variable {X : Cx} {CX : CXT} {k : Nat} {f C : Addr} {fd : FuncData} {ps : List Str} {sp : Sp} {dvs : List V} {ds : List Value} {E : XK} {x m : Str} {p pos apos : Pos} {e o : Expr} {es : List Expr} {ta : TE} {t : TA}
theorem run_fnG {pins : List (Addr × Obj)} {σ : St} {H : Hp} {s : Shared} {Q : VK} {us : List Value} {vs : List V} (F : FnG X.prog X.w X.K X.mg X.base CX k f fd ps sp) (gd : X.A.guards = some []) (hr : Room k X.A) (hb : Binds X.K fd ps ds) (hd : Vals dvs ds) (hx : Passes CX X E)
    (I : Inv X pins σ H s) (r : Vals vs us) (h : sp (vs ++ dvs) H Q E) : wpAny (model X.prog X.w) X.A (call (.ref f) us) (EP X pins σ Q) X.xe s := by
  have r2 : Vals (vs ++ dvs) (us ++ ds) := r.append hd
  refine wpAny_call (codeAny_mono (F.run X.A X.stack s H ⟨us, []⟩ (us ++ ds) (vs ++ dvs) Q E gd hr I.env0 (hb s us I.kIn (by rw [← r2.length]; exact F.len _ _ _ _ h)) r2 h) fun r s' hq => ?_)
  cases r with
  | error e => exact hx pins σ H s e s' I hq
  | ok fl =>
    cases fl with
    | ret u => exact I.after hq
    | next => exact False.elim hq
    | brk => exact False.elim hq
    | cont => exact False.elim hq
theorem pe_callG (F : FnG X.prog X.w X.K X.mg X.base CX k f fd ps sp) (gd : X.A.guards = some []) (hr : Room k X.A) (hg : Gl X x) (hm : X.mg x = some (.ref f)) (hk : PySem.W.keepIn X.K (.ref f) = true) (hb : Binds X.K fd ps ds) (hd : Vals dvs ds) (hx : Passes CX X E)
    (ha : PA X (e :: es) t) (hdb : (x == ("__debug__" : Str)) = false := by decide) (he : starEach (e :: es) X.env = (false, eval e X.env) :: starEach es X.env := by rfl) (hpl : (backTo pos (starEach es X.env)).any (·.1) = false := by rfl) :
    PE X (.Call (.Name x p) (e :: es) [] pos) (tCall sp dvs E t) :=
  ⟨fun pins s σ H Q I h => wpAny_Call_Name_kw (ld_glob I hg hm (PySem.W.callWith_K (h₀ := X.base) I.ok.mod.kin hk (thn (ha.run pos pins s σ H _ I h) fun us s1 ⟨vs, H1, I1, r, q⟩ => ⟨I1.kIn, run_fnG F gd hr hb hd hx I1 r q⟩) he hpl) hdb)⟩
/-! ### repr of data -/
theorem call_reprD (gd : X.A.guards = some []) (hu : X.A.units + 70 < cLine) : CallR X (.builtin "repr") (fun xs H Q => ∃ a d, xs = [V.ref a] ∧ Dp X.K H (.ref a) d ∧ d.showable = true ∧ d.hasDict = false ∧ d.depth ≤ 64 ∧ d.shown.length ≤ sizeLine ∧ Q (.str d.shown) H) := by
  intro pins s σ H xs us Q I r h
  obtain ⟨a, d, rfl, hd, hs, hnd, hdp, hz, q⟩ := h
  obtain ⟨u, rfl, ru⟩ := vals1 r
  obtain rfl : u = Value.ref a := ru
  obtain ⟨as, rd⟩ := Dp.reads I d _ _ hd rfl
  refine PySem.repr_of_reads' rd hs (fun z => by rw [hnd] at z; cases z) gd (by omega) (fun _ _ e => e) (fun h' u tk kp => ?_) hz
  exact ⟨.str d.shown, H, I.kept (t' := tk) kp, ⟨_, rfl⟩, q⟩
end
end L2

/-! repr of lists whose elements have a __repr__ of their own. -/
namespace L2
open PySem PySem.Spec PyProof.Rows
theorem rl_depth {A : Around} {args : Args} : (A.under (.builtin "list.__repr__.loop" args)).depth ≤ A.depth + 1 := by
  first | exact Nat.le_of_eq rfl | simp [Around.under, Code.weight, Code.isCreation, Code.isGuard, Code.isCaller, Code.frames, Code.isFrame, guardIds]
theorem rl_units {A : Around} {args : Args} : (A.under (.builtin "list.__repr__.loop" args)).units ≤ A.units + 1 := by
  first | exact Nat.le_of_eq rfl | simp [Around.under, Code.cUnits, Code.frames, Code.isFrame]
theorem rl_frames {A : Around} {args : Args} : (A.under (.builtin "list.__repr__.loop" args)).frames = A.frames := by
  first | rfl | simp [Around.under, Code.envs, Code.isFrame, pushEnvs]
theorem rl_handled {A : Around} {args : Args} : (A.under (.builtin "list.__repr__.loop" args)).handled = A.handled := by
  first | rfl | simp [Around.under]
theorem Room.rl {k : Nat} {A : Around} (r : Room (k + 1) A) (args : Args) : Room k (A.under (.builtin "list.__repr__.loop" args)) :=
  ⟨by rw [rl_handled]; exact r.hd, by have := r.dp; have := @rl_depth A args; omega, by have := r.un; have := @rl_units A args; omega⟩
/-- v is shown as t, wherever there is room; J holds of the heap before and behind -/
def Sh (X : Cx) (k : Nat) (J : Hp → Prop) (v : V) (t : Str) : Prop :=
  ∀ (A' : Around) (pins : List (Addr × Obj)) (s : Shared) (σ : St) (H : Hp) (u : Value) (b : Nat) (E : Value → Shared → Prop) (Q : Str → Shared → Prop), A'.frames = some X.stack → Room k A' → Inv X pins σ H s → J H → RelV v u → b + t.length ≤ sizeLine →
    (∀ s' H', Inv X pins σ H' s' → J H' → Q t s') → wpAny (model X.prog X.w) A' (pyReprUnder b u) Q E s
theorem Sh.mono {X : Cx} {j k : Nat} {J : Hp → Prop} {v : V} {t : Str} (S : Sh X j J v t) (h : j ≤ k) : Sh X k J v t := fun A' pins s σ H u b E Q hf hr => S A' pins s σ H u b E Q hf (hr.mono h)
section
variable {X : Cx} {k : Nat} {J : Hp → Prop}
theorem sh_int {i : Int} (hi : i.natAbs.log2 < 1920) : Sh X k J (.int i) (toString i) := by
  intro A' pins s σ H u b E Q hf hr I j r hb q
  obtain ⟨t, rfl⟩ := r
  exact ReprIs.int t hi b hb A' E s Q fun tk => q _ H (I.tok tk) j
/-- an instance that has its own __repr__ -/
theorem sh_own {C g a : Addr} {sp : Sp} {t : Str} (hs : PySem.W.findIn X.K (.ref C) "__repr__" = some (some (.ref g))) (hf : PySem.W.isFn X.K (.ref g) = true) (F : FnR X.prog X.w X.K X.mg X.base CX0 k g sp)
    (hi : ∀ H, J H → ∃ dx fs, H a = some (.ins C dx fs)) (hsp : ∀ H, J H → sp [.ref a] H (fun r H' => r = .str t ∧ J H') E0) : Sh X k J (.ref a) t := by
  intro A' pins s σ H u b E Q hfr hr I j r hb q
  obtain rfl : u = Value.ref a := r
  obtain ⟨dx, fs, ha⟩ := hi H j
  obtain ⟨mA, M, _⟩ := ins_get I.hok ha
  obtain ⟨od, It, _⟩ := M.look
  refine wpAny_pyReprUnder_ref (by omega) ?_
  unfold pyReprObjUnder pyReprObjBy
  refine wpAny_bind (wpAny_cRoomFor hr.units0 ?_)
  refine wpAny_bind (wpAny_bind (It.type.here ((PySem.W.looks_findIn I.kIn hs).here ?_)))
  show wpAny _ _ (if (some (Value.ref g)).isNone = true then _ else _) _ _ _
  rw [if_neg (by simp)]
  have hcall : wpAny (model X.prog X.w) A' (call (.ref g) [.ref a]) (fun v s' => ∃ y tk, v = .str y tk ∧ Q y s') E s := by
    refine wpAny_call (codeAny_mono (F A' X.stack s H [.ref a] [.ref a] _ E0 hr ⟨hfr, I.env0.mod, I.env0.bs, I.env0.bsz, I.env0.funs, I.env0.frf, I.env0.hok, I.env0.bare⟩ (.cons rfl .nil) (hsp H j)) fun r s' hq => ?_)
    cases r with
    | error e => exact False.elim hq
    | ok fl =>
      cases fl with
      | ret u =>
        obtain ⟨v, H', I', rv, ev, j'⟩ := I.after hq
        subst ev
        obtain ⟨tk, rfl⟩ := rv
        exact ⟨t, tk, rfl, q _ _ I' j'⟩
      | next => exact False.elim hq
      | brk => exact False.elim hq
      | cont => exact False.elim hq
  refine wpAny_bind (m := callSpecialIfBoundBy? _ (.ref a) (Str.ofString "__repr__")) ?_
  simp only [callSpecialIfBoundBy?, bindSpecialIfBound?]
  refine wpAny_holding (wpAny_bind (wpAny_bind (wpAny_bind (It.type.here ((PySem.W.looks_findIn I.kIn hs).here ?_)))))
  refine wpAny_bind (wpAny_askSetting (wpAny_ite ?_))
  have fin : ∀ {Q' : Option Value → Shared → Prop}, (∀ y tk s', Q y s' → Q' (some (.str y tk)) s') → wpAny (model X.prog X.w) A' (call (.ref g) ([.ref a] ++ []) >>= fun v => pure (some v)) Q' E s := fun {Q'} hq => wpAny_bind (wpAny_mono hcall (fun v s' ⟨y, tk, e, h'⟩ => by subst e; exact wpAny_pure (hq y tk s' h')) fun _ _ h' => h')
  have fin2 : ∀ y tk s', Q y s' → wpAny (model X.prog X.w) A' (do if ← isInstance (.str y tk) (.type "str") then pure (Value.str y tk) else raiseError "TypeError" s!"__repr__ returned non-string (type {← typeNameOf (.str y tk)})") (fun v s' => ∃ x u, v = .str x u ∧ Q x s') E s' := fun y tk s' h => by
    refine wpAny_bind (wpAny_isInstance (T := "str") (b := true) rfl isSubtype_str_str ?_)
    exact wpAny_pure ⟨y, tk, rfl, h⟩
  split
  · exact wpAny_bind ((PySem.W.bind_fn I.kIn _ (beq_iff_eq.mp hf)).here (wpAny_pure (fin fin2)))
  · exact wpAny_tryCatch (wpAny_bind ((PySem.W.bind_fn I.kIn _ (beq_iff_eq.mp hf)).here (wpAny_pure (fin fin2))))
end
end L2

namespace L2
open PySem PySem.Spec PyProof.Rows
theorem in1_depth {A : Around} : A.in1.depth ≤ A.depth + 1 := by
  first | exact Nat.le_of_eq rfl | exact Nat.le_succ _ | simp [Around.in1]
theorem Room.in1' {k : Nat} {A : Around} (r : Room (k + 1) A) : Room k A.in1 :=
  ⟨r.hd, by have := r.dp; have := @in1_depth A; omega, by have := r.un; have e : A.in1.units = A.units + 1 := rfl; omega⟩
section
variable {X : Cx} {k : Nat} {J : Hp → Prop}
/-- repr(x), x an instance with its own __repr__ -/
theorem call_reprO {C g : Addr} {sp : Sp} {E : XK} (hs : PySem.W.findIn X.K (.ref C) "__repr__" = some (some (.ref g))) (hf : PySem.W.isFn X.K (.ref g) = true) (F : FnR X.prog X.w X.K X.mg X.base CX0 k g sp) (hr : Room (k + 1) X.A) :
    CallR X (.builtin "repr") (fun us H Q => ∃ a dx fs, us = [.ref a] ∧ H a = some (.ins C dx fs) ∧ sp [.ref a] H (fun v H' => ∃ t, v = .str t ∧ Q (.str t) H') E0) := by
  rintro pins s σ H _ us Q I r ⟨a, dx, fs, rfl, ha, q⟩
  rcases vals1 r with ⟨_, rfl, rfl⟩
  have M := (ins_get I.hok ha).choose_spec.1
  obtain ⟨od, It, _⟩ := M.look
  obtain ⟨m, hF⟩ := I.fr
  refine PySem.W.repr_K (by have := hr.un; show X.A.units + 1 < cLine; omega) hF I.ok.mod.kin It hs hf ?_
  have run := F X.A.in1 X.stack s H [.ref a] [.ref a] _ E0 hr.in1' I.env0.in1 (show Vals [V.ref a] [Value.ref a] from .cons rfl .nil) q
  refine wpAny_call (codeAny_mono run ?_)
  rintro (er | fl) s1 z
  · exact False.elim z
  · cases fl with
    | ret u =>
      obtain ⟨_, H1, J1, rv, t, rfl, w⟩ := I.after z
      obtain ⟨tk, rfl⟩ := rv
      exact ⟨.str t, H1, J1, ⟨tk, rfl⟩, w⟩
    | _ => exact False.elim z
end
end L2

/-! How values are shown, wherever a repr may be under way: B, the containers that must not be under way. -/
namespace L2
open PySem PySem.Spec PyProof.Rows
def Clr (g : List Code) (B : Addr → Prop) : Prop := ∀ c, B c → Clear g c
theorem Clr.nil (B : Addr → Prop) : Clr [] B := fun c _ => Clear.nil c
/-- v is shown as t: within a container, by !r, by repr(..); J holds of the heap before and behind -/
structure Sg (X : Cx) (k : Nat) (J : Hp → Prop) (B : Addr → Prop) (v : V) (t : Str) : Prop where
  under : ∀ (A' : Around) (g : List Code) (pins : List (Addr × Obj)) (s : Shared) (σ : St) (H : Hp) (u : Value) (b : Nat) (E : Value → Shared → Prop) (Q : Str → Shared → Prop), A'.frames = some X.stack → A'.guards = some g → Clr g B → Room k A' → Inv X pins σ H s → J H → RelV v u → b + t.length ≤ sizeLine →
    (∀ s' H', Inv X pins σ H' s' → J H' → Q t s') → wpAny (model X.prog X.w) A' (pyReprUnder b u) Q E s
  obj : ∀ (A' : Around) (g : List Code) (pins : List (Addr × Obj)) (s : Shared) (σ : St) (H : Hp) (u : Value) (E : Value → Shared → Prop) (Q : Value → Shared → Prop), A'.frames = some X.stack → A'.guards = some g → Clr g B → Room k A' → Inv X pins σ H s → J H → RelV v u → t.length ≤ sizeLine →
    (∀ s' H' tk, Inv X pins σ H' s' → J H' → Q (.str t tk) s') → wpAny (model X.prog X.w) A' (pyReprObj u) Q E s
  call : ∀ (A' : Around) (g : List Code) (pins : List (Addr × Obj)) (s : Shared) (σ : St) (H : Hp) (u : Value) (E : Value → Shared → Prop) (Q : Value → Shared → Prop), A'.frames = some X.stack → A'.guards = some g → Clr g B → Room (k + 1) A' → Inv X pins σ H s → J H → RelV v u → t.length ≤ sizeLine →
    (∀ s' H' tk, Inv X pins σ H' s' → J H' → Q (.str t tk) s') → wpAny (model X.prog X.w) A' (PySem.call (.builtin "repr") [u]) Q E s
theorem Sg.mono {X : Cx} {j k : Nat} {J : Hp → Prop} {B B' : Addr → Prop} {v : V} {t : Str} (S : Sg X j J B v t) (h : j ≤ k) (hB : ∀ b, B b → B' b) : Sg X k J B' v t :=
  ⟨fun A' g pins s σ H u b E Q hf hg hc hr => S.under A' g pins s σ H u b E Q hf hg (fun c hc' => hc c (hB c hc')) (hr.mono h), fun A' g pins s σ H u E Q hf hg hc hr => S.obj A' g pins s σ H u E Q hf hg (fun c hc' => hc c (hB c hc')) (hr.mono h),
   fun A' g pins s σ H u E Q hf hg hc hr => S.call A' g pins s σ H u E Q hf hg (fun c hc' => hc c (hB c hc')) (hr.mono (Nat.succ_le_succ h))⟩
section
variable {X : Cx} {k : Nat} {J : Hp → Prop} {B : Addr → Prop}
theorem sg_int {i : Int} (hi : i.natAbs.log2 < 1920) : Sg X k J B (.int i) (toString i) :=
  ⟨fun A' g pins s σ H u b E Q hf hg hc hr I j r hb q => by
    obtain ⟨t, rfl⟩ := r
    exact ReprIs.int t hi b hb A' E s Q fun tk => q _ H (I.tok tk) j,
  fun A' g pins s σ H u E Q hf hg hc hr I j r hb q => by
    obtain ⟨t, rfl⟩ := r
    exact pyReprObj_int hi (q _ H _ (I.tok _) j),
  fun A' g pins s σ H u E Q hf hg hc hr I j r hb q => by
    obtain ⟨t, rfl⟩ := r
    exact PySem.P.repr_of_int hi (q _ H _ (I.tok _) j)⟩
theorem sg_str {x : Str} (hx : (reprText x).length ≤ sizeLine) : Sg X k J B (.str x) (reprText x) :=
  ⟨fun A' g pins s σ H u b E Q hf hg hc hr I j r hb q => by
    obtain ⟨t, rfl⟩ := r
    exact ReprIs.str x t hx b hb A' E s Q fun tk => q _ H (I.tok tk) j,
  fun A' g pins s σ H u E Q hf hg hc hr I j r hb q => by
    obtain ⟨t, rfl⟩ := r
    exact pyReprObj_str (q _ H _ (I.tok _) j) hx,
  fun A' g pins s σ H u E Q hf hg hc hr I j r hb q => by
    obtain ⟨t, rfl⟩ := r
    exact PySem.P.repr_of_str (q _ H _ (I.tok _) j) hx⟩
theorem sg_bl {x : Bool} : Sg X k J B (.bl x) (if x then "True" else "False") :=
  ⟨fun A' g pins s σ H u b E Q hf hg hc hr I j r hb q => by
    obtain rfl : u = Value.bool x := r
    exact ReprIs.bool x b hb A' E s Q fun tk => q _ H (I.tok tk) j,
  fun A' g pins s σ H u E Q hf hg hc hr I j r hb q => by
    obtain rfl : u = Value.bool x := r
    exact pyReprObj_bool (q _ H _ (I.tok _) j),
  fun A' g pins s σ H u E Q hf hg hc hr I j r hb q => by
    obtain rfl : u = Value.bool x := r
    exact PySem.P.repr_of_bool (q _ H _ (I.tok _) j)⟩
theorem sg_non : Sg X k J B .non "None" :=
  ⟨fun A' g pins s σ H u b E Q hf hg hc hr I j r hb q => by
    obtain rfl : u = Value.none := r
    exact ReprIs.none b hb A' E s Q fun tk => q _ H (I.tok tk) j,
  fun A' g pins s σ H u E Q hf hg hc hr I j r hb q => by
    obtain rfl : u = Value.none := r
    exact pyReprObj_none (q _ H _ (I.tok _) j),
  fun A' g pins s σ H u E Q hf hg hc hr I j r hb q => by
    obtain rfl : u = Value.none := r
    exact PySem.P.repr_of_none (q _ H _ (I.tok _) j)⟩
/-- the empty list -/
theorem sg_nil {a : Addr} (hJ : ∀ H, J H → H a = some (.lst [])) : Sg X k J B (.ref a) "[]" :=
  ⟨fun A' g pins s σ H u b E Q hf hg hc hr I j r hb q => by
    obtain rfl : u = Value.ref a := r
    obtain ⟨_, its, nn, rv, ha⟩ := (show ObjOk X.prog X.w H s.heap a (.lst []) from I.hok a _ (hJ H j))
    cases rv
    exact wpAny_pyReprUnder_ref (by omega) (wpAny_pyReprObjUnder_list_empty ⟨_, ha, rfl⟩ hr.units0 ha rfl ⟨_, _, rfl, q _ H (I.tok _) j⟩),
  fun A' g pins s σ H u E Q hf hg hc hr I j r hb q => by
    obtain rfl : u = Value.ref a := r
    obtain ⟨_, its, nn, rv, ha⟩ := (show ObjOk X.prog X.w H s.heap a (.lst []) from I.hok a _ (hJ H j))
    cases rv
    exact wpAny_pyReprObj_list_empty ⟨_, ha, rfl⟩ hr.units0 ha rfl (q _ H _ (I.tok _) j),
  fun A' g pins s σ H u E Q hf hg hc hr I j r hb q => by
    obtain rfl : u = Value.ref a := r
    obtain ⟨_, its, nn, rv, ha⟩ := (show ObjOk X.prog X.w H s.heap a (.lst []) from I.hok a _ (hJ H j))
    cases rv
    exact call_repr_slot (by have := hr.un; omega) ⟨_, ha, rfl⟩ F.slot_list_repr.toG (call_list_repr_empty ⟨_, ha, rfl⟩ ha rfl ⟨_, _, rfl, q _ H _ (I.tok _) j⟩)⟩
end
end L2

namespace L2
open PySem PySem.Spec PyProof.Rows
abbrev lobj (acc : Array Value) (c : Nat) : Obj := { cls := .type "list", dict := none, data := .seq acc c, slots := #[] }
/-- a shown list bounds its length and its items' texts -/
theorem shown_in_line {xs : List V} {ts : List Str} (same : ts.length = xs.length) (fits : (listText ts).length ≤ sizeLine) : xs.length ≤ sizeLine ∧ ∀ t ∈ ts, t.length ≤ sizeLine := by
  obtain ⟨all, each, _⟩ := textFrom_len ts 0 "["
  have whole : (listText ts).length = (textFrom 0 "[" ts).length + 1 := strLen_append _ _
  have none_ : ¬ (0 : Nat) > 0 := by decide
  simp only [none_, if_false] at all
  exact ⟨by omega, fun t ht => Nat.le_trans (each t ht) (by omega)⟩
section
variable {X : Cx} {k : Nat} {J : Hp → Prop} {B : Addr → Prop}
theorem rg_run {A : Around} {g : List Code} {R : Result → Shared → Prop} {a P : Addr} {xs : List V} {ts : List Str} {b : Nat} {pins : List (Addr × Obj)} {σ : St} (hfr : A.frames = some X.stack) (hg : A.guards = some g) (hcl : Clr g B) (hna : ¬ B a) (hr : Room (k + 1) A) (hJ : ∀ H, J H → H a = some (.lst xs))
    (hlen : ts.length = xs.length) (hT : ∀ (i : Nat) (v : V), xs[i]? = some v → ∃ t, ts[i]? = some t ∧ Sg X k J B v t) (hsz : b + (listText ts).length ≤ sizeLine)
    (hP1 : X.s_0.heap.objs.size ≤ P) (hP2 : ∀ p ∈ X.pn ++ pins, p.1 ≠ P)
    (hR : ∀ s' H' u, Inv X pins σ H' s' → J H' → R (.ok (.ret (.str (listText ts) u))) s') :
    ∀ (n i : Nat) (s : Shared) (H : Hp) (acc : Array Value) (c : Nat) (done : List (Str × Tok)), xs.length - i = n → i ≤ xs.length → Inv X ((P, lobj acc c) :: pins) σ H s → J H → acc.toList = strValues done → done.map (·.1) = ts.take i →
    codeAny (model X.prog X.w) A (.builtin "list.__repr__.loop" ⟨[.ref a, rawInt i, .ref P, rawInt ((b + piled (ts.take i) : Nat) : Int)], []⟩) R s := by
  obtain ⟨hsz1, hsz2⟩ := shown_in_line hlen (Nat.le_trans (Nat.le_add_left _ _) hsz)
  have hsz3 : (listText ts).length ≤ sizeLine := by omega
  have hp3 := piled_le_listText ts
  have drop : ∀ {acc : Array Value} {c : Nat} {H : Hp} {s : Shared}, Inv X ((P, lobj acc c) :: pins) σ H s → Inv X pins σ H s := fun I => I.pins_of fun p hp => I.pin p (List.mem_append_right _ (List.mem_cons_of_mem _ hp))
  intro n
  induction n with
  | zero =>
    intro i s H acc c done hk hi I j hacc hdone
    have hin : i = xs.length := by omega
    obtain ⟨_, its, nn, rv, ha⟩ := (show ObjOk X.prog X.w H s.heap a (.lst xs) from I.hok a _ (hJ H j))
    have hlv := rv.length
    obtain ⟨hPo, hPn, hPl, hPf, _⟩ := I.pin (P, lobj acc c) (List.mem_append_right _ List.mem_cons_self)
    refine codeAny_builtin F.entry_list_repr_loop ?_
    show wpAny _ _ (Builtin.«list.__repr__.loop» ⟨[.ref a, .int i 0, .ref P, .int ((b + piled (ts.take i) : Nat) : Int) 0], []⟩) _ _ s
    rw [repr_loop_tree]
    refine wpAny_bind (wpAny_listItems ha rfl ?_)
    have over : its.toArray[(i : Int).toNat]? = none := by simp [hin, hlv]
    have whole : done.map (·.1) = ts := by simpa [hin, ← hlen] using hdone
    rw [over]
    dsimp only
    unfold reprEnd
    exact wpAny_bind (wpAny_listItems hPo rfl (by rw [hacc, repr_fold, whole]; exact wpAny_bind (wpAny_pure (wpAny_bind (wpAny_mkStr (wpAny_pure (hR _ H _ ((drop I).tok _) j)) hsz3)))))
  | succ n ih =>
    intro i s H acc c done hk hi I j hacc hdone
    have hlt : i < xs.length := by omega
    obtain ⟨_, its, nn, rv, ha⟩ := (show ObjOk X.prog X.w H s.heap a (.lst xs) from I.hok a _ (hJ H j))
    have hlv := rv.length
    obtain ⟨t, ht, hrep⟩ := hT i xs[i] (by simp [hlt])
    obtain ⟨u, hu, ru⟩ := rv.get (show xs[i]? = some xs[i] by simp [hlt])
    have grown := And.intro (piled_take_succ ht) (piled_take_le ts (i + 1))
    obtain ⟨hp1, hp2⟩ := grown
    have here : its.toArray[(i : Int).toNat]? = some u := by simpa using hu
    refine codeAny_builtin F.entry_list_repr_loop ?_
    change wpAny _ _ (Builtin.«list.__repr__.loop» ⟨[.ref a, .int i 0, .ref P, .int ((b + piled (ts.take i) : Nat) : Int) 0], []⟩) _ _ s
    rw [repr_loop_tree]
    refine wpAny_bind (wpAny_listItems ha rfl ?_)
    rw [here, Int.toNat_natCast]
    dsimp only
    refine wpAny_bind (wpAny_holding (hrep.under _ _ ((P, lobj acc c) :: pins) s σ H u (b + piled (ts.take i) + 1) _ _ (by rw [rl_frames]; exact hfr) (guards_under_guard (isGuard_list_loop _) hg) (fun c hc => (hcl c hc).cons (a := a) fun e => hna (e ▸ hc)) (hr.rl _) I j ru (by omega) fun s1 H1 I1 j1 => ?_))
    have short := hsz2 t (List.mem_of_getElem? ht)
    refine wpAny_bind (wpAny_mkStr (wpAny_bind ?_) short)
    change wpAny _ _ (updateSeq P _) _ _ _
    have hasz : acc.size ≤ sizeLine := by
      have gathered := congrArg List.length hacc
      have told := congrArg List.length hdone
      simp only [strValues, List.length_map, List.length_take, Array.length_toList] at gathered told
      omega
    obtain ⟨hPo, hPn, hPl, hPf, _⟩ := I1.pin (P, lobj acc c) (List.mem_append_right _ List.mem_cons_self)
    refine wpAny_updateSeq hPo rfl (wpAny_pure ⟨F.quiet_list_repr_loop _, ?_⟩) hasz
    rw [show ((i : Int) + 1) = ((i + 1 : Nat) : Int) by omega, show b + piled (ts.take i) + (t.length + 2) = b + piled (ts.take (i + 1)) by omega]
    obtain ⟨c', hself⟩ : ∃ c', (s1.heap.update P (Obj.mapSeq (·.push (.str t s1.toks)))).get? P = some (lobj (acc.push (.str t s1.toks)) c') := ⟨_, Heap.get?_update_self _ hPo rfl⟩
    refine ih (i + 1) _ H1 (acc.push (.str t s1.toks)) c' (done ++ [(t, s1.toks)]) (by omega) hlt ?_ j1 (by simp [hacc, strValues]) (by simp [List.take_add_one, ht, hdone])
    refine Inv.pins_of (pins := pins) ?_ fun p hp => ?_
    · refine ((drop I1).tok (s1.toks + 1)).turned (it := P) (t' := s1.toks + 1) (fun b o hb e => (Heap.get?_update_other _ _ (fun h : P = b => hb h.symm)).trans e) hPn hPl (.inr hP1) (fun x c' hc z => ?_) hP2
      obtain ⟨v, o, ho, hd⟩ := I1.cell x c' hc
      rw [z, hPo] at ho
      cases ho
      cases hd
    · rcases List.mem_cons.mp hp with rfl | hp
      · exact ⟨hself, hPn, hPl, hPf, fun v z => by cases z⟩
      · obtain ⟨q1, q2, q3, q4, q5⟩ := I1.pin p (List.mem_append_right _ (List.mem_cons_of_mem _ hp))
        exact ⟨(Heap.get?_update_other _ _ (fun h : P = p.1 => hP2 p (List.mem_append_right _ hp) h.symm)).trans q1, q2, q3, q4, q5⟩
/-- what listReprAt does -/
theorem rg_at {A : Around} {g : List Code} {R : Result → Shared → Prop} {a : Addr} {xs : List V} {ts : List Str} {b : Nat} {pins : List (Addr × Obj)} {σ : St} {s : Shared} {H : Hp} (hfr : A.frames = some X.stack) (hg : A.guards = some g) (hcl : Clr g fun c => c = a ∨ B c) (hna : ¬ B a) (hr : Room (k + 1) A) (I : Inv X pins σ H s) (j : J H) (hJ : ∀ H, J H → H a = some (.lst xs)) (hne : xs ≠ [])
    (hlen : ts.length = xs.length) (hT : ∀ (i : Nat) (v : V), xs[i]? = some v → ∃ t, ts[i]? = some t ∧ Sg X k J B v t) (hsz : b + (listText ts).length ≤ sizeLine)
    (hR : ∀ s' H' u, Inv X pins σ H' s' → J H' → R (.ok (.ret (.str (listText ts) u))) s') :
    wpAny (model X.prog X.w) A.in1 (Builtin.listReprAt b ⟨[.ref a], []⟩) (fun fin s' => match fin with | .done f => R (.ok f) s' | .again c' => c'.quiet = true ∧ codeAny (model X.prog X.w) A c' R s') (fun e s' => R (.error e) s') s := by
  obtain ⟨_, its, nn, rv, ha⟩ := (show ObjOk X.prog X.w H s.heap a (.lst xs) from I.hok a _ (hJ H j))
  cases its with
  | nil =>
    cases rv
    exact absurd rfl hne
  | cons x l =>
    have hca : Clear g a := hcl a (.inl rfl)
    refine wpAny_list_repr_head (A := A.in1) (g := g) hg (fun v rest kw hm => listSameRef_of_ne (hca _ _ _ _ hm)) ha rfl ?_
    refine wpAny_bind (m := newList []) (wpAny_newObj_type ?_)
    refine wpAny_pure ⟨F.quiet_list_repr_loop _, ?_⟩
    have kk : ∀ b o, s.heap.get? b = some o → (s.heap.push (lobj #[] 0)).get? b = some o := fun b o e => Heap.get?_push_of_some _ e
    have I1 : Inv X pins σ H { s with heap := s.heap.push (lobj #[] 0), toks := s.toks } := I.kept (t' := s.toks) kk
    have hget : (s.heap.push (lobj #[] 0)).get? s.heap.objs.size = some (lobj #[] 0) := Heap.get?_push_size _ rfl
    have nP : ∀ p ∈ X.pn ++ pins, p.1 ≠ s.heap.objs.size := fun p hp => Nat.ne_of_lt (Heap.lt_size (I.pin p hp).1)
    have I2 : Inv X ((s.heap.objs.size, lobj #[] 0) :: pins) σ H { s with heap := s.heap.push (lobj #[] 0), toks := s.toks } := I1.pins_of fun p hp => by
      rcases List.mem_cons.mp hp with rfl | hp
      · exact ⟨hget, I.hok.fresh (Nat.le_refl _), Nat.ne_of_gt I.lt, I.nofs (Nat.le_refl _), fun v z => by cases z⟩
      · exact I1.pin p (List.mem_append_right _ hp)
    exact rg_run (A := A) (R := R) (b := b) (σ := σ) (pins := pins) hfr hg (fun c hc => hcl c (.inr hc)) hna hr hJ hlen hT hsz I.sz nP hR xs.length 0 _ H #[] 0 [] (by omega) (Nat.zero_le _) I2 j rfl rfl
theorem rg_call {A : Around} {g : List Code} {E : Value → Shared → Prop} {Q : Value → Shared → Prop} {a : Addr} {xs : List V} {ts : List Str} {pins : List (Addr × Obj)} {σ : St} {s : Shared} {H : Hp} (hfr : A.frames = some X.stack) (hg : A.guards = some g) (hcl : Clr g fun c => c = a ∨ B c) (hna : ¬ B a) (hr : Room (k + 1) A) (I : Inv X pins σ H s) (j : J H) (hJ : ∀ H, J H → H a = some (.lst xs)) (hne : xs ≠ [])
    (hlen : ts.length = xs.length) (hT : ∀ (i : Nat) (v : V), xs[i]? = some v → ∃ t, ts[i]? = some t ∧ Sg X k J B v t) (hsz : (listText ts).length ≤ sizeLine)
    (hR : ∀ s' H' u, Inv X pins σ H' s' → J H' → Q (.str (listText ts) u) s') : wpAny (model X.prog X.w) A (call (.builtin "list.__repr__") [.ref a]) Q E s := by
  obtain ⟨_, its, nn, rv, ha⟩ := (show ObjOk X.prog X.w H s.heap a (.lst xs) from I.hok a _ (hJ H j))
  exact wpAny_call (codeAny_call_builtin F.slot_list_repr.plain F.entry_list_repr (F.slot_list_repr.check _ _ _ _ _ _ _ _ ⟨_, ha, rfl⟩ (F.args_list_repr_1 _)
    (rg_at (R := callEnd Q E) (b := 0) hfr hg hcl hna hr I j hJ hne hlen hT (by omega) hR)))
/-- a list -/
theorem sg_list {a : Addr} {xs : List V} {ts : List Str} (hJ : ∀ H, J H → H a = some (.lst xs)) (hne : xs ≠ []) (hna : ¬ B a) (hlen : ts.length = xs.length) (hT : ∀ (i : Nat) (v : V), xs[i]? = some v → ∃ t, ts[i]? = some t ∧ Sg X k J B v t) :
    Sg X (k + 1) J (fun c => c = a ∨ B c) (.ref a) (listText ts) :=
  ⟨fun A' g pins s σ H u b E Q hf hg hc hr I j r hb q => by
    obtain rfl : u = Value.ref a := r
    obtain ⟨_, its, nn, rv, ha⟩ := (show ObjOk X.prog X.w H s.heap a (.lst xs) from I.hok a _ (hJ H j))
    refine wpAny_pyReprUnder_ref (by omega) (wpAny_pyReprObjUnder_twin (twin := "list.__repr__.under") ⟨_, ha, rfl⟩ F.slot_list_repr.toG rfl hr.units0 ?_)
    exact call_twin_plain F.plain_list_repr_under F.entry_list_repr_under F.check_list_repr_under ⟨_, ha, rfl⟩ F.slot_list_repr.toG (F.args_list_repr_1 _)
      (rg_at (R := callEnd _ E) (b := b) hf hg hc hna hr I j hJ hne hlen hT hb fun s' H' u I' j' => ⟨⟨_, _, rfl⟩, _, _, rfl, q s' H' I' j'⟩),
  fun A' g pins s σ H u E Q hf hg hc hr I j r hb q => by
    obtain rfl : u = Value.ref a := r
    obtain ⟨_, its, nn, rv, ha⟩ := (show ObjOk X.prog X.w H s.heap a (.lst xs) from I.hok a _ (hJ H j))
    have hTy : s.TypeIs (.ref a) "list" := ⟨_, ha, rfl⟩
    unfold pyReprObj
    refine wpAny_bind (wpAny_cRoomFor hr.units0 ?_)
    refine wpAny_bind (wpAny_specialOf (name := Str.ofString "__repr__") hTy F.slot_list_repr.lookup ?_)
    refine wpAny_bind (m := callSpecialIfBound? (.ref a) (Str.ofString "__repr__")) (wpAny_callSpecialIfBound?_slot (name := Str.ofString "__repr__") hTy F.slot_list_repr ?_)
    refine rg_call hf hg hc hna hr I j hJ hne hlen hT hb fun s' H' u I' j' => ?_
    exact wpAny_bind (wpAny_isInstance (T := "str") (b := true) rfl isSubtype_str_str (wpAny_pure (q s' H' u I' j'))),
  fun A' g pins s σ H u E Q hf hg hc hr I j r hb q => by
    obtain rfl : u = Value.ref a := r
    obtain ⟨_, its, nn, rv, ha⟩ := (show ObjOk X.prog X.w H s.heap a (.lst xs) from I.hok a _ (hJ H j))
    refine call_repr_slot (by have := hr.un; omega) ⟨_, ha, rfl⟩ F.slot_list_repr.toG ?_
    exact rg_call (A := A'.in1) hf hg hc hna hr.in1' I j hJ hne hlen hT hb fun s' H' u I' j' => ⟨_, _, rfl, q s' H' u I' j'⟩⟩
end
end L2

namespace L2
open PySem PySem.Spec PyProof.Rows PySem.Builtin
inductive SgAll (X : Cx) (k : Nat) (J : Hp → Prop) (B : Addr → Prop) : List V → List Str → Prop
  | nil : SgAll X k J B [] []
  | cons {v : V} {t : Str} {vs : List V} {ts : List Str} : Sg X k J B v t → SgAll X k J B vs ts → SgAll X k J B (v :: vs) (t :: ts)
theorem SgAll.length {X : Cx} {k : Nat} {J : Hp → Prop} {B : Addr → Prop} : ∀ {vs : List V} {ts : List Str}, SgAll X k J B vs ts → ts.length = vs.length
  | _, _, .nil => rfl
  | _, _, .cons _ h => by simp [h.length]
theorem SgAll.at_ {X : Cx} {k : Nat} {J : Hp → Prop} {B : Addr → Prop} : ∀ {vs : List V} {ts : List Str}, SgAll X k J B vs ts → ∀ (i : Nat) (v : V), vs[i]? = some v → ∃ t, ts[i]? = some t ∧ Sg X k J B v t
  | _, _, .nil, i, v, h => by simp at h
  | _, _, .cons h r, 0, v, e => by
    obtain rfl := Option.some.inj e
    exact ⟨_, rfl, h⟩
  | _, _, .cons h r, i + 1, v, e => r.at_ i v (by simpa using e)
theorem SgAll.mono {X : Cx} {j k : Nat} {J : Hp → Prop} {B B' : Addr → Prop} (h : j ≤ k) (hB : ∀ b, B b → B' b) : ∀ {vs : List V} {ts : List Str}, SgAll X j J B vs ts → SgAll X k J B' vs ts
  | _, _, .nil => .nil
  | _, _, .cons a r => .cons (a.mono h hB) (r.mono h hB)
theorem tr_depth {A : Around} {args : Args} : (A.under (.builtin "tuple.__repr__" args)).depth ≤ A.depth + 1 := by
  first | exact Nat.le_of_eq rfl | simp [Around.under, Code.weight, Code.isCreation, Code.isGuard, Code.isCaller, Code.frames, Code.isFrame, guardIds]
theorem tr_frames {A : Around} {args : Args} : (A.under (.builtin "tuple.__repr__" args)).frames = A.frames := by
  first | rfl | simp [Around.under, Code.envs, Code.isFrame, pushEnvs]
theorem tr_handled {A : Around} {args : Args} : (A.under (.builtin "tuple.__repr__" args)).handled = A.handled := by
  first | rfl | simp [Around.under]
theorem tu_depth {A : Around} {args : Args} : (A.under (.builtin "tuple.__repr__.under" args)).depth ≤ A.depth + 1 := by
  first | exact Nat.le_of_eq rfl | simp [Around.under, Code.weight, Code.isCreation, Code.isGuard, Code.isCaller, Code.frames, Code.isFrame, guardIds]
theorem tu_frames {A : Around} {args : Args} : (A.under (.builtin "tuple.__repr__.under" args)).frames = A.frames := by
  first | rfl | simp [Around.under, Code.envs, Code.isFrame, pushEnvs]
theorem tu_handled {A : Around} {args : Args} : (A.under (.builtin "tuple.__repr__.under" args)).handled = A.handled := by
  first | rfl | simp [Around.under]
theorem Room.tr {k : Nat} {A : Around} (r : Room (k + 1) A) (args : Args) : Room k (A.under (.builtin "tuple.__repr__" args)) :=
  ⟨by rw [tr_handled]; exact r.hd, by have := r.dp; have := @tr_depth A args; omega, by have := r.un; have := units_under_tuple_repr A args; omega⟩
theorem Room.tu {k : Nat} {A : Around} (r : Room (k + 1) A) (args : Args) : Room k (A.under (.builtin "tuple.__repr__.under" args)) :=
  ⟨by rw [tu_handled]; exact r.hd, by have := r.dp; have := @tu_depth A args; omega, by have := r.un; have := units_under_tuple_repr_under A args; omega⟩
section
variable {X : Cx} {k : Nat} {J : Hp → Prop} {B : Addr → Prop}
theorem tg_fold {A : Around} {g : List Code} {E : Value → Shared → Prop} {pins : List (Addr × Obj)} {σ : St} (hfr : A.frames = some X.stack) (hg : A.guards = some g) (hcl : Clr g B) (hr : Room k A) :
    ∀ (vs : List V) (us : List Value) (ts : List Str) (acc : Array Str) (n : Nat) (s : Shared) (H : Hp) (Q : (Array Str × Nat) → Shared → Prop), Vals vs us → SgAll X k J B vs ts → n + piled ts ≤ sizeLine → Inv X pins σ H s → J H →
    (∀ s' H', Inv X pins σ H' s' → J H' → Q ⟨acc ++ ts.toArray, n + piled ts⟩ s') → wpAny (model X.prog X.w) A (forIn us (⟨acc, n⟩ : (Array Str × Nat)) tupBody) Q E s := by
  intro vs
  induction vs with
  | nil =>
    intro us ts acc n s H Q rv hT _ I j h
    cases rv
    cases hT
    have h0 := h s H I j
    simp only [List.forIn_nil]
    exact wpAny_pure (by simpa [piled] using h0)
  | cons x l ih =>
    intro us ts acc n s H Q rv hT hn I j h
    cases rv with
    | cons r rr =>
      cases hT with
      | cons hx hl =>
        rename_i t ts'
        rw [piled_cons] at hn
        rw [List.forIn_cons]
        refine wpAny_bind (wpAny_bind (hx.under _ _ pins s σ H _ (n + 1) _ _ hfr hg hcl hr I j r (by omega) fun s1 H1 I1 j1 => wpAny_pure ?_))
        refine ih _ ts' (acc.push t) (n + (t.length + 2)) _ H1 Q rr hl (by omega) I1 j1 fun s2 H2 I2 j2 => ?_
        have h1 := h s2 H2 I2 j2
        have e : n + piled (t :: ts') = n + (t.length + 2) + piled ts' := by rw [piled_cons]; omega
        rw [e] at h1
        simpa using h1
theorem tg_at {A : Around} {g : List Code} {R : Result → Shared → Prop} {a : Addr} {xs : List V} {ts : List Str} {b : Nat} {pins : List (Addr × Obj)} {σ : St} {s : Shared} {H : Hp} {id : String} {rest : List Value}
    (hcg : (Code.builtin id ⟨.ref a :: rest, []⟩).isGuard = true) (hru : Room k (A.under (.builtin id ⟨.ref a :: rest, []⟩))) (hfu : (A.under (.builtin id ⟨.ref a :: rest, []⟩)).frames = some X.stack) (hg : A.guards = some g) (hcl : Clr g fun c => c = a ∨ B c) (hna : ¬ B a) (I : Inv X pins σ H s) (j : J H) (hJ : ∀ H, J H → H a = some (.tup xs))
    (hT : SgAll X k J B xs ts) (hsz : b + (tupleText ts).length ≤ sizeLine) (hR : ∀ s' H' u, Inv X pins σ H' s' → J H' → R (.ok (.ret (.str (tupleText ts) u))) s') :
    wpOwn (model X.prog X.w) A (.builtin id ⟨.ref a :: rest, []⟩) (Builtin.tupleReprAt b ⟨[.ref a], []⟩) (fun fin s' => match fin with | .done f => R (.ok f) s' | .again c' => c'.quiet = true ∧ codeAny (model X.prog X.w) A c' R s') (fun e s' => R (.error e) s') s := by
  obtain ⟨_, its, rv, ob, ha, hc, hd⟩ := (show ObjOk X.prog X.w H s.heap a (.tup xs) from I.hok a _ (hJ H j))
  obtain ⟨n, hd⟩ := hd
  have hca : Clear g a := hcl a (.inl rfl)
  have hlen : ts.length = its.toArray.size := by rw [hT.length, rv.length]; simp
  have hp := piled_le_tupleText ts
  have hsz0 := Nat.le_trans (Nat.le_add_left (tupleText ts).length b) hsz
  rw [tuple_repr_tree, tupleReprUnderWay_eq]
  refine wpOwn_bind (wpOwn_stackTailAny hg (tupGuardF_off _) (tupGuardF_pos _) ?_)
  have away : (g.any fun c => tupGuardF (.ref a) (c, default)) = false := List.any_eq_false.mpr fun c hcm => by simp [tupGuardF_of_clear hca c hcm]
  rw [away]
  refine wpOwn_of_wpAny ?_
  show wpAny _ _ (tupleReprRest b (.ref a)) _ _ s
  unfold tupleReprRest Builtin.Tuple.tupleItemsOf
  refine wpAny_bind (wpAny_bind (wpAny_seqItems ha hd (wpAny_pure ?_)))
  rw [← Array.forIn_toList]
  refine wpAny_bind (tg_fold (pins := pins) (σ := σ) hfu (guards_under_guard hcg hg) (fun c hc => (hcl c (.inr hc)).cons (a := a) fun e => hna (e ▸ hc)) hru xs _ ts _ _ _ H _ rv hT (by omega) I j fun s1 H1 I1 j1 => ?_)
  refine wpAny_bind (wpAny_mkStr (wpAny_pure ?_) (by simpa [tupleText, hlen] using hsz0))
  have h1 := hR { s1 with toks := s1.toks + 1 } H1 s1.toks (I1.tok _) j1
  simpa [tupleText, hlen] using h1
end
end L2

namespace L2
open PySem PySem.Spec PyProof.Rows PySem.Builtin
section
variable {X : Cx} {k : Nat} {J : Hp → Prop} {B : Addr → Prop}
/-- a tuple -/
theorem sg_tup {a : Addr} {xs : List V} {ts : List Str} (hJ : ∀ H, J H → H a = some (.tup xs)) (hna : ¬ B a) (hT : SgAll X k J B xs ts) : Sg X (k + 1) J (fun c => c = a ∨ B c) (.ref a) (tupleText ts) :=
  ⟨fun A' g pins s σ H u b E Q hf hg hc hr I j r hb q => by
    obtain rfl : u = Value.ref a := r
    obtain ⟨_, its, rv, ob, ha, hcl, hd⟩ := (show ObjOk X.prog X.w H s.heap a (.tup xs) from I.hok a _ (hJ H j))
    refine wpAny_pyReprUnder_ref (by omega) (wpAny_pyReprObjUnder_twin (twin := "tuple.__repr__.under") ⟨_, ha, hcl⟩ F.slot_tuple_repr rfl hr.units0 ?_)
    exact call_twin_own (F.quiet_tuple_repr_under _) F.entry_tuple_repr_under F.check_tuple_repr_under ⟨_, ha, hcl⟩ F.slot_tuple_repr (F.args_tuple_repr_1 _)
      (tg_at (R := callEnd _ E) (b := b) (isGuard_tuple_repr_under _) (hr.tu _) (by rw [tu_frames]; exact hf) hg hc hna I j hJ hT hb fun s' H' u I' j' => ⟨⟨_, _, rfl⟩, _, _, rfl, q s' H' I' j'⟩),
  fun A' g pins s σ H u E Q hf hg hc hr I j r hb q => by
    obtain rfl : u = Value.ref a := r
    obtain ⟨_, its, rv, ob, ha, hcl, hd⟩ := (show ObjOk X.prog X.w H s.heap a (.tup xs) from I.hok a _ (hJ H j))
    have hTy : s.TypeIs (.ref a) "tuple" := ⟨_, ha, hcl⟩
    unfold pyReprObj
    refine wpAny_bind (wpAny_cRoomFor hr.units0 ?_)
    refine wpAny_bind (wpAny_specialOf (name := Str.ofString "__repr__") hTy F.slot_tuple_repr.lookup ?_)
    refine wpAny_bind (m := callSpecialIfBound? (.ref a) (Str.ofString "__repr__")) (wpAny_callSpecialIfBound?_slotG (name := Str.ofString "__repr__") hTy F.slot_tuple_repr ?_)
    refine wpAny_call (codeAny_call_builtin_own (Code.quiet_builtin _ (by decide +kernel)) F.entry_tuple_repr (F.slot_tuple_repr.check _ _ _ _ _ _ _ _ hTy (F.args_tuple_repr_1 _)
      (tg_at (R := callEnd _ E) (b := 0) (isGuard_tuple_repr _) (hr.tr _) (by rw [tr_frames]; exact hf) hg hc hna I j hJ hT (by omega) fun s' H' u I' j' => ?_)))
    exact wpAny_bind (wpAny_isInstance (T := "str") (b := true) rfl isSubtype_str_str (wpAny_pure (q s' H' u I' j'))),
  fun A' g pins s σ H u E Q hf hg hc hr I j r hb q => by
    obtain rfl : u = Value.ref a := r
    obtain ⟨_, its, rv, ob, ha, hcl, hd⟩ := (show ObjOk X.prog X.w H s.heap a (.tup xs) from I.hok a _ (hJ H j))
    have hTy : s.TypeIs (.ref a) "tuple" := ⟨_, ha, hcl⟩
    refine call_repr_slot (by have := hr.un; omega) hTy F.slot_tuple_repr ?_
    exact wpAny_call (codeAny_call_builtin_own (Code.quiet_builtin _ (by decide +kernel)) F.entry_tuple_repr (F.slot_tuple_repr.check _ _ _ _ _ _ _ _ hTy (F.args_tuple_repr_1 _)
      (tg_at (A := A'.in1) (R := callEnd _ E) (b := 0) (isGuard_tuple_repr _) (hr.in1'.tr _) (by rw [tr_frames]; exact hf) hg hc hna I j hJ hT (by omega) fun s' H' u I' j' => ⟨_, _, rfl, q s' H' u I' j'⟩)))⟩
/-- the empty dict -/
theorem sg_d0 {a : Addr} (hJ : ∀ H, J H → H a = some (.dK [])) (hB : B a) : Sg X (k + 1) J B (.ref a) (dictText []) :=
  ⟨fun A' g pins s σ H u b E Q hf hg hc hr I j r hb q => by
    obtain rfl : u = Value.ref a := r
    obtain ⟨_, hS, vs, rv, ob, es, ep, ha, hx, hd, hk, hp, hnd⟩ := (show ObjOk X.prog X.w H s.heap a (.dK []) from I.hok a _ (hJ H j))
    cases rv
    have he : es.toList = [] := by cases hes : es.toList with | nil => rfl | cons a b => rw [hes] at hp; cases hp
    refine (ReprK.dict (as := []) (h₀ := s.heap) (d := 0) ha hx.1 hd hS (by simp) (by rw [he]; exact .nil)) b hb A' g E s Q hg (fun c hc' => hc c (by rw [List.mem_singleton.mp hc']; exact hB)) (by have := hr.un; omega) (fun _ _ e => e) fun h' tk hkp => ?_
    exact q _ H (I.kept hkp) j,
  fun A' g pins s σ H u E Q hf hg hc hr I j r hb q => by
    obtain rfl : u = Value.ref a := r
    obtain ⟨_, hS, vs, rv, ob, es, ep, ha, hx, hd, hk, hp, hnd⟩ := (show ObjOk X.prog X.w H s.heap a (.dK []) from I.hok a _ (hJ H j))
    cases rv
    have he : es.toList = [] := by cases hes : es.toList with | nil => rfl | cons a b => rw [hes] at hp; cases hp
    refine wpAny_pyReprObj_dictK (as := []) (h₀ := s.heap) (d := 0) ha hx.1 hd hS (by simp) (by rw [he]; exact .nil) hg (fun c hc' => hc c (by rw [List.mem_singleton.mp hc']; exact hB)) (by have := hr.un; omega) (fun _ _ e => e) (fun h' u tk hkp => ?_) hb
    exact q _ H _ (I.kept hkp) j,
  fun A' g pins s σ H u E Q hf hg hc hr I j r hb q => by
    obtain rfl : u = Value.ref a := r
    obtain ⟨_, hS, vs, rv, ob, es, ep, ha, hx, hd, hk, hp, hnd⟩ := (show ObjOk X.prog X.w H s.heap a (.dK []) from I.hok a _ (hJ H j))
    cases rv
    have he : es.toList = [] := by cases hes : es.toList with | nil => rfl | cons a b => rw [hes] at hp; cases hp
    refine call_repr_slot (by have := hr.un; omega) ⟨_, ha, hx.1⟩ F.slot_dict_repr ?_
    refine call_dict_reprK (A := A'.in1) (as := []) (h₀ := s.heap) (d := 0) ha hx.1 hd hS (by simp) (by rw [he]; exact .nil) hg (fun c hc' => hc c (by rw [List.mem_singleton.mp hc']; exact hB)) (by have := hr.un; show A'.units + 1 + 1 < cLine; omega) (fun _ _ e => e) (fun h' u tk hkp => ?_) hb
    exact ⟨_, _, rfl, q _ H _ (I.kept hkp) j⟩⟩
/-- repr(v) -/
theorem call_sg (gd : X.A.guards = some []) (hr : Room (k + 1) X.A) : CallR X (.builtin "repr") (fun us H Q => ∃ (v : V) (t : Str) (J : Hp → Prop) (B : Addr → Prop), us = [v] ∧ J H ∧ Sg X k J B v t ∧ t.length ≤ sizeLine ∧ ∀ H', J H' → Q (.str t) H') := by
  intro pins s σ H xs us Q I r h
  obtain ⟨v, t, J, B, rfl, j, S, hz, q⟩ := h
  obtain ⟨u, rfl, ru⟩ := vals1 r
  exact S.call X.A [] pins s σ H u _ _ I.ok.frames gd (Clr.nil _) hr I j ru hz fun s' H' tk I' j' => ⟨.str t, H', I', ⟨tk, rfl⟩, q H' j'⟩
/-- {e!r} -/
def tFmtG (X : Cx) (k : Nat) (te : TE) : TE := fun σ H Q => te σ H fun v H1 => ∃ (t : Str) (J : Hp → Prop) (B : Addr → Prop), J H1 ∧ Sg X k J B v t ∧ t.length ≤ sizeLine ∧ ∀ H', J H' → Q (.str t) H'
theorem pe_fmtG {e : Expr} {te : TE} {pos : Pos} (gd : X.A.guards = some []) (hr : Room k X.A) (he : PE X e te) : PE X (.FormattedValue e 114 none pos) (tFmtG X k te) := by
  refine ⟨fun pins s σ H Q I h => ?_⟩
  refine wpAny_FormattedValue_repr (thn (he.run pins s σ H _ I h) fun u s1 ⟨v, H1, I1, rv, t, J, B, j, S, hz, q⟩ => ?_)
  refine S.obj X.A [] pins s1 σ H1 u _ _ I.ok.frames gd (Clr.nil _) hr I1 j rv hz fun s' H' tk I' j' => ?_
  exact wpAny_formatField_str ⟨.str t, H', I'.tok _, ⟨_, rfl⟩, q H' j'⟩ ⟨.str t, H', I'.tok _, ⟨_, rfl⟩, q H' j'⟩ hz
end
end L2

namespace L2
open PySem PySem.Spec PyProof.Rows
section
variable {X : Cx} {k : Nat} {J : Hp → Prop} {B : Addr → Prop}
theorem obj_own {C g a : Addr} {sp : Sp} {t : Str} (hs : PySem.W.findIn X.K (.ref C) "__repr__" = some (some (.ref g))) (hf : PySem.W.isFn X.K (.ref g) = true) (F : FnR X.prog X.w X.K X.mg X.base CX0 k g sp)
    (hi : ∀ H, J H → ∃ dx fs, H a = some (.ins C dx fs)) (hsp : ∀ H, J H → sp [.ref a] H (fun r H' => r = .str t ∧ J H') E0) :
    ∀ (A' : Around) (g : List Code) (pins : List (Addr × Obj)) (s : Shared) (σ : St) (H : Hp) (u : Value) (E : Value → Shared → Prop) (Q : Value → Shared → Prop), A'.frames = some X.stack → A'.guards = some g → Clr g B → Room k A' → Inv X pins σ H s → J H → RelV (.ref a) u → t.length ≤ sizeLine →
    (∀ s' H' tk, Inv X pins σ H' s' → J H' → Q (.str t tk) s') → wpAny (model X.prog X.w) A' (pyReprObj u) Q E s := by
  intro A' g' pins s σ H u E Q hfr _ _ hr I j r hb q
  obtain rfl : u = Value.ref a := r
  obtain ⟨dx, fs, ha⟩ := hi H j
  obtain ⟨mA, M, _⟩ := ins_get I.hok ha
  obtain ⟨od, It, _⟩ := M.look
  rw [pyReprObj_eq_pyReprObjBy]
  unfold pyReprObjBy
  refine wpAny_bind (wpAny_cRoomFor hr.units0 ?_)
  refine wpAny_bind (wpAny_bind (It.type.here ((PySem.W.looks_findIn I.kIn hs).here ?_)))
  show wpAny _ _ (if (some (Value.ref g)).isNone = true then _ else _) _ _ _
  rw [if_neg (by simp)]
  have hcall : wpAny (model X.prog X.w) A' (call (.ref g) [.ref a]) (fun v s' => ∃ y tk, v = .str y tk ∧ Q (.str y tk) s') E s := by
    refine wpAny_call (codeAny_mono (F A' X.stack s H [.ref a] [.ref a] _ E0 hr ⟨hfr, I.env0.mod, I.env0.bs, I.env0.bsz, I.env0.funs, I.env0.frf, I.env0.hok, I.env0.bare⟩ (.cons rfl .nil) (hsp H j)) fun r s' hq => ?_)
    cases r with
    | error e => exact False.elim hq
    | ok fl =>
      cases fl with
      | ret u =>
        obtain ⟨v, H', I', rv, ev, j'⟩ := I.after hq
        subst ev
        obtain ⟨tk, rfl⟩ := rv
        exact ⟨t, tk, rfl, q _ _ tk I' j'⟩
      | next => exact False.elim hq
      | brk => exact False.elim hq
      | cont => exact False.elim hq
  refine wpAny_bind (m := callSpecialIfBoundBy? _ (.ref a) (Str.ofString "__repr__")) ?_
  simp only [callSpecialIfBoundBy?, bindSpecialIfBound?]
  refine wpAny_holding (wpAny_bind (wpAny_bind (wpAny_bind (It.type.here ((PySem.W.looks_findIn I.kIn hs).here ?_)))))
  refine wpAny_bind (wpAny_askSetting (wpAny_ite ?_))
  have fin : ∀ {Q' : Option Value → Shared → Prop}, (∀ y tk s', Q (.str y tk) s' → Q' (some (.str y tk)) s') → wpAny (model X.prog X.w) A' (call (.ref g) ([.ref a] ++ []) >>= fun v => pure (some v)) Q' E s := fun {Q'} hq => wpAny_bind (wpAny_mono hcall (fun v s' ⟨y, tk, e, h'⟩ => by subst e; exact wpAny_pure (hq y tk s' h')) fun _ _ h' => h')
  have fin2 : ∀ y tk s', Q (.str y tk) s' → wpAny (model X.prog X.w) A' (do if ← isInstance (.str y tk) (.type "str") then pure (Value.str y tk) else raiseError "TypeError" s!"__repr__ returned non-string (type {← typeNameOf (.str y tk)})") Q E s' := fun y tk s' h => by
    refine wpAny_bind (wpAny_isInstance (T := "str") (b := true) rfl isSubtype_str_str ?_)
    exact wpAny_pure h
  split
  · exact wpAny_bind ((PySem.W.bind_fn I.kIn _ (beq_iff_eq.mp hf)).here (wpAny_pure (fin fin2)))
  · exact wpAny_tryCatch (wpAny_bind ((PySem.W.bind_fn I.kIn _ (beq_iff_eq.mp hf)).here (wpAny_pure (fin fin2))))
/-- an instance that has its own __repr__ -/
theorem sg_own {C g a : Addr} {sp : Sp} {t : Str} (hs : PySem.W.findIn X.K (.ref C) "__repr__" = some (some (.ref g))) (hf : PySem.W.isFn X.K (.ref g) = true) (F : FnR X.prog X.w X.K X.mg X.base CX0 k g sp)
    (hi : ∀ H, J H → ∃ dx fs, H a = some (.ins C dx fs)) (hsp : ∀ H, J H → sp [.ref a] H (fun r H' => r = .str t ∧ J H') E0) : Sg X k J B (.ref a) t :=
  ⟨fun A' g' pins s σ H u b E Q hfr _ _ hr I j r hb q => sh_own hs hf F hi hsp A' pins s σ H u b E Q hfr hr I j r hb q, obj_own hs hf F hi hsp,
  fun A' g' pins s σ H u E Q hfr _ _ hr I j r hb q => by
    obtain rfl : u = Value.ref a := r
    obtain ⟨dx, fs, ha⟩ := hi H j
    obtain ⟨mA, M, _⟩ := ins_get I.hok ha
    obtain ⟨od, It, _⟩ := M.look
    obtain ⟨m, hF⟩ := I.fr
    refine PySem.W.repr_K (by have := hr.un; show A'.units + 1 < cLine; omega) hF I.ok.mod.kin It hs hf ?_
    refine wpAny_call (codeAny_mono (F A'.in1 X.stack s H [.ref a] [.ref a] _ E0 hr.in1' ⟨hfr, I.env0.mod, I.env0.bs, I.env0.bsz, I.env0.funs, I.env0.frf, I.env0.hok, I.env0.bare⟩ (.cons rfl .nil) (hsp H j)) fun r s' hq => ?_)
    cases r with
    | error e => exact False.elim hq
    | ok fl =>
      cases fl with
      | ret u =>
        obtain ⟨v, H', I', rv, ev, j'⟩ := I.after hq
        subst ev
        obtain ⟨tk, rfl⟩ := rv
        exact q _ _ tk I' j'
      | next => exact False.elim hq
      | brk => exact False.elim hq
      | cont => exact False.elim hq⟩
end
end L2

namespace L2
open PySem PySem.Spec PyProof.Rows
/-- isinstance(e, c), e the exception that the suite holds, with attributes or without -/
theorem call_isEF {X : Cx} {a D : Addr} {oe : Obj} {d : Option Addr} {pn : List (Addr × Obj)} (C : ExcC X.K D) (hz : Zc (.ref D) d oe) (hf : ∃ vs, oe.data = .fields vs) :
    CallR (X.suite a ((a, oe) :: pn)) (.builtin "isinstance") (fun xs H Q => (d = none ∨ ∃ dd fs, d = some dd ∧ H dd = some (.xd fs)) ∧ rIsE X.K D a xs H Q) := by
  intro pins s σ H xs us Q I r h
  obtain ⟨hdd, c, cv, b, rfl, hcv, e, q⟩ := h
  cases r with
  | cons rx rr =>
    cases rr with
    | cons rt rr =>
      cases rr
      cases rx
      have ec := hcv _ rt
      subst ec
      obtain ⟨hget, _⟩ := I.pin (a, oe) (List.mem_append.mpr (.inl List.mem_cons_self))
      obtain ⟨vs, hv⟩ := hf
      have J : ∃ od, PySem.W.InstAt s.heap a oe D od := by
        obtain ⟨oc, od, oda, osl⟩ := oe
        obtain ⟨h1, h2⟩ := hz
        dsimp only at h1 h2 hv
        subst h1 h2 hv
        rcases hdd with rfl | ⟨dd, fs, rfl, ho⟩
        · exact ⟨none, hget, rfl, rfl, trivial⟩
        · obtain ⟨mA, hns, hr⟩ := (show ObjOk X.prog X.w H s.heap dd (.xd fs) from I.hok dd _ ho)
          obtain ⟨od, ho, hl⟩ := lookIn_ns hns
          exact ⟨some od, hget, rfl, rfl, ho⟩
      obtain ⟨od, J⟩ := J
      exact PySem.W.kia_one (PySem.W.kitx_exc (by obtain ⟨cd, hc, _⟩ := PySem.W.any_some C.hd; rw [hc]; rfl) C.hg C.hk C.hs C.ha C.hn C.ht C.hm) I.kIn J e (fun z => nomatch z) fun tk => ⟨.bl b, H, I.kept (t' := tk) fun _ _ z => z, rfl, q⟩
end L2

/-! An own exception's __init__ that begins with super().__init__(e): the def is walked by the layer, its first statement by the library's words for super(). -/
namespace L2
theorem List.getElem?_append_or {α : Type} {l r : List α} {i : Nat} {a : α} (h : (l ++ r)[i]? = some a) : l[i]? = some a ∨ r[i - l.length]? = some a := by
  by_cases z : i < l.length
  · exact .inl (by rw [← List.getElem?_append_left z]; exact h)
  · exact .inr (by rw [← List.getElem?_append_right (Nat.le_of_not_lt z)]; exact h)
open PySem PySem.Spec PyProof.Rows
/-- the context of a def with a captured __class__ -/
def cxS (CX : CXT) (P : Program) (w : World) (K : PySem.W.Frag) (mg : Str → Option Value) (base : Heap) (N : List Str) (fd : FuncData) (f : Addr) (A : Around) (outer : List Env) (s : Shared) (H : Hp) (E : XK) : Cx where
  prog := P
  w := w
  K := K
  mg := mg
  base := base
  A := A.deeper (callEnv fd s.heap.objs.size f)
  N := N
  s_0 := s
  H_0 := H
  env := callEnv fd s.heap.objs.size f
  outer := outer
  stack := callEnv fd s.heap.objs.size f :: outer
  ex := []
  calm := true
  fn := fun _ => false
  pn := []
  xe := fun e s' => wpAny (model P w) (A.deeper (callEnv fd s.heap.objs.size f)) (leaving (callEnv fd s.heap.objs.size f) e) (fun _ s'' => CX outer H s E e s'') (fun e' s'' => CX outer H s E e' s'') s'
/-- what the text says of such a def -/
structure SupScope (N ps : List Str) (fd : FuncData) (cc : Addr) : Prop where
  kind : fd.scope.kind = .function
  co : fd.scope.isCoroutine = false
  gen : fd.scope.isGenerator = false
  nd : N.Nodup
  pre : N.take ps.length = ps
  par : ∀ x ∈ ps, fd.scope.names.lookup x = some .local
  nocell : ∀ y ∈ fd.scope.names, y.2 ≠ .cell
  free : ∀ y ∈ fd.scope.names, y.2 = .free → y.1 = ("__class__" : Str)
  sup : fd.scope.names.lookup ("super" : Str) = some .globalImplicit
  cls : fd.scope.names.lookup ("__class__" : Str) = some .free
  glob : fd.globals = mainGlobals
  blt : fd.builtins = builtinsNs
  clo : fd.closure = [(("__class__" : Str), cc)]
section
variable {CX : CXT} {P : Program} {w : World} {K : PySem.W.Frag} {mg : Str → Option Value} {base : Heap} {N ps : List Str} {fd : FuncData} {f cc C : Addr} {A : Around} {outer : List Env} {s : Shared} {H : Hp} {E : XK} {us : List Value} {vs : List V} {cd1 : Option Addr} {sl1 : Array (Option Value)}
theorem invS_start (S : SupScope N ps fd cc) (hcc : K.lookup cc = some ⟨.type "cell", cd1, .cell (some (.ref C)), sl1⟩) (hd : A.handled = none) (e0 : Env0 P w K mg base A outer s H) (hl : vs.length = ps.length) (r : Vals vs us) {h0 : Heap} {tk : Nat}
    (hns : h0.Ns s.heap.objs.size (fun x => (ps.zip us).reverse.lookup x)) (hk : ∀ b o, s.heap.get? b = some o → h0.get? b = some o) :
    Inv (cxS CX P w K mg base N fd f A outer s H E) [] (start N vs) H { s with heap := h0, toks := tk } := by
  have hpl : ps.length ≤ N.length := by have := congrArg List.length S.pre; rw [List.length_take] at this; omega
  have noA : ∀ b : Addr, b ∉ (cxS CX P w K mg base N fd f A outer s H E).ex := fun b z => by cases z
  have ecl : (cxS CX P w K mg base N fd f A outer s H E).env.cells = [(("__class__" : Str), cc)] := S.clo
  have one : ∀ {x : Str} {c : Addr}, (cxS CX P w K mg base N fd f A outer s H E).env.cells.lookup x = some c → x = ("__class__" : Str) ∧ c = cc := fun {x c} h => by
    rw [ecl, List.lookup_cons] at h
    cases hb : x == ("__class__" : Str) with
    | true => rw [hb] at h; exact ⟨beq_iff_eq.mp hb, (Option.some.inj h).symm⟩
    | false => rw [hb] at h; cases h
  have hb0 := e0.bs cc _ (e0.mod.kin _ _ hcc)
  refine ⟨⟨e0.mod, S.kind, S.glob, S.blt, Nat.le_refl _, fun y z c h1 h2 => (one h1).1.trans (one h2).1.symm, fun y hy => ?_, (fun y c z _ => by cases z), fun _ => hd, Around.frames_deeper e0.frames, .inr ⟨rfl, rfl⟩, fun b z => absurd z (noA b), e0.bs, e0.bsz, fun b _ _ => noA b, fun b z => absurd z (noA b), e0.funs, e0.frf⟩,
    rfl, e0.bare, Un.kept hk, ⟨_, hns, fun i y v h1 h2 h3 => ?_⟩, fun y c h => ?_, e0.hok.fresh (Nat.le_refl _), fun y c h => ?_, (fun p hp => by cases hp), e0.hok.kept hk, ?_⟩
  · rcases hy with hy | hy
    · exact absurd rfl (S.nocell _ (PySem.mem_of_lookup hy))
    · have e : y = ("__class__" : Str) := S.free _ (PySem.mem_of_lookup hy) rfl
      exact ⟨cc, by rw [ecl, e]; rfl⟩
  · have given : vs[i]? = some v := by
      have z : (vs.map some ++ List.replicate (N.length - vs.length) none)[i]? = some (some v) := h2
      rcases List.getElem?_append_or z with z | z
      · simpa using z
      · exact absurd (List.eq_of_mem_replicate (List.mem_of_getElem? z)) (by simp)
    have par : ps[i]? = some y := by
      have lt : i < ps.length := hl ▸ (List.getElem?_eq_some_iff.mp given).1
      have z : N[i]? = some y := h1
      rw [← List.getElem?_take_of_lt lt, S.pre] at z
      exact z
    obtain ⟨u, hu, rv⟩ := r.get given
    exact ⟨u, rv, .inl ⟨S.par y (List.mem_of_getElem? par), NdefX.zip_look (S.pre ▸ S.nd.sublist (List.take_sublist ps.length N)) par hu⟩⟩
  · obtain ⟨_, rfl⟩ := one h
    exact ⟨_, _, hk _ _ hb0.1, rfl⟩
  · obtain ⟨_, rfl⟩ := one h
    exact hb0.2
  · show (start N vs).length = N.length
    unfold start
    rw [List.length_append, List.length_map, List.length_replicate]
    omega
end
end L2

namespace L2
open PySem PySem.Spec PyProof.Rows
/-- own classes, then the tail t -/
def refsTo (t : List Value) : List Value → Bool
  | .ref _ :: r => refsTo t r
  | l => decide (l = t)
theorem refsTo_contains {t : List Value} (Y : String) : ∀ l : List Value, refsTo t l = true → l.contains (.type Y) = t.contains (.type Y)
  | [], h => by
    have e : ([] : List Value) = t := of_decide_eq_true h
    rw [← e]
  | v :: r, h => by
    cases v with
    | ref c =>
      rw [List.contains_cons, refsTo_contains Y r h]
      rfl
    | _ =>
      have e := of_decide_eq_true h
      rw [← e]
/-- what the written part says of the def's surroundings -/
structure SupK (B newId initId : String) (bmB : List Value) (P : Program) (K : PySem.W.Frag) (mg : Str → Option Value) (C f : Addr) (fd : FuncData) (ar : Arg) : Prop where
  fn : ∃ oc od osl, K.lookup f = some ⟨oc, od, .func fd, osl⟩
  hp : (fd.params.posonlyargs ++ fd.params.args).head? = some ar
  loc : fd.scope.names.lookup ar.arg = some .local
  code : ∃ cda k1 k2 vsc k3 file tf, fd.code = .ref cda ∧ K.lookup cda = some ⟨k1, k2, .fields vsc, k3⟩ ∧ vsc[2]? = some (.str file tf) ∧ ((P.main.file : Str) == file) = true
  top : (P.main.scope.names.lookup ("super" : Str)).isSome = false
  ms : mg "super" = none
  cls : ∃ nm q N bs bm sn sub ab col dd k0 k1 k2 k3 k5, K.lookup C = some (excClassObj nm q C N bs bm true sn sub ab col dd k0 k1 k2 k3 k5 newId) ∧ refsTo bmB bm = true
  sup : PySem.W.ks_superIn K C C "__init__" = some (some (.builtin initId))
  sB : PySem.W.subIn K (.ref C) (.type B) = some true
  sC : PySem.W.subIn K (.ref C) (.ref C) = some true
  op : PySem.W.nsIn K cStatics "thirdparty.any" = some none
section
variable {CX : CXT} {P : Program} {w : World} {K : PySem.W.Frag} {mg : Str → Option Value} {base : Heap} {N ps : List Str} {fd : FuncData} {f cc C a : Addr} {A : Around} {outer : List Env} {s0 s : Shared} {H0 H : Hp} {E : XK} {σ : St} {cd1 : Option Addr} {sl1 : Array (Option Value)} {ar : Arg}
  {e : Expr} {ta : TA} {p0 p1 p2 p3 p4 : Pos} {body : List Stmt} {R : Hp → Prop} {B newId initId : String} {bmB : List Value}
theorem boot_super : bootBuiltins ("super" : Str) = some (.type "super") := by decide +kernel
theorem sup_run (S : SupScope N ps fd cc) (hcc : K.lookup cc = some ⟨.type "cell", cd1, .cell (some (.ref C)), sl1⟩) (FB : ExcBaseFacts B newId initId bmB) (KF : PySem.W.KxsFacts B initId) (T : SupK B newId initId bmB P K mg C f fd ar) (h0 : N[0]? = some ar.arg)
    (I : Inv (cxS CX P w K mg base N fd f A outer s0 H0 E) [] σ H s) (hσ : σ[0]? = some (some (.ref a))) (ea : H a = some (exo a C none)) (ha : PA (cxS CX P w K mg base N fd f A outer s0 H0 E) [e] ta)
    (h : ta σ H fun vs H1 => vs.length ≤ 1000 ∧ H1 a = some (exo a C none) ∧ R H1)
    (hst : starEach [e] (callEnv fd s0.heap.objs.size f) = [(false, eval e (callEnv fd s0.heap.objs.size f))] := by rfl)
    {pl : Sem Bool}
    (hcall : eval (.Call (.Attribute (.Call (.Name "super" p0) [] [] p1) "__init__" p2) [e] [] p3) (callEnv fd s0.heap.objs.size f) = (do
      let ov ← attributeBase (.Call (.Name "super" p0) [] [] p1) "__init__" (callEnv fd s0.heap.objs.size f) (eval (.Call (.Name "super" p0) [] [] p1) (callEnv fd s0.heap.objs.size f))
      standAt p2.atName
      let (f', first) ← holding [ov] (getMethod ov "__init__" pl)
      callWith p3 f' first (backTo p3 (starEach [e] (callEnv fd s0.heap.objs.size f))) []) := by rfl) :
    PySem.wpAt (model P w) (A.deeper (callEnv fd s0.heap.objs.size f)) (.func body (callEnv fd s0.heap.objs.size f)) (eval (.Call (.Attribute (.Call (.Name "super" p0) [] [] p1) "__init__" p2) [e] [] p3) (callEnv fd s0.heap.objs.size f))
      (fun _ s' => ∃ H', Inv (cxS CX P w K mg base N fd f A outer s0 H0 E) [] σ H' s' ∧ R H') (cxS CX P w K mg base N fd f A outer s0 H0 E).xe s := by
  obtain ⟨oc, od, osl, lkf⟩ := T.fn
  obtain ⟨cda, k1, k2, vsc, k3, file, tf, hco, hcda, hvs, hfile⟩ := T.code
  have KX : K.In s.heap := I.kIn
  refine ks_wpAt_MethodCall (pl := pl) ?_ hcall
  refine ks_wpAt_super_base (f := f) (cc := cda) S.sup S.cls (by decide) rfl (KX _ _ lkf) rfl T.hp hco (KX _ _ hcda) rfl hvs hfile T.top ?_
  -- super
  obtain ⟨mb, b1, b2⟩ := I.mod.blt
  have hkind : (callEnv fd s0.heap.objs.size f).scope.kind = .function := S.kind
  have hsup : (callEnv fd s0.heap.objs.size f).kindOf "super" = some .globalImplicit := S.sup
  have ldS : ∀ Q : Value → Shared → Prop, Q (.type "super") s → wpAny (model P w) (A.deeper (callEnv fd s0.heap.objs.size f)) (loadName (callEnv fd s0.heap.objs.size f) "super") Q (cxS CX P w K mg base N fd f A outer s0 H0 E).xe s := fun Q hq => by
    unfold loadName
    simp only [Env.blockKind, hkind, hsup, ScopeKind.isAnnotationScope, Bool.false_and, Bool.false_eq_true, if_false]
    exact Calls.loadGlobal_builtin (by show s.heap.Ns fd.globals mg; rw [S.glob]; exact I.mod.glob.keeps I.bk) T.ms (by show s.heap.Ns fd.builtins mb; rw [S.blt]; exact b1.keeps I.bk) ((b2 _ (by decide)).trans boot_super) hq
  refine ldS _ ⟨rfl, ?_⟩
  -- __class__
  have hcell : s.heap.IsCell cc (some (.ref C)) := ⟨_, KX _ _ hcc, rfl⟩
  refine wpAny_loadName_free hkind S.cls (by show fd.closure.lookup _ = _; rw [S.clo]; rfl) hcell ?_
  -- self
  obtain ⟨m, hns, hl⟩ := I.loc
  obtain ⟨u, ru, hlook⟩ := hl 0 ar.arg (.ref a) h0 hσ (.inl T.loc)
  obtain rfl : u = Value.ref a := ru
  have hml : m ar.arg = some (.ref a) := by
    rcases hlook with ⟨_, z⟩ | ⟨z, _⟩
    · exact z
    · have z' : fd.scope.names.lookup ar.arg = some .cell ∨ fd.scope.names.lookup ar.arg = some .free := z
      rw [T.loc] at z'
      rcases z' with z' | z' <;> cases z'
  refine wpAny_loadName_local hkind T.loc hns hml ?_
  -- the class, the object
  obtain ⟨nm, q, NN, bs, bm, sn, sub, ab, col, dd, c0, c1, c2, c3, c5, hC, hbm⟩ := T.cls
  have hCh := KX _ _ hC
  obtain ⟨t1, hoa⟩ := exo_at I.hok ea
  obtain ⟨hp, g, d, t, os⟩ := s
  refine ks_wpAny_isType_cls hCh rfl ⟨rfl, ?_⟩
  refine ks_wpAny_call_super hCh rfl hoa rfl (fun c z => nomatch z) (PySem.W.looks_subIn KX T.sC) (fun h1 hso k1' => ?_)
  -- the bound __init__
  have KX1 : K.In h1 := KX.keeps k1'
  have hcl : PySem.W.clsIn K C = some { name := nm, bases := bs, mro := .ref C :: bm, ns := NN, qualname := q, hasDict := true, slotNames := sn, subclasses := sub, abstract := ab, collection := col, hasDel := false } := by unfold PySem.W.clsIn; rw [hC] <;> rfl
  have hal : PySem.W.alongIn K "__init__" (((Value.ref C :: bm).dropWhile (· != .ref C)).drop 1) = some (some (.builtin initId)) := by
    have z := T.sup
    unfold PySem.W.ks_superIn at z
    rw [hcl] at z
    exact z
  have hoa1 := k1' _ _ hoa
  have inst1 : PySem.W.InstAt h1 a { cls := .ref C, dict := none, data := .fields #[.ref t1, .none, .none, .none, .bool false, .none] } C none := ⟨hoa1, rfl, rfl, trivial⟩
  have hI1 : PySem.W.Looks (model P w) h1 (isInstance (.ref a) (.type B)) true := inst1.type.andThen (PySem.W.looks_subIn KX1 T.sB)
  refine PySem.W.kxs_getMethod KF hso (PySem.W.looks_opaque KX1 T.op) (l₀ := .ref C :: bm) (fun A Q E s k q => wpAny_bind ((PySem.W.looks_clsIn KX1 hcl) A _ E s k (wpAny_pure q))) rfl KX1 hal hI1 (PySem.W.ks_ne KX1 inst1 hcl) (by decide) ?_
  -- its argument
  have kk : ∀ b o, hp.get? b = some o → (h1.push (PySem.W.kxs_mw initId a)).get? b = some o := fun b o z => Heap.get?_push_of_some _ (k1' b o z)
  have I2 : Inv (cxS CX P w K mg base N fd f A outer s0 H0 E) [] σ H ⟨h1.push (PySem.W.kxs_mw initId a), g, d, t + 1, os⟩ := I.kept (t' := t + 1) kk
  have hwr : (h1.push (PySem.W.kxs_mw initId a)).get? h1.objs.size = some (PySem.W.kxs_mw initId a) := Heap.get?_push_at rfl rfl
  have I1 : Inv (cxS CX P w K mg base N fd f A outer s0 H0 E) [] σ H ⟨h1, g, d, t + 1, os⟩ := I.kept (t' := t + 1) k1'
  have I3 : Inv (cxS CX P w K mg base N fd f A outer s0 H0 E) [(h1.objs.size, PySem.W.kxs_mw initId a)] σ H ⟨h1.push (PySem.W.kxs_mw initId a), g, d, t + 1, os⟩ := I2.pins_of fun p hp' => by
    obtain rfl := List.mem_singleton.mp hp'
    exact ⟨hwr, I1.hok.fresh (Nat.le_refl _), Nat.ne_of_gt I1.lt, I1.nofs (Nat.le_refl _), fun v z => by cases z⟩
  rw [hst]
  refine PySem.W.kxs_callWith (i := initId) (x := a) rfl ?_
  refine Calls.evalArgs_plain ?_
  have hrun := ha.run p3 [(h1.objs.size, PySem.W.kxs_mw initId a)] _ σ H _ I3 h
  rw [show starEach [e] (cxS CX P w K mg base N fd f A outer s0 H0 E).env = [(false, eval e (callEnv fd s0.heap.objs.size f))] from hst] at hrun
  refine thn hrun fun us s2 ⟨vs, H1, I4, r4, hl, ea4, q4⟩ => ?_
  have hu2 : s2.heap.get? h1.objs.size = some (PySem.W.kxs_mw initId a) := (I4.pin _ (List.mem_append_right _ (List.mem_singleton.mpr rfl))).1
  refine ⟨hu2, ?_⟩
  show wpAny _ _ (call (.ref h1.objs.size) us) _ _ _
  have I5 : Inv (cxS CX P w K mg base N fd f A outer s0 H0 E) [] σ H1 s2 := I4.pins_of (fun p hp' => by cases hp')
  obtain ⟨t4, ho4⟩ := exo_at I5.hok ea4
  have hC2 := I5.kIn _ _ hC
  have hz : us.length ≤ sizeLine := by
    rw [← Paired.length r4, sizeLine_eq]
    omega
  have fin : ∀ h', (∀ b o, b ≠ a → s2.heap.get? b = some o → h'.get? b = some o) → (∃ t5 : Addr, h'.get? a = some ({ cls := .ref C, dict := none, data := .fields #[.ref t5, .none, .none, .none, .bool false, .none] } : Obj)) → ∃ H', Inv (cxS CX P w K mg base N fd f A outer s0 H0 E) [] σ H' { s2 with heap := h' } ∧ R H' := fun h' k ⟨t5, hx⟩ => by
    have J := I5.write (t' := s2.toks) (x := a) (e := a) (o := exo a C none) (by rw [ea4]; exact True.intro) (.inl rfl) k ⟨_, hx⟩ (exo_ok hx)
    have eu : upd H1 a (exo a C none) = H1 := by
      funext b
      by_cases hb : b = a
      · rw [hb, upd_same, ea4]
      · rw [upd_ne hb]
    rw [eu] at J
    exact ⟨H1, J, q4⟩
  obtain ⟨hp2, g2, d2, tk2, os2⟩ := s2
  refine wpAny_call (codeAny_of_tree ?_)
  show wpAny _ _ (callAny (.ref h1.objs.size) ⟨us, []⟩) _ _ _
  simp only [callAny]
  refine wpAny_bind (wpAny_load hu2 ?_)
  simp only [PySem.W.kxs_mw, show (Value.type "method-wrapper" == Value.type "method" || Value.type "method-wrapper" == Value.type "builtin_function_or_method" || Value.type "method-wrapper" == Value.type "method-wrapper") = true by decide, if_true]
  refine PySem.W.KFB.if_so (by decide) ?_
  refine wpAny_bind (PySem.W.check_bound_init FB.toExcCallFacts hC2 ho4 rfl ?_)
  refine wpAny_bind (wpAny_pure (wpAny_pure ?_))
  refine ⟨plainId_quiet FB.init.plain _, codeAny_builtin FB.initEntry ?_⟩
  exact PySem.W.exc_init_tree (cls := .ref C) (t0 := t4) (dv := none) (c2 := .none) (c3 := .none) (b4 := .bool false) ho4 hz fun h' k e' t' => fin h' k ⟨_, e'⟩
end
end L2

namespace L2
open PySem PySem.Spec PyProof.Rows
section
variable {CX : CXT} {P : Program} {w : World} {K : PySem.W.Frag} {mg : Str → Option Value} {base : Heap} {k : Nat} {N ps : List Str} {fd : FuncData} {f cc C : Addr} {cd1 : Option Addr} {sl1 : Array (Option Value)} {ar : Arg} {sp : Sp}
  {e : Expr} {p0 p1 p2 p3 p4 : Pos} {rest : List Stmt} {B newId initId : String} {bmB : List Value}
/-- an own exception's __init__ that begins with super().__init__(e) -/
theorem fn_sup (S : SupScope N ps fd cc) (hcc : K.lookup cc = some ⟨.type "cell", cd1, .cell (some (.ref C)), sl1⟩) (FB : ExcBaseFacts B newId initId bmB) (KF : PySem.W.KxsFacts B initId) (T : SupK B newId initId bmB P K mg C f fd ar) (h0 : N[0]? = some ar.arg) (hcd : PySem.W.codeIn K fd.code fd.qualname = true)
    (hbody : fd.body = .stmts (.Expr (.Call (.Attribute (.Call (.Name "super" p0) [] [] p1) "__init__" p2) [e] [] p3) p4 :: rest)) (len : ∀ vs H Q E, sp vs H Q E → vs.length = ps.length)
    (hst : ∀ env, starEach [e] env = [(false, eval e env)] := by intro env; rfl) {pl : Env → Sem Bool}
    (hcall : ∀ env, eval (.Call (.Attribute (.Call (.Name "super" p0) [] [] p1) "__init__" p2) [e] [] p3) env = (do
      let ov ← attributeBase (.Call (.Name "super" p0) [] [] p1) "__init__" env (eval (.Call (.Name "super" p0) [] [] p1) env)
      standAt p2.atName
      let (f', first) ← holding [ov] (getMethod ov "__init__" (pl env))
      callWith p3 f' first (backTo p3 (starEach [e] env)) []) := by intro env; rfl)
    (hin : ∀ L, interactive (callEnv fd L f) = false) (hsw : ∀ L, swapsWith (.Call (.Attribute (.Call (.Name "super" p0) [] [] p1) "__init__" p2) [e] [] p3) none p4.line (callEnv fd L f) = pure false)
    (h : ∀ (A : Around) (outer : List Env) (s : Shared) (H : Hp) (vs : List V) (Q : VK) (E : XK), A.guards = some [] → Room k (A.deeper (callEnv fd s.heap.objs.size f)) → sp vs H Q E →
      ∃ (a : Addr) (ta : TA) (tr : TS), (start N vs)[0]? = some (some (.ref a)) ∧ H a = some (exo a C none) ∧ PA (cxS CX P w K mg base N fd f A outer s H E) [e] ta ∧ PSs (cxS CX P w K mg base N fd f A outer s H E) rest tr ∧
        ta (start N vs) H (fun us H1 => us.length ≤ 1000 ∧ H1 a = some (exo a C none) ∧ tr { nx := fun _ H' => Q .non H', rt := Q } (start N vs) H1)) :
    FnG P w K mg base CX (k + 1) f fd ps sp := by
  refine ⟨len, fun A outer s H args us vs Q E gd hr e0 hb r hsp => ?_⟩
  have KX : K.In s.heap := e0.mod.kin.keeps fun b o e => (e0.bs b o e).1
  obtain ⟨oc, od, osl, lkf⟩ := T.fn
  refine ks_codeAny_call_defAt hr.depth (KX _ _ lkf) rfl (e0.mod.nolimit.keeps fun b o e => (e0.bs b o e).1) (PySem.W.codeRec_of KX hcd) hbody hb S.nocell (fun x hx => S.par x.1 (List.of_mem_zip hx).1) (fun h1 hns kk => ?_) S.co S.gen S.kind
  obtain ⟨a, ta, tr, ha0, hea, hta, htr, hq⟩ := h A outer s H vs Q E gd (hr.deeper _) hsp
  have I := invS_start (CX := CX) (E := E) (f := f) S hcc hr.hd e0 (len _ _ _ _ hsp) r (tk := s.toks + (ps.zip us).length) hns kk
  refine ks_wpAt_execs_cons (ks_wpAt_Expr_any (PySem.wpAt_mono (sup_run (pl := pl _) S hcc FB KF T h0 I ha0 hea hta hq (hst _) (hcall _)) (fun v s1 ⟨H1, I1, q1⟩ => ?_) fun e s' hs => hs) (hin _) (hsw _))
  refine PySem.wpAt_of_wpAny (wpAny_mono (htr.run [] s1 _ H1 _ I1 q1) (fun fl s' hs => ?_) fun e s' hs => hs)
  cases fl with
  | ret u => obtain ⟨v, σ', H', J, rv, q⟩ := hs; exact ⟨v, H', J.os, J.bare, J.base, J.hok, rv, q⟩
  | next => obtain ⟨σ', H', J, q⟩ := hs; exact ⟨V.non, H', J.os, J.bare, J.base, J.hok, rfl, q⟩
  | brk => obtain ⟨_, _, _, q⟩ := hs; exact False.elim q
  | cont => obtain ⟨_, _, _, q⟩ := hs; exact False.elim q
end
end L2

namespace L2
open PySem PySem.Spec PyProof.Rows
theorem make_guards {A : Around} {C : Addr} {us : List Value} {kw : List (Str × Value)} : (A.under (.builtin "type.__call__" ⟨.ref C :: us, kw⟩)).guards = A.guards := by
  first | rfl | simp [Around.under]
theorem deeper_guards {A : Around} {env : Env} : (A.deeper env).guards = A.guards := by
  first | rfl | simp [Around.deeper]
/-- an exception object of C is laid: its args, then itself -/
theorem exc_laid {X : Cx} {pins : List (Addr × Obj)} {σ : St} {G : Hp} {s0 : Shared} {args : List Value} {C : Addr} (J : Inv X pins σ G s0) :
    (∀ b o, s0.heap.get? b = some o → ((s0.heap.push (PySem.W.kdv_tup args)).push (PySem.HandSPX.excO C s0.heap.objs.size)).get? b = some o) ∧
    Inv X pins σ (upd G (s0.heap.objs.size + 1) (exo (s0.heap.objs.size + 1) C none)) { s0 with heap := (s0.heap.push (PySem.W.kdv_tup args)).push (PySem.HandSPX.excO C s0.heap.objs.size) } := by
  have stays : ∀ b o, s0.heap.get? b = some o → ((s0.heap.push (PySem.W.kdv_tup args)).push (PySem.HandSPX.excO C s0.heap.objs.size)).get? b = some o := fun b o z => Heap.get?_push_of_some _ (Heap.get?_push_of_some _ z)
  exact ⟨stays, J.laid (t' := s0.toks) (o := exo (s0.heap.objs.size + 1) C none) stays (Nat.le_succ _) (exo_ok (by heap_get))⟩
/-- C(e, ..): an own exception over ValueError, whose __init__ is told where no repr is under way -/
theorem pmk_oexG {X : Cx} {CX : CXT} {x : Str} {C g : Addr} {n : Nat} {fd : FuncData} {ps : List Str} {pr : Sp} {ds : List Value} {dvs : List V} {e : Expr} {es : List Expr} {ta : TA} {p pos : Pos} (cls : OexC X.K C) (init : PySem.W.findIn X.K (.ref C) "__init__" = some (some (.ref g))) (isfn : PySem.W.typeIn X.K (.ref g) = some (.type "function"))
    (F : FnG X.prog X.w X.K X.mg X.base CX n g fd ps pr) (quiet : X.A.guards = some []) (room : Room (n + 1) X.A) (bn : Binds X.K fd ps ds) (dv : Vals dvs ds) (pass : Passes CX X (fun _ _ _ => False)) (gl : Gl X x) (at_ : X.mg x = some (.ref C)) (args : PA X (e :: es) ta)
    (nd : (x == ("__debug__" : Str)) = false := by decide) (st : starEach (e :: es) X.env = (false, eval e X.env) :: starEach es X.env := by rfl) (pl : (backTo pos (starEach es X.env)).any (·.1) = false := by rfl) :
    PMk X (.Call (.Name x p) (e :: es) [] pos) (tMkO C pr dvs ta) := by
  intro pins s0 σ G W J w
  have vals := args.run pos pins s0 σ G _ J w
  refine wpAny_Call_Name_kw (ld_glob J gl at_ (PySem.W.callWith_K (h₀ := X.base) J.ok.mod.kin cls.kC (thn vals ?_) st pl) nd)
  rintro us ⟨hp, gens, dr, tk, os⟩ ⟨as, G1, J1, rel, few, wish⟩
  refine ⟨J1.kIn, ?_⟩
  show wpAny _ _ (PySem.call (.ref C) us) _ _ _
  obtain ⟨_, _, _, _, bm, _, _, _, _, _, _, _, _, _, _, look, tail⟩ := cls.cls
  obtain ⟨stays, J2⟩ := exc_laid (args := us) (C := C) J1
  have w1 := wish (hp.objs.size + 1) (J1.hok.fresh (Nat.le_succ hp.objs.size))
  have rel2 : Vals (V.ref (hp.objs.size + 1) :: (as ++ dvs)) (Value.ref (hp.objs.size + 1) :: (us ++ ds)) := .cons rfl (rel.append dv)
  have many : (Value.ref (hp.objs.size + 1) :: us ++ ds).length = ps.length := rel2.length.symm.trans (F.len _ _ _ _ w1)
  have run := F.run _ X.stack _ _ ⟨Value.ref (hp.objs.size + 1) :: us, []⟩ _ _ _ (fun _ _ _ => False) (make_guards.trans quiet) (room.make C us []) (J2.env0.make C us []) (bn _ (Value.ref (hp.objs.size + 1) :: us) J2.kIn many) rel2 w1
  have line : us.length ≤ sizeLine := Nat.le_trans (Nat.le_of_eq (Paired.length rel).symm) (Nat.le_trans few (by rw [sizeLine_eq]; decide))
  refine wpAny_call (PySem.HandSPX.call_own PySem.F.excBase_ValueError (fun Y => PySem.HandSPX.refsVE_contains Y bm tail) (J1.kIn _ _ look) (PySem.W.looks_findIn J1.kIn init) (fun self => PySem.W.bind_fn J1.kIn self isfn) line (codeAny_mono run ?_))
  rintro (er | fl) s3 z
  · exact pass pins σ _ _ er s3 J2 z
  · cases fl with
    | ret u =>
      obtain ⟨_, G3, same, bare, un, ok, none_, rfl, d, fs, at3, own, new, w3⟩ := z
      exact ⟨none_, mk_end (raises_own cls.exC cls.tyC) J1 (Nat.le_succ _) stays un ok same bare at3 own new w3⟩
    | _ => exact z.elim
end L2

/-! C(): an own exception without fields, whose __init__ says super().__init__(..) -/
namespace L2
open PySem PySem.Spec PyProof.Rows
section
variable {X : Cx}
/-- what happened after an exception object was laid at a, told of the heaps without a -/
theorem un_less {fs : List Addr} {H1 H2 : Hp} {hp hp2 h2 G : Heap} {a : Addr} {o : HO} (un : Un fs [] (upd H1 a o) H2 hp2 h2) (stays : ∀ b ob, hp.get? b = some ob → hp2.get? b = some ob) (above : hp.objs.size ≤ a) (new : H1 a = none) (same : ∀ b, b ≠ a → G.get? b = h2.get? b) : Un fs [] H1 (del H2 a) hp G := by
  have off : ∀ {b : Addr} {ob : Obj}, hp.get? b = some ob → b ≠ a := fun z e => absurd (Heap.lt_size z) (by rw [e]; exact Nat.not_lt.mpr above)
  have offH : ∀ {b : Addr} {t : HO}, H1 b = some t → b ≠ a := fun z e => by rw [e, new] at z; exact nomatch z
  have old : ∀ {b : Addr}, b ≠ a → upd H1 a o b = H1 b := fun z => upd_ne z
  constructor
  case keep => exact fun b ob z n p q => (same b (off z)).trans (un.keep b ob (stays b ob z) ((old (off z)).trans n) p q)
  case slot =>
    intro b ob z n p q
    obtain ⟨sl, r⟩ := un.slot b ob (stays b ob z) ((old (off z)).trans n) p q
    exact ⟨sl, (same b (off z)).trans r⟩
  case free => exact fun b ob z n q => (del_ne (off z)).trans (un.free b ob (stays b ob z) ((old (off z)).trans n) q)
  case there =>
    intro b ob z q
    obtain ⟨ob2, r⟩ := un.there b ob (stays b ob z) q
    exact ⟨ob2, (same b (off z)).trans r⟩
  case tups => exact fun b xs z => (del_ne (offH z)).trans (un.tups b xs ((old (offH z)).trans z))
  case frzs => exact fun b t v z => (del_ne (offH z)).trans (un.frzs b t v ((old (offH z)).trans z))
  case tbls =>
    intro b ps z
    obtain ⟨m, r⟩ := un.tbls b ps ((old (offH z)).trans z)
    exact ⟨m, (del_ne (offH z)).trans r⟩
/-- the tracked objects without the exception object -/
theorem hok_less {P : Program} {w : World} {H : Hp} {h G : Heap} {a C : Addr} (ok : HOk P w H h) (ea : H a = some (exo a C none)) (same : ∀ b, b ≠ a → G.get? b = h.get? b) : HOk P w (del H a) G := by
  intro b o z
  have nb : b ≠ a := by
    rintro rfl
    rw [del_same] at z
    exact nomatch z
  rw [del_ne nb] at z
  have own : ∀ {c : Addr}, H c = some (.own b) → c ≠ a := fun y => at_ne ea y exo_own
  refine (ok b o z).stay ?_ (fun c y => (del_ne (own y)).trans y) fun c xs y => (del_ne (at_ne ea y exo_tup)).trans y
  rintro c v (rfl | y) r
  · exact (same c nb).trans r
  · exact (same c (own y)).trans r
/-- C() -/
def tMkS0 (C : Addr) (sp : Sp) : St → Hp → XK → Prop := fun σ H Q => ∀ a, H a = none → sp [.ref a] (upd H a (exo a C none)) (fun v H2 => v = .non ∧ H2 a = some (exo a C none) ∧ Q (.ref C) none (del H2 a)) (fun _ _ _ => False)
/-- C is an own exception class over a built-in one -/
structure OexB (newId : String) (bmB : List Value) (K : PySem.W.Frag) (C : Addr) : Prop where
  cls : ∃ nm q N bs bm sn sub ab col dd k0 k1 k2 k3 k5, K.lookup C = some (excClassObj nm q C N bs bm true sn sub ab col dd k0 k1 k2 k3 k5 newId) ∧ refsTo bmB bm = true
  exc : PySem.W.subIn K (.ref C) (.type "BaseException") = some true ∧ PySem.W.typeIn K (.ref C) = some (.type "type") ∧ PySem.W.keepIn K (.ref C) = true
theorem pmk_sup0 {CX : CXT} {x : Str} {C g : Addr} {n : Nat} {fd : FuncData} {ps : List Str} {pr : Sp} {B newId initId : String} {bmB : List Value} {p pos : Pos} (FB : ExcBaseFacts B newId initId bmB) (cls : OexB newId bmB X.K C) (init : PySem.W.findIn X.K (.ref C) "__init__" = some (some (.ref g))) (isfn : PySem.W.typeIn X.K (.ref g) = some (.type "function"))
    (F : FnG X.prog X.w X.K X.mg X.base CX n g fd ps pr) (quiet : X.A.guards = some []) (room : Room (n + 1) X.A) (bn : Binds X.K fd ps []) (pass : Passes CX X (fun _ _ _ => False)) (gl : Gl X x) (at_ : X.mg x = some (.ref C))
    (nd : (x == ("__debug__" : Str)) = false := by decide) :
    PMk X (.Call (.Name x p) [] [] pos) (tMkS0 C pr) := by
  rintro pins ⟨hp, gens, dr, tk, os⟩ σ G W J w
  refine wpAny_Call_Name_kw (ld_glob J gl at_ (PySem.W.callWith_K0 J.kIn cls.exc.2.2 ?_) nd)
  change wpAny _ _ (PySem.call (.ref C) []) _ _ _
  obtain ⟨_, _, _, _, bm, _, _, _, _, _, _, _, _, _, _, look, tail⟩ := cls.cls
  obtain ⟨stays, J2⟩ := exc_laid (args := []) (C := C) J
  have unknown := J.hok.fresh (Nat.le_succ hp.objs.size)
  have w1 := w _ unknown
  have rel : Vals [V.ref (hp.objs.size + 1)] [Value.ref (hp.objs.size + 1)] := .cons rfl .nil
  have many : ([Value.ref (hp.objs.size + 1)] ++ []).length = ps.length := rel.length.symm.trans (F.len _ _ _ _ w1)
  have run := F.run _ X.stack _ _ ⟨[Value.ref (hp.objs.size + 1)], []⟩ _ _ _ (fun _ _ _ => False) (make_guards.trans quiet) (room.make C [] []) (J2.env0.make C [] []) (bn _ [Value.ref (hp.objs.size + 1)] J2.kIn many) rel w1
  refine wpAny_call (PySem.HandSPX.call_own FB (fun Y => refsTo_contains Y bm tail) (J.kIn _ _ look) (PySem.W.looks_findIn J.kIn init) (fun self => PySem.W.bind_fn J.kIn self isfn) (Nat.zero_le _) (codeAny_mono run ?_))
  rintro (er | fl) ⟨h3, gens3, dr3, tk3, os3⟩ z
  · exact pass pins σ _ _ er _ J2 z
  · cases fl with
    | ret u =>
      obtain ⟨_, G3, same, bare, un, ok, none_, rfl, ea, w3⟩ := z
      obtain ⟨_, obj⟩ := exo_at ok ea
      obtain ⟨h4, rest, gone⟩ := restrict h3 fun b => decide (b ≠ hp.objs.size + 1)
      have alike : ∀ b, b ≠ hp.objs.size + 1 → h4.get? b = h3.get? b := fun b nb => rest b (decide_eq_true nb)
      have lost : h4.get? (hp.objs.size + 1) = none := gone _ (by simp)
      have J4 := J.call' (ch := []) (s' := ⟨h4, gens3, dr3, tk3, os3⟩) same (un_less un stays (Nat.le_succ _) unknown alike) (hok_less ok ea alike) bare (fun b y => absurd y (by simp))
      have back : ∀ b o, h4.get? b = some o → h3.get? b = some o := by
        intro b o y
        rcases Nat.decEq b (hp.objs.size + 1) with nb | rfl
        · exact (alike b nb).symm.trans y
        · rw [lost] at y
          exact nomatch y
      exact ⟨none_, _, _, _, _, _, .ref C, none, rfl, J4, back, lost, obj, ⟨rfl, rfl⟩, rfl, rfl, del_same, rfl, bare, raises_own cls.exc.1 cls.exc.2.1, w3⟩
    | _ => exact z.elim
end
end L2

/-! Exceptions of own classes as values: at exq the object with its dict and the tuple of its arguments; a field is stored, whatever built-in class stands behind. -/
namespace L2
open PySem PySem.Spec PyProof.Rows PySem.HandSPX Builtin.ObjectAttr
/-- the built-in end of a class's order lets fields be stored -/
structure Tl (t : List Value) : Prop where
  ob : t.contains (.type "object") = true
  ps : ∀ self : Value, refuseLoop self "__setattr__" t = pure ()
theorem tl_ve : Tl veTail := ⟨F.store_ValueError.hasOwner, F.store_ValueError.passes⟩
abbrev leTail : List Value := [.type "LookupError", .type "Exception", .type "BaseException", .type "object"]
abbrev reTail : List Value := [.type "RuntimeError", .type "Exception", .type "BaseException", .type "object"]
theorem tl_le : Tl leTail := ⟨F.store_LookupError.hasOwner, F.store_LookupError.passes⟩
theorem tl_re : Tl reTail := ⟨F.store_RuntimeError.hasOwner, F.store_RuntimeError.passes⟩
theorem refsTo_pass {t : List Value} (T : Tl t) (self : Value) : ∀ l : List Value, refsTo t l = true → refuseLoop self "__setattr__" l = pure ()
  | [], h => by
    have e : ([] : List Value) = t := of_decide_eq_true h
    rw [e]; exact T.ps self
  | v :: r, h => by
    cases v with
    | ref c => exact (refuseLoop_ref self "__setattr__" c r).trans (refsTo_pass T self r h)
    | _ =>
      have e := of_decide_eq_true h
      rw [e]; exact T.ps self
theorem refsTo_any {t l : List Value} (T : Tl t) (h : refsTo t l = true) : l.isEmpty = false := by
  have c := (refsTo_contains "object" l h).trans T.ob
  cases l with
  | nil => cases c
  | cons _ _ => rfl
section
variable {prog : Program} {w : World} {A : Around} {R : Result → Shared → Prop} {hp : Heap} {g : Array GenState} {d : Drawn} {t : Nat} {os : OsState}
  {K : PySem.W.Frag} {nm : Str} {tk : Tok} {v : Value} {x C : Addr} {fv : Array Value} {cd : ClassData} {tl : List Value}
/-- what the class says to a store: nobody takes it -/
theorem osa_exc {od : Option Obj} {ox : Obj} (T : Tl tl) (KI : K.In hp) (I : PySem.W.InstAt hp x ox C od) (hc : PySem.W.clsIn K C = some cd) (hm : refsTo tl cd.mro = true) (ha : PySem.W.findIn K (.ref C) nm = some none)
    (go : wpAny (model prog w) A.in1 (storeInOwnDict (.ref x) (.ref C) (.str nm tk) nm v false)
      (fun fin s' => match fin with | .done f => R (.ok f) s' | .again c' => c'.quiet = true ∧ codeAny (model prog w) A c' R s') (fun e s' => R (.error e) s') ⟨hp, g, d, t, os⟩) :
    codeAny (model prog w) A (.call (.builtin "object.__setattr__") ⟨[.ref x, .str nm tk, v], []⟩) R ⟨hp, g, d, t, os⟩ := by
  have obj : cd.mro.contains (.type "object") = true := (refsTo_contains "object" _ hm).trans T.ob
  have kind := I.type (M := model prog w)
  have among : PySem.W.mroIn K C (.type "object") = some true := by unfold PySem.W.mroIn; rw [hc, Option.bind_some, if_neg (by rw [refsTo_any T hm]; decide), obj]
  have isObj : PySem.W.Looks (model prog w) hp (isInstance (.ref x) (.type "object")) true := kind.andThen (PySem.W.looks_mroIn KI among)
  have order : PySem.W.Looks (model prog w) hp (mroOf (.ref C)) cd.mro := (PySem.W.looks_clsIn KI hc).andThen .now
  refine codeAny_call_builtin F.store_object.slot.plain F.store_object.entry ?_
  refine @PySem.W.check_slot (model prog w) _ _ ⟨hp, g, d, t, os⟩ "object.__setattr__" "object" "__setattr__" (.ref x) [.str nm tk, v] [] _ F.store_object.kind F.store_object.split isObj (F.store_object.args (.ref x) (.str nm tk) v) ?_
  rw [PySem.W.osa_eq, refuse_eq]
  refine wpAny_bind (wpAny_bind (kind.at (wpAny_bind (order.at ?_))))
  rw [refsTo_pass T _ _ hm]
  refine wpAny_pure (wpAny_bind (kind.at (wpAny_bind ((PySem.W.looks_findIn KI ha).at (wpAny_bind ?_)))))
  exact wpAny_pure go
/-- the first field: the dict is laid -/
theorem osa_first (T : Tl tl) (KI : K.In hp) (hx : hp.get? x = some { cls := .ref C, data := .fields fv }) (hc : PySem.W.clsIn K C = some cd) (hm : refsTo tl cd.mro = true) (hd : cd.hasDict = true) (ha : PySem.W.findIn K (.ref C) nm = some none)
    (go : ∀ h' tk' dx, (∀ b o, b ≠ x → hp.get? b = some o → h'.get? b = some o) → hp.objs.size ≤ dx → dx ≠ x → h'.get? x = some { cls := .ref C, dict := some dx, data := .fields fv } →
      h'.Ns1 dx (fun y => if y = nm then some v else none) → R (.ok (.ret .none)) ⟨h', g, d, tk', os⟩) :
    codeAny (model prog w) A (.call (.builtin "object.__setattr__") ⟨[.ref x, .str nm tk, v], []⟩) R ⟨hp, g, d, t, os⟩ := by
  refine osa_exc T KI (ox := { cls := .ref C, data := .fields fv }) (od := none) ⟨hx, rfl, rfl, trivial⟩ hc hm ha ?_
  have data : PySem.W.Looks (model prog w) hp (classData C) cd := PySem.W.looks_clsIn KI hc
  have apart : hp.objs.size ≠ x := Nat.ne_of_gt (Heap.lt_size hx)
  have after := Heap.get?_push_of_some ({ cls := .type "dict", data := .dict #[] } : Obj) hx
  cases cd with
  | mk nm0 bs mro ns qn hd0 sn sb ab col del0 =>
    obtain rfl : hd0 = true := hd
    unfold storeInOwnDict ownDictForStores
    repeat (first | with_reducible refine store_in_new ?_ ?_ | with_reducible refine wpAny_loadPart_at hx ?_ | with_reducible refine data.at ?_ | wp_step)
    · refine ⟨_, #[], _, (Heap.get?_update_ne _ _ _ _ apart).trans (Heap.get?_push_at rfl rfl), rfl, ?_, fun _ => rfl⟩
      exact fun e he => absurd he (by simp)
    · rintro h' tk' names ⟨_, same⟩
      refine go h' tk' hp.objs.size ?_ (Nat.le_refl _) apart ((same x apart.symm).trans (Heap.get?_update_self _ after rfl)) names
      intro b o hb ho
      rw [same b (Nat.ne_of_lt (Heap.lt_size ho)), Heap.get?_update_ne _ _ _ _ hb]
      exact Heap.get?_push_of_some _ ho
/-- a further field -/
theorem osa_next {dx : Addr} {m0 : Str → Option Value} {nl : List Str} (T : Tl tl) (KI : K.In hp) (hx : hp.get? x = some { cls := .ref C, dict := some dx, data := .fields fv }) (hns : hp.Ns1 dx m0) (hw : Within m0 nl) (few : nl.length ≤ 1000) (hc : PySem.W.clsIn K C = some cd) (hm : refsTo tl cd.mro = true) (hd : cd.hasDict = true)
    (ha : PySem.W.findIn K (.ref C) nm = some none)
    (go : ∀ h' tk', (∀ b o, b ≠ dx → hp.get? b = some o → h'.get? b = some o) → h'.Ns1 dx (fun y => if y = nm then some v else m0 y) → R (.ok (.ret .none)) ⟨h', g, d, tk', os⟩) :
    codeAny (model prog w) A (.call (.builtin "object.__setattr__") ⟨[.ref x, .str nm tk, v], []⟩) R ⟨hp, g, d, t, os⟩ := by
  obtain ⟨oD, _, _, there, _⟩ := hns.count hw
  refine osa_exc T KI (ox := { cls := .ref C, dict := some dx, data := .fields fv }) (od := some oD) ⟨hx, rfl, rfl, there⟩ hc hm ha ?_
  have data : PySem.W.Looks (model prog w) hp (classData C) cd := PySem.W.looks_clsIn KI hc
  cases cd with
  | mk nm0 bs mro ns qn hd0 sn sb ab col del0 =>
    obtain rfl : hd0 = true := hd
    unfold storeInOwnDict ownDictForStores
    repeat (first | with_reducible refine PySem.OEX.store_in_old hns hw few ?_ | with_reducible refine wpAny_loadPart_at hx ?_ | with_reducible refine data.at ?_ | wp_step)
    rintro h' tk' names ⟨_, same⟩
    exact go h' tk' (fun b o hb ho => (same b hb).trans ho) names
end
/-! ### the object -/
def exq (e C : Addr) (d : Option Addr) (t : Addr) : HO := .ext fun h => h.get? e = some ({ cls := .ref C, dict := d, data := .fields #[.ref t, .none, .none, .none, .bool false, .none] } : Obj)
theorem exq_ne {e C t : Addr} {d : Option Addr} {o : HO} (h : (match o with | .ext _ => False | _ => True)) : exq e C d t ≠ o := fun z => by
  have z' : HO.ext _ = o := z
  subst z'
  exact h
theorem exd_ne {e : Addr} {fs : List (Str × V)} {o : HO} (h : (match o with | .ext _ => False | _ => True)) : exd e fs ≠ o := fun z => by
  have z' : HO.ext _ = o := z
  subst z'
  exact h
theorem exq_ok {P : Program} {w : World} {H : Hp} {h : Heap} {e C t : Addr} {d : Option Addr} (he : h.get? e = some ({ cls := .ref C, dict := d, data := .fields #[.ref t, .none, .none, .none, .bool false, .none] } : Obj)) : ObjOk P w H h e (exq e C d t) :=
  ⟨he, ⟨_, he⟩, fun _ _ z k => k _ z⟩
theorem exq_at {P : Program} {w : World} {H : Hp} {h : Heap} {e C t : Addr} {d : Option Addr} (ok : HOk P w H h) (he : H e = some (exq e C d t)) : h.get? e = some ({ cls := .ref C, dict := d, data := .fields #[.ref t, .none, .none, .none, .bool false, .none] } : Obj) := by
  have x : ObjOk P w H h e (.ext fun h => h.get? e = some ({ cls := .ref C, dict := d, data := .fields #[.ref t, .none, .none, .none, .bool false, .none] } : Obj)) := ok e _ he
  exact x.1
/-- what the written part says of a class whose instances are stored to -/
structure EsC (K : PySem.W.Frag) (C : Addr) : Prop where
  cls : ∃ (newId : String) (tl : List Value), ∃ nm q N bs bm sn sub ab col dd k0 k1 k2 k3 k5, Tl tl ∧ K.lookup C = some (excClassObj nm q C N bs bm true sn sub ab col dd k0 k1 k2 k3 k5 newId) ∧ refsTo tl bm = true
  sa : PySem.W.findIn K (.ref C) "__setattr__" = some (some (.builtin "object.__setattr__"))
theorem EsC.look {K : PySem.W.Frag} {C : Addr} (T : EsC K C) : ∃ cd tl, Tl tl ∧ PySem.W.clsIn K C = some cd ∧ refsTo tl cd.mro = true ∧ cd.hasDict = true := by
  obtain ⟨newId, tl, nm, q, N, bs, bm, sn, sub, ab, col, dd, k0, k1, k2, k3, k5, t, hC, hbm⟩ := T.cls
  have hcl : PySem.W.clsIn K C = some { name := nm, bases := bs, mro := .ref C :: bm, ns := N, qualname := q, hasDict := true, slotNames := sn, subclasses := sub, abstract := ab, collection := col, hasDel := false } := by unfold PySem.W.clsIn; rw [hC] <;> rfl
  exact ⟨_, tl, t, hcl, hbm, rfl⟩
section
variable {X : Cx} {pins : List (Addr × Obj)} {σ : St} {H : Hp} {s : Shared} {a C dx t : Addr} {f : Str} {y : V} {u : Value} {fs : List (Str × V)} {Q : Unit → Shared → Prop} {E : Value → Shared → Prop} {A : Around}
/-- self.f = y, the first one -/
theorem est_first (T : EsC X.K C) (I : Inv X pins σ H s) (e : H a = some (exq a C none t)) (hno : PySem.W.findIn X.K (.ref C) f = some none) (ry : RelV y u)
    (go : ∀ dx s', H dx = none → dx ≠ a → Inv X pins σ (upd (upd H dx (exd dx [(f, y)])) a (exq a C (some dx) t)) s' → Q () s') : wpAny (model X.prog X.w) A (setAttr (.ref a) f u) Q E s := by
  obtain ⟨cd, tl, tt, hcl, hbm, hdt⟩ := T.look
  have ho := exq_at I.hok e
  cases s with
  | mk hp g d tk os =>
    refine PySem.W.set_plain I.kIn (od := none) ⟨ho, rfl, rfl, trivial⟩ T.sa (osa_first tt I.kIn ho hcl hbm hdt hno ?_)
    intro h' tk' dx k fresh dne hx hn
    have unk : H dx = none := I.hok.fresh fresh
    have off : ∀ {b : Addr} {o : Obj}, hp.get? b = some o → b ≠ dx := fun q => Nat.ne_of_lt (Nat.lt_of_lt_of_le (Heap.lt_size q) fresh)
    -- first the new dict, as if it were laid alone; then the object
    have U : Un X.fs [] H (upd (upd H dx (exd dx [(f, y)])) a (exq a C (some dx) t)) hp h' := by
      constructor
      case keep => exact fun b o q n _ _ => k b o (fun z => by rw [z, e] at n; cases n) q
      case slot => exact fun b o q n _ _ => ⟨o.slots, k b o (fun z => by rw [z, e] at n; cases n) q⟩
      case free =>
        intro b o q n _
        rw [upd_ne (fun z => by rw [z, e] at n; cases n), upd_ne (off q)]
        exact n
      case there =>
        intro b o q _
        rcases Nat.decEq b a with z | rfl
        · exact ⟨o, k b o z q⟩
        · exact ⟨_, hx⟩
      case tups =>
        intro b xs q
        rw [upd_ne (at_ne e q (exq_ne trivial)), upd_ne (ne_of_none q unk)]
        exact q
      case frzs =>
        intro b o v q
        rw [upd_ne (at_ne e q (exq_ne trivial)), upd_ne (ne_of_none q unk)]
        exact q
      case tbls =>
        intro b ps q
        refine ⟨#[], ?_⟩
        rw [upd_ne (at_ne e q (exq_ne trivial)), upd_ne (ne_of_none q unk), q, Array.append_empty]
    refine go dx _ unk dne (I.un (t' := tk') U ?_)
    intro b o q
    rcases Nat.decEq b a with nb | rfl
    · rw [upd_ne nb] at q
      rcases Nat.decEq b dx with nd | rfl
      · rw [upd_ne nd] at q
        refine (I.hok b o q).stay ?_ ?_ ?_
        · rintro c v (rfl | hc) z
          · exact k _ v nb z
          · exact k _ v (at_ne e hc (exq_ne trivial)) z
        · intro c hc
          rw [upd_ne (at_ne e hc (exq_ne trivial)), upd_ne (ne_of_none hc unk)]
          exact hc
        · intro c xs hc
          rw [upd_ne (at_ne e hc (exq_ne trivial)), upd_ne (ne_of_none hc unk)]
          exact hc
      · rw [upd_same] at q
        cases q
        exact exd_ok hn (relO_put (fs := []) ry fun _ => True.intro)
    · rw [upd_same] at q
      cases q
      exact exq_ok hx
/-- self.f = y, a further one -/
theorem est_next (T : EsC X.K C) (I : Inv X pins σ H s) (e : H a = some (exq a C (some dx) t)) (ed : H dx = some (exd dx fs)) (few : fs.length ≤ 900) (hno : PySem.W.findIn X.K (.ref C) f = some none) (ry : RelV y u)
    (go : ∀ s', Inv X pins σ (upd H dx (exd dx ((f, y) :: fs))) s' → Q () s') : wpAny (model X.prog X.w) A (setAttr (.ref a) f u) Q E s := by
  obtain ⟨cd, tl, tt, hcl, hbm, hdt⟩ := T.look
  have ho := exq_at I.hok e
  obtain ⟨mA, hns, rel⟩ := exd_at I.hok ed
  have inside := within_of rel
  cases s with
  | mk hp g d tk os =>
    obtain ⟨oD, _, _, there, _⟩ := hns.count inside
    refine PySem.W.set_plain I.kIn (od := some oD) ⟨ho, rfl, rfl, there⟩ T.sa (osa_next tt I.kIn ho hns inside (by rw [List.length_map]; omega) hcl hbm hdt hno ?_)
    intro h' tk' k hn
    obtain ⟨o2, _, _, there2, _⟩ := id hn
    refine go _ (I.write (t' := tk') (x := dx) (e := dx) (o := exd dx ((f, y) :: fs)) ?_ (.inl rfl) k ⟨o2, there2⟩ (exd_ok hn (relO_put ry rel)))
    rw [ed]
    exact True.intro
end
/-- self.f = e in such an __init__ -/
def tEst (K : PySem.W.Frag) (f : Str) (to te : TE) : TS := fun D σ H => te σ H fun y H1 => to σ H1 fun x H2 => ∃ (a C t : Addr), x = .ref a ∧ EsC K C ∧ PySem.W.findIn K (.ref C) f = some none ∧
  ((H2 a = some (exq a C none t) ∧ ∀ dx, H2 dx = none → dx ≠ a → D.nx σ (upd (upd H2 dx (exd dx [(f, y)])) a (exq a C (some dx) t))) ∨
    ∃ (dx : Addr) (fs : List (Str × V)), H2 a = some (exq a C (some dx) t) ∧ H2 dx = some (exd dx fs) ∧ fs.length ≤ 900 ∧ D.nx σ (upd H2 dx (exd dx ((f, y) :: fs))))
theorem ps_est {X : Cx} {o e : Expr} {to te : TE} {f : Str} {p' pos : Pos} (ho : PE X o to) (he : PE X e te) (hs : swapsWith e (some (.Attribute o f p')) pos.line X.env = pure false := by rfl) : PS X (.Assign [.Attribute o f p'] e pos) (tEst X.K f to te) := by
  constructor
  intro pins s σ H D I h
  refine plainObj_wpAny_Assign_Attribute (thn (he.run pins s σ H _ I h) ?_) hs
  rintro v s1 ⟨y, H1, I1, r1, q1⟩
  refine thn (ho.run pins s1 σ H1 _ I1 q1) ?_
  rintro _ s2 ⟨_, H2, I2, r2, a, C, t, rfl, T, hno, q⟩
  cases r2
  rcases q with ⟨ea, q⟩ | ⟨dx, fs, ea, ed, few, q⟩
  · exact est_first T I2 ea hno r1 fun dx s' n ne J => ⟨σ, _, J, q dx n ne⟩
  · exact est_next T I2 ea ed few hno r1 fun s' J => ⟨σ, _, J, q⟩
end L2

/-! An own exception's __init__ that says super().__init__(e): the tuple of its arguments is kept in sight. -/
namespace L2
open PySem PySem.Spec PyProof.Rows
section
variable {CX : CXT} {P : Program} {w : World} {K : PySem.W.Frag} {mg : Str → Option Value} {base : Heap} {k : Nat} {N ps : List Str} {fd : FuncData} {f cc C a : Addr} {A : Around} {outer : List Env} {s0 s : Shared} {H0 H : Hp} {E : XK} {σ : St} {cd1 : Option Addr} {sl1 : Array (Option Value)} {ar : Arg} {sp : Sp}
  {e : Expr} {ta : TA} {p0 p1 p2 p3 p4 : Pos} {body rest : List Stmt} {R : Hp → Prop} {B newId initId : String} {bmB : List Value}
theorem sup_runT (S : SupScope N ps fd cc) (hcc : K.lookup cc = some ⟨.type "cell", cd1, .cell (some (.ref C)), sl1⟩) (FB : ExcBaseFacts B newId initId bmB) (KF : PySem.W.KxsFacts B initId) (T : SupK B newId initId bmB P K mg C f fd ar) (h0 : N[0]? = some ar.arg)
    (I : Inv (cxS CX P w K mg base N fd f A outer s0 H0 E) [] σ H s) (hσ : σ[0]? = some (some (.ref a))) (ea : H a = some (exo a C none)) (ha : PA (cxS CX P w K mg base N fd f A outer s0 H0 E) [e] ta)
    (h : ta σ H fun vs H1 => vs.length ≤ 1000 ∧ H1 a = some (exo a C none) ∧ ∀ t, H1 t = none → t ≠ a → R (upd (upd H1 t (.tup vs)) a (exq a C none t)))
    (hst : starEach [e] (callEnv fd s0.heap.objs.size f) = [(false, eval e (callEnv fd s0.heap.objs.size f))] := by rfl)
    {pl : Sem Bool}
    (hcall : eval (.Call (.Attribute (.Call (.Name "super" p0) [] [] p1) "__init__" p2) [e] [] p3) (callEnv fd s0.heap.objs.size f) = (do
      let ov ← attributeBase (.Call (.Name "super" p0) [] [] p1) "__init__" (callEnv fd s0.heap.objs.size f) (eval (.Call (.Name "super" p0) [] [] p1) (callEnv fd s0.heap.objs.size f))
      standAt p2.atName
      let (f', first) ← holding [ov] (getMethod ov "__init__" pl)
      callWith p3 f' first (backTo p3 (starEach [e] (callEnv fd s0.heap.objs.size f))) []) := by rfl) :
    PySem.wpAt (model P w) (A.deeper (callEnv fd s0.heap.objs.size f)) (.func body (callEnv fd s0.heap.objs.size f)) (eval (.Call (.Attribute (.Call (.Name "super" p0) [] [] p1) "__init__" p2) [e] [] p3) (callEnv fd s0.heap.objs.size f))
      (fun _ s' => ∃ H', Inv (cxS CX P w K mg base N fd f A outer s0 H0 E) [] σ H' s' ∧ R H') (cxS CX P w K mg base N fd f A outer s0 H0 E).xe s := by
  obtain ⟨oc, od, osl, lkf⟩ := T.fn
  obtain ⟨cda, k1, k2, vsc, k3, file, tf, hco, hcda, hvs, hfile⟩ := T.code
  have KX : K.In s.heap := I.kIn
  refine ks_wpAt_MethodCall (pl := pl) ?_ hcall
  refine ks_wpAt_super_base (f := f) (cc := cda) S.sup S.cls (by decide) rfl (KX _ _ lkf) rfl T.hp hco (KX _ _ hcda) rfl hvs hfile T.top ?_
  -- super
  obtain ⟨mb, b1, b2⟩ := I.mod.blt
  have hkind : (callEnv fd s0.heap.objs.size f).scope.kind = .function := S.kind
  have hsup : (callEnv fd s0.heap.objs.size f).kindOf "super" = some .globalImplicit := S.sup
  have ldS : ∀ Q : Value → Shared → Prop, Q (.type "super") s → wpAny (model P w) (A.deeper (callEnv fd s0.heap.objs.size f)) (loadName (callEnv fd s0.heap.objs.size f) "super") Q (cxS CX P w K mg base N fd f A outer s0 H0 E).xe s := fun Q hq => by
    unfold loadName
    simp only [Env.blockKind, hkind, hsup, ScopeKind.isAnnotationScope, Bool.false_and, Bool.false_eq_true, if_false]
    exact Calls.loadGlobal_builtin (by show s.heap.Ns fd.globals mg; rw [S.glob]; exact I.mod.glob.keeps I.bk) T.ms (by show s.heap.Ns fd.builtins mb; rw [S.blt]; exact b1.keeps I.bk) ((b2 _ (by decide)).trans boot_super) hq
  refine ldS _ ⟨rfl, ?_⟩
  -- __class__
  have hcell : s.heap.IsCell cc (some (.ref C)) := ⟨_, KX _ _ hcc, rfl⟩
  refine wpAny_loadName_free hkind S.cls (by show fd.closure.lookup _ = _; rw [S.clo]; rfl) hcell ?_
  -- self
  obtain ⟨m, hns, hl⟩ := I.loc
  obtain ⟨u, ru, hlook⟩ := hl 0 ar.arg (.ref a) h0 hσ (.inl T.loc)
  obtain rfl : u = Value.ref a := ru
  have hml : m ar.arg = some (.ref a) := by
    rcases hlook with ⟨_, z⟩ | ⟨z, _⟩
    · exact z
    · have z' : fd.scope.names.lookup ar.arg = some .cell ∨ fd.scope.names.lookup ar.arg = some .free := z
      rw [T.loc] at z'
      rcases z' with z' | z' <;> cases z'
  refine wpAny_loadName_local hkind T.loc hns hml ?_
  -- the class, the object
  obtain ⟨nm, q, NN, bs, bm, sn, sub, ab, col, dd, c0, c1, c2, c3, c5, hC, hbm⟩ := T.cls
  have hCh := KX _ _ hC
  obtain ⟨t1, hoa⟩ := exo_at I.hok ea
  obtain ⟨hp, g, d, t, os⟩ := s
  refine ks_wpAny_isType_cls hCh rfl ⟨rfl, ?_⟩
  refine ks_wpAny_call_super hCh rfl hoa rfl (fun c z => nomatch z) (PySem.W.looks_subIn KX T.sC) (fun h1 hso k1' => ?_)
  -- the bound __init__
  have KX1 : K.In h1 := KX.keeps k1'
  have hcl : PySem.W.clsIn K C = some { name := nm, bases := bs, mro := .ref C :: bm, ns := NN, qualname := q, hasDict := true, slotNames := sn, subclasses := sub, abstract := ab, collection := col, hasDel := false } := by unfold PySem.W.clsIn; rw [hC] <;> rfl
  have hal : PySem.W.alongIn K "__init__" (((Value.ref C :: bm).dropWhile (· != .ref C)).drop 1) = some (some (.builtin initId)) := by
    have z := T.sup
    unfold PySem.W.ks_superIn at z
    rw [hcl] at z
    exact z
  have hoa1 := k1' _ _ hoa
  have inst1 : PySem.W.InstAt h1 a { cls := .ref C, dict := none, data := .fields #[.ref t1, .none, .none, .none, .bool false, .none] } C none := ⟨hoa1, rfl, rfl, trivial⟩
  have hI1 : PySem.W.Looks (model P w) h1 (isInstance (.ref a) (.type B)) true := inst1.type.andThen (PySem.W.looks_subIn KX1 T.sB)
  refine PySem.W.kxs_getMethod KF hso (PySem.W.looks_opaque KX1 T.op) (l₀ := .ref C :: bm) (fun A Q E s k q => wpAny_bind ((PySem.W.looks_clsIn KX1 hcl) A _ E s k (wpAny_pure q))) rfl KX1 hal hI1 (PySem.W.ks_ne KX1 inst1 hcl) (by decide) ?_
  -- its argument
  have kk : ∀ b o, hp.get? b = some o → (h1.push (PySem.W.kxs_mw initId a)).get? b = some o := fun b o z => Heap.get?_push_of_some _ (k1' b o z)
  have I2 : Inv (cxS CX P w K mg base N fd f A outer s0 H0 E) [] σ H ⟨h1.push (PySem.W.kxs_mw initId a), g, d, t + 1, os⟩ := I.kept (t' := t + 1) kk
  have hwr : (h1.push (PySem.W.kxs_mw initId a)).get? h1.objs.size = some (PySem.W.kxs_mw initId a) := Heap.get?_push_at rfl rfl
  have I1 : Inv (cxS CX P w K mg base N fd f A outer s0 H0 E) [] σ H ⟨h1, g, d, t + 1, os⟩ := I.kept (t' := t + 1) k1'
  have I3 : Inv (cxS CX P w K mg base N fd f A outer s0 H0 E) [(h1.objs.size, PySem.W.kxs_mw initId a)] σ H ⟨h1.push (PySem.W.kxs_mw initId a), g, d, t + 1, os⟩ := I2.pins_of fun p hp' => by
    obtain rfl := List.mem_singleton.mp hp'
    exact ⟨hwr, I1.hok.fresh (Nat.le_refl _), Nat.ne_of_gt I1.lt, I1.nofs (Nat.le_refl _), fun v z => by cases z⟩
  rw [hst]
  refine PySem.W.kxs_callWith (i := initId) (x := a) rfl ?_
  refine Calls.evalArgs_plain ?_
  have hrun := ha.run p3 [(h1.objs.size, PySem.W.kxs_mw initId a)] _ σ H _ I3 h
  rw [show starEach [e] (cxS CX P w K mg base N fd f A outer s0 H0 E).env = [(false, eval e (callEnv fd s0.heap.objs.size f))] from hst] at hrun
  refine thn hrun fun us s2 ⟨vs, H1, I4, r4, hl, ea4, q4⟩ => ?_
  have hu2 : s2.heap.get? h1.objs.size = some (PySem.W.kxs_mw initId a) := (I4.pin _ (List.mem_append_right _ (List.mem_singleton.mpr rfl))).1
  refine ⟨hu2, ?_⟩
  show wpAny _ _ (call (.ref h1.objs.size) us) _ _ _
  have I5 : Inv (cxS CX P w K mg base N fd f A outer s0 H0 E) [] σ H1 s2 := I4.pins_of (fun p hp' => by cases hp')
  obtain ⟨t4, ho4⟩ := exo_at I5.hok ea4
  have hC2 := I5.kIn _ _ hC
  have hz : us.length ≤ sizeLine := by
    rw [← Paired.length r4, sizeLine_eq]
    omega
  have fin : ∀ h', (∀ b o, b ≠ a → s2.heap.get? b = some o → h'.get? b = some o) → h'.get? a = some ({ cls := .ref C, dict := none, data := .fields #[.ref s2.heap.objs.size, .none, .none, .none, .bool false, .none] } : Obj) →
      h'.get? s2.heap.objs.size = some (PySem.W.kdv_tup us) → ∃ H', Inv (cxS CX P w K mg base N fd f A outer s0 H0 E) [] σ H' { s2 with heap := h' } ∧ R H' := by
    intro h' k hx ht
    have lt := Heap.lt_size ho4
    have top : (s2.heap.push (PySem.W.kdv_tup us)).get? s2.heap.objs.size = some (PySem.W.kdv_tup us) := Heap.get?_push_size _ rfl
    have J0 := I5.laid (t' := s2.toks) (a := s2.heap.objs.size) (o := .tup vs) (h' := s2.heap.push (PySem.W.kdv_tup us)) (fun b o z => Heap.get?_push_of_some _ z) (Nat.le_refl _)
      ⟨by rw [Paired.length r4]; exact hz, us, r4, _, top, rfl, _, rfl⟩
    have na : a ≠ s2.heap.objs.size := Nat.ne_of_lt lt
    have ea5 : upd H1 s2.heap.objs.size (.tup vs) a = some (exo a C none) := (upd_ne na).trans ea4
    have stay : ∀ b o, b ≠ a → (s2.heap.push (PySem.W.kdv_tup us)).get? b = some o → h'.get? b = some o := by
      intro b o nb z
      rcases Heap.get?_push_cases z with ⟨rfl, rfl⟩ | z'
      · exact ht
      · exact k b o nb z'
    have J := J0.write (t' := s2.toks) (x := a) (e := a) (o := exq a C none s2.heap.objs.size) (by rw [ea5]; exact True.intro) (.inl rfl) stay ⟨_, hx⟩ (exq_ok hx)
    exact ⟨_, J, q4 _ (I5.hok.fresh (Nat.le_refl _)) (Ne.symm na)⟩
  obtain ⟨hp2, g2, d2, tk2, os2⟩ := s2
  refine wpAny_call (codeAny_of_tree ?_)
  show wpAny _ _ (callAny (.ref h1.objs.size) ⟨us, []⟩) _ _ _
  simp only [callAny]
  refine wpAny_bind (wpAny_load hu2 ?_)
  simp only [PySem.W.kxs_mw, show (Value.type "method-wrapper" == Value.type "method" || Value.type "method-wrapper" == Value.type "builtin_function_or_method" || Value.type "method-wrapper" == Value.type "method-wrapper") = true by decide, if_true]
  refine PySem.W.KFB.if_so (by decide) ?_
  refine wpAny_bind (PySem.W.check_bound_init FB.toExcCallFacts hC2 ho4 rfl ?_)
  refine wpAny_bind (wpAny_pure (wpAny_pure ?_))
  refine ⟨plainId_quiet FB.init.plain _, codeAny_builtin FB.initEntry ?_⟩
  exact PySem.W.exc_init_tree (cls := .ref C) (t0 := t4) (dv := none) (c2 := .none) (c3 := .none) (b4 := .bool false) ho4 hz fun h' k e' t' => fin h' k e' t'
/-- an own exception's __init__ that begins with super().__init__(e) -/
theorem fn_supT (S : SupScope N ps fd cc) (hcc : K.lookup cc = some ⟨.type "cell", cd1, .cell (some (.ref C)), sl1⟩) (FB : ExcBaseFacts B newId initId bmB) (KF : PySem.W.KxsFacts B initId) (T : SupK B newId initId bmB P K mg C f fd ar) (h0 : N[0]? = some ar.arg) (hcd : PySem.W.codeIn K fd.code fd.qualname = true)
    (hbody : fd.body = .stmts (.Expr (.Call (.Attribute (.Call (.Name "super" p0) [] [] p1) "__init__" p2) [e] [] p3) p4 :: rest)) (len : ∀ vs H Q E, sp vs H Q E → vs.length = ps.length)
    (hst : ∀ env, starEach [e] env = [(false, eval e env)] := by intro env; rfl) {pl : Env → Sem Bool}
    (hcall : ∀ env, eval (.Call (.Attribute (.Call (.Name "super" p0) [] [] p1) "__init__" p2) [e] [] p3) env = (do
      let ov ← attributeBase (.Call (.Name "super" p0) [] [] p1) "__init__" env (eval (.Call (.Name "super" p0) [] [] p1) env)
      standAt p2.atName
      let (f', first) ← holding [ov] (getMethod ov "__init__" (pl env))
      callWith p3 f' first (backTo p3 (starEach [e] env)) []) := by intro env; rfl)
    (hin : ∀ L, interactive (callEnv fd L f) = false) (hsw : ∀ L, swapsWith (.Call (.Attribute (.Call (.Name "super" p0) [] [] p1) "__init__" p2) [e] [] p3) none p4.line (callEnv fd L f) = pure false)
    (h : ∀ (A : Around) (outer : List Env) (s : Shared) (H : Hp) (vs : List V) (Q : VK) (E : XK), A.guards = some [] → Room k (A.deeper (callEnv fd s.heap.objs.size f)) → sp vs H Q E →
      ∃ (a : Addr) (ta : TA) (tr : TS), (start N vs)[0]? = some (some (.ref a)) ∧ H a = some (exo a C none) ∧ PA (cxS CX P w K mg base N fd f A outer s H E) [e] ta ∧ PSs (cxS CX P w K mg base N fd f A outer s H E) rest tr ∧
        ta (start N vs) H (fun us H1 => us.length ≤ 1000 ∧ H1 a = some (exo a C none) ∧ ∀ t, H1 t = none → t ≠ a → tr { nx := fun _ H' => Q .non H', rt := Q } (start N vs) (upd (upd H1 t (.tup us)) a (exq a C none t)))) :
    FnG P w K mg base CX (k + 1) f fd ps sp := by
  refine ⟨len, fun A outer s H args us vs Q E gd hr e0 hb r hsp => ?_⟩
  have KX : K.In s.heap := e0.mod.kin.keeps fun b o e => (e0.bs b o e).1
  obtain ⟨oc, od, osl, lkf⟩ := T.fn
  refine ks_codeAny_call_defAt hr.depth (KX _ _ lkf) rfl (e0.mod.nolimit.keeps fun b o e => (e0.bs b o e).1) (PySem.W.codeRec_of KX hcd) hbody hb S.nocell (fun x hx => S.par x.1 (List.of_mem_zip hx).1) (fun h1 hns kk => ?_) S.co S.gen S.kind
  obtain ⟨a, ta, tr, ha0, hea, hta, htr, hq⟩ := h A outer s H vs Q E gd (hr.deeper _) hsp
  have I := invS_start (CX := CX) (E := E) (f := f) S hcc hr.hd e0 (len _ _ _ _ hsp) r (tk := s.toks + (ps.zip us).length) hns kk
  refine ks_wpAt_execs_cons (ks_wpAt_Expr_any (PySem.wpAt_mono (sup_runT (pl := pl _) S hcc FB KF T h0 I ha0 hea hta hq (hst _) (hcall _)) (fun v s1 ⟨H1, I1, q1⟩ => ?_) fun e s' hs => hs) (hin _) (hsw _))
  refine PySem.wpAt_of_wpAny (wpAny_mono (htr.run [] s1 _ H1 _ I1 q1) (fun fl s' hs => ?_) fun e s' hs => hs)
  cases fl with
  | ret u => obtain ⟨v, σ', H', J, rv, q⟩ := hs; exact ⟨v, H', J.os, J.bare, J.base, J.hok, rv, q⟩
  | next => obtain ⟨σ', H', J, q⟩ := hs; exact ⟨V.non, H', J.os, J.bare, J.base, J.hok, rfl, q⟩
  | brk => obtain ⟨_, _, _, q⟩ := hs; exact False.elim q
  | cont => obtain ⟨_, _, _, q⟩ := hs; exact False.elim q
end
end L2

/-! C(e, ..), C(f=e): an own exception as a value. -/
namespace L2
open PySem PySem.Spec PyProof.Rows PySem.HandSPX
section
variable {prog : Program} {w : World} {A : Around} {E : Value → Shared → Prop} {R : Result → Shared → Prop} {h : Heap} {g : Array GenState} {d : Drawn} {t : Nat} {os : OsState}
variable {nm q : Str} {C N : Addr} {bs bm bmB : List Value} {hdct : Bool} {sn : List Str} {sub : List Value} {ab : Bool} {col : Option Bool} {dd : Option Addr} {k0 k1 k2 k3 k5 : Option Value} {B newId initId : String} {rest : List Value} {kw : List (Str × Value)}
/-- what is asked ahead of BaseException.__new__ -/
theorem ask_newK {M : Model} (F : ExcBaseFacts B newId initId bmB) (hT : ∀ X : String, bm.contains (.type X) = bmB.contains (.type X)) {Q : Unit → Shared → Prop}
    (hC : h.get? C = some (excClassObj nm q C N bs bm hdct sn sub ab col dd k0 k1 k2 k3 k5 newId)) (hq : Q () ⟨h, g, d, t, os⟩) : wpAny M A (checkBuiltinCall newId ⟨.ref C :: rest, kw⟩) Q E ⟨h, g, d, t, os⟩ := by
  have among : (Value.ref C :: bm).contains (.type B) = true := by rw [List.contains_cons, hT, F.hasB, Bool.or_true]
  have short := F.noStar
  simp only [checkBuiltinCall, F.newKind, F.newSplit, F.newRow]
  repeat (first | refine wpAny_loadPart_at hC ?_ | (refine wpAny_isSubtype_exc hC ?_; rw [among]) | refine wpAny_staticBase_exc hC ?_ | refine wpAny_madeBy_exc hC ?_ | simp only [bne_self_eq_false, Bool.false_eq_true, if_false] | wp_step)
  exact hq
theorem new_excK (F : ExcBaseFacts B newId initId bmB) (hT : ∀ X : String, bm.contains (.type X) = bmB.contains (.type X))
    (hC : h.get? C = some (excClassObj nm q C N bs bm hdct sn sub ab col dd k0 k1 k2 k3 k5 newId)) (few : rest.length ≤ sizeLine)
    (hq : R (.ok (.ret (.ref (h.objs.size + 1)))) ⟨(h.push (PySem.W.kdv_tup rest)).push (excO C h.objs.size), g, d, t, os⟩) :
    codeAny (model prog w) A (.builtin newId ⟨.ref C :: rest, kw⟩) R ⟨h, g, d, t, os⟩ := by
  have ends := F.ends
  have amongB : (Value.ref C :: bm).contains (.type B) = true := by rw [List.contains_cons, hT, F.hasB, Bool.or_true]
  have notA : (Value.ref C :: bm).contains (.type "AttributeError") = false := by rw [List.contains_cons, hT, F.noAttr]; rfl
  have notN : (Value.ref C :: bm).contains (.type "NameError") = false := by rw [List.contains_cons, hT, F.noName]; rfl
  refine codeAny_builtinAt F.entry ?_
  unfold Builtin.«BaseException.__new__»
  refine PySem.wpAt_bind ?_
  show PySem.wpAt _ _ _ (stack >>= _) _ _ _
  refine PySem.wpAt_bind (PySem.wpAt_stack ?_)
  intro _ _
  refine PySem.wpAt_of_wpAny ?_
  wp_walk
  refine PySem.wpAt_of_wpAny ?_
  rw [F.owner]
  repeat (first | with_reducible refine wpAny_madeHere_exc F.canon hC ?_ | with_reducible refine wpAny_loadPart_at hC ?_ | (with_reducible refine wpAny_isSubtype_exc hC ?_; first | rw [amongB] | rw [notA] | rw [notN]) | wp_step)
  show R _ _
  rw [Heap.size_push]
  exact hq
theorem type_excK {fI : Addr} {Q : Fin → Shared → Prop} (F : ExcBaseFacts B newId initId bmB) (hT : ∀ X : String, bm.contains (.type X) = bmB.contains (.type X))
    (hC : h.get? C = some (excClassObj nm q C N bs bm hdct sn sub ab col dd k0 k1 k2 k3 k5 newId))
    (hi : PySem.W.Looks (model prog w) h (typeLookup (.ref C) "__init__") (some (.ref fI))) (hb : ∀ self, PySem.W.Looks (model prog w) h (bindSpecial (.ref fI) self) (.ref fI, [self])) (few : rest.length ≤ sizeLine)
    (go : codeAny (model prog w) A (.call (.ref fI) ⟨.ref (h.objs.size + 1) :: rest, kw⟩)
      (fun r s' => match r with | .ok (.ret v) => v = .none ∧ Q (.done (.ret (.ref (h.objs.size + 1)))) s' | .ok _ => False | .error e => E e s')
      ⟨(h.push (PySem.W.kdv_tup rest)).push (excO C h.objs.size), g, d, t, os⟩) :
    wpAny (model prog w) A (Builtin.«type.__call__» ⟨.ref C :: rest, kw⟩) Q E ⟨h, g, d, t, os⟩ := by
  have stays : ∀ b o, h.get? b = some o → ((h.push (PySem.W.kdv_tup rest)).push (excO C h.objs.size)).get? b = some o := fun b o e => Heap.get?_push_of_some _ (Heap.get?_push_of_some _ e)
  have there : ((h.push (PySem.W.kdv_tup rest)).push (excO C h.objs.size)).get? (h.objs.size + 1) = some (excO C h.objs.size) := by heap_get
  have self : (Value.ref C :: bm).contains (.ref C) = true := by simp
  have cls2 := stays _ _ hC
  repeat (first | with_reducible refine wpAny_loadPart_at hC ?_ | with_reducible refine wpAny_madeBy_exc hC ?_ | wp_step)
  refine codeAny_call_builtin_code (Code.quiet_builtin _ F.quiet) (ask_newK F hT hC (new_excK F hT hC few ?_))
  show wpAny _ _ _ _ _ _
  unfold isInstance
  repeat (first | with_reducible refine wpAny_loadPart_at there ?_ | (with_reducible refine wpAny_isSubtype_exc cls2 ?_; rw [self]) | wp_step)
  show wpAny _ _ (typeLookup (.ref C) _) _ _ _
  refine (hi.keeps stays).at (wpAny_holding (wpAny_bind (((hb (.ref (h.objs.size + 1))).keeps stays).at (wpAny_bind (wpAny_call (codeAny_mono go ?_))))))
  rintro (e | (v | _ | _ | _)) s' z <;> first | exact z | exact z.elim | skip
  cases z.1
  first
    | exact wpAny_pure (wpAny_pure z.2)
    | (wp_walk; exact z.2)
/-- C(..) with what is said by name -/
theorem call_excK {fI : Addr} (F : ExcBaseFacts B newId initId bmB) (hT : ∀ X : String, bm.contains (.type X) = bmB.contains (.type X))
    (hC : h.get? C = some (excClassObj nm q C N bs bm hdct sn sub ab col dd k0 k1 k2 k3 k5 newId))
    (hi : PySem.W.Looks (model prog w) h (typeLookup (.ref C) "__init__") (some (.ref fI))) (hb : ∀ self, PySem.W.Looks (model prog w) h (bindSpecial (.ref fI) self) (.ref fI, [self])) (few : rest.length ≤ sizeLine)
    (go : codeAny (model prog w) (A.under (.builtin "type.__call__" ⟨.ref C :: rest, kw⟩)) (.call (.ref fI) ⟨.ref (h.objs.size + 1) :: rest, kw⟩) (PySem.W.InitBack (h.objs.size + 1) R)
      ⟨(h.push (PySem.W.kdv_tup rest)).push (excO C h.objs.size), g, d, t, os⟩) :
    codeAny (model prog w) A (.call (.ref C) ⟨rest, kw⟩) R ⟨h, g, d, t, os⟩ := by
  have taken := tc_lookup
  have held := tc_bind (Value.ref C)
  have isType : Shared.TypeIs ⟨h, g, d, t, os⟩ (.ref C) "type" := ⟨_, hC, rfl⟩
  apply codeAny_of_tree
  change wpAny _ _ (callAny (Value.ref C) _) _ _ _
  repeat (any_goals (first | with_reducible refine wpAny_loadPart_at hC ?_ | assumption | wp_step))
  refine ⟨rfl, codeAny_call_builtin_at (Code.quiet_builtin _ (by decide +kernel)) entry_typeCall ?_⟩
  have typ : PySem.W.Looks (model prog w) h (isInstance (.ref C) (.type "type")) true := fun A' Q' E' s' k q => by
    unfold isInstance
    refine wpAny_bind (wpAny_typeOf_ref (k _ _ hC) ?_)
    show wpAny _ _ (isSubtype (.type "type") (.type "type")) _ _ _
    rw [tc_sub]
    exact wpAny_pure q
  refine PySem.W.check_slot tc_kind tc_split typ (PySem.W.tc_args _ _ _) (type_excK F hT hC hi hb few (codeAny_mono go ?_))
  rintro (e | (v | _ | _ | _)) s' z <;> exact z
end
end L2

/-! The end of a law row with lambdas whose defs are told by FnG. -/
namespace L2
open PySem PySem.Spec PyProof.Rows LamX
section
variable {P : Program} {w : World} {K : PySem.W.Frag} {mg mb : Str → Option Value} {CX : CXT} {k : Nat} {fa a : Addr} {fd : FuncData} {x : Str} {sp : Sp} {s₁ : Shared} {vs : List Value} {ns : List Int} {cs : List (Addr × Addr)}
abbrev emptyTab : Obj := { cls := .none, data := .fields #[] }
/-- the call from an abstract heap that tracks at most the script and the tables -/
theorem law_coreT (KX : K.In s₁.heap) (gl : s₁.heap.Ns mainGlobals mg) (bl : s₁.heap.Ns builtinsNs mb) (boot : ∀ x : Str, x ≠ "__name__" → mb x = bootBuiltins x) (lim : s₁.heap.NoLimit) (gens : s₁.gens = #[])
    (tabs : ∀ p ∈ cs, s₁.heap.get? p.2 = some emptyTab) (notK : ∀ p ∈ cs, K.lookup p.2 = none) (code : ∀ p ∈ cs, PySem.W.CodeHd s₁.heap p.1 p.2)
    (main : ∃ (bm : Addr) (ob : Obj), mg "__builtins__" = some (.ref bm) ∧ bm ≠ builtinsNs ∧ s₁.heap.get? bm = some ob ∧ ob.cls = .type "module" ∧ ob.dict = some builtinsNs ∧ ob.data = .plain)
    (ha : s₁.heap.get? a = some { cls := .type "list", data := .seq vs.toArray }) (room : Room k callerA)
    (F : ∀ base : Heap, K.In base → base.Ns mainGlobals mg → (∀ p ∈ cs, TabB base mg p.1 p.2) → FnG P w K mg base CX k fa fd [x] sp) (bind : ∀ (s : Shared) (u : Value), BindsTo s fd ⟨[u], []⟩ [(x, u)]) (noX : ∀ H e s', CX [] H s₁ (fun _ _ _ => False) e s' → False)
    (H : Hp) (atT : ∀ p ∈ cs, H p.2 = some (.tbl #[])) (frozen : ∀ b, (∀ p ∈ cs, b ≠ p.2) → H b = none ∨ ∃ o xs, H b = some (.frz o (.lst xs))) (wish : sp [.ref a] H (fun v _ => v = .bl true) fun _ _ _ => False) (hok : HOk P w H s₁.heap)
    (only : ∀ b, H b ≠ none → b = a ∨ ∃ p ∈ cs, b = p.2) (free : H a ≠ none → K.lookup a = none) :
    codeAny (model P w) callerA (.call (.ref fa) ⟨[.ref a], []⟩) (fun r s' => r = .ok (.ret (.bool true)) ∧ OldK s₁.heap s'.heap ∧ s'.os = s₁.os ∧ AllBare s'.gens) s₁ := by
  have untracked : ∀ {b : Addr} {o : Obj}, s₁.heap.get? b = some o → (∀ vs n, o.data ≠ .seq vs n) → o.data ≠ .fields #[] → H b = none := fun {b o} e q1 q2 => by
    refine Classical.byContradiction fun hb => ?_
    rcases only b hb with rfl | ⟨p, hp, rfl⟩
    · rw [ha] at e
      exact q1 _ _ (by rw [← Option.some.inj e])
    · rw [tabs p hp] at e
      exact q2 (by rw [← Option.some.inj e])
  have dicts : ∀ {b : Addr} {m : Str → Option Value}, s₁.heap.Ns b m → (hidT s₁.heap H).Ns b m := fun {b m} ⟨o, es, ep, e, d, r⟩ =>
    ⟨o, es, ep, hidT_get e (untracked e (fun _ _ z => nomatch d.symm.trans z) fun z => nomatch d.symm.trans z), d, r⟩
  have KB : K.In (hidT s₁.heap H) := fun b o e => hidT_get (KX b o e) (by
    refine Classical.byContradiction fun hb => ?_
    rcases only b hb with rfl | ⟨p, hp, rfl⟩
    · rw [free hb] at e
      cases e
    · rw [notK p hp] at e
      cases e)
  have mod : L2.Mod K mg (hidT s₁.heap H) := ⟨KB, dicts gl, ⟨mb, dicts bl, boot⟩, let ⟨mc, l1, l2⟩ := lim; ⟨mc, dicts l1, l2⟩⟩
  have TB : ∀ p ∈ cs, TabB (hidT s₁.heap H) mg p.1 p.2 := fun p hp => by
    have tp := tabs p hp
    constructor
    · obtain ⟨o, us, file, tf, flags, tg, inF, text, tt, c1, c2, c3, c4, c5, c6, c7, c8, c9, c10⟩ := code p hp
      refine ⟨o, us, file, tf, flags, tg, inF, text, tt, hidT_get c1 (untracked c1 (fun _ _ z => nomatch c3.symm.trans z) fun z => ?_), c2, c3, c4, c5, c6, c7, c8, c9, c10⟩
      have z2 : us = #[] := by
        have := c3.symm.trans z
        injection this
      subst z2
      simp at c4
    · obtain ⟨bm, ob, b1, b2, b3, b4, b5, b6⟩ := main
      refine ⟨bm, ob, b1, b2, fun z => ?_, fun z => ?_, hidT_get b3 (untracked b3 (fun _ _ z => nomatch b6.symm.trans z) fun z => nomatch b6.symm.trans z), b4, b5, b6⟩
      · obtain ⟨o, es, ep, e, d, _⟩ := gl
        rw [z, e] at b3
        cases b3
        exact nomatch d.symm.trans b6
      · rw [z, tp] at b3
        cases b3
        exact nomatch b6
    · intro z
      obtain ⟨o, es, ep, e, d, _⟩ := gl
      rw [z, tp] at e
      cases e
      exact nomatch d
  have start : Env0 P w K mg (hidT s₁.heap H) callerA [] s₁ H := ⟨rfl, mod, fun b o e => of_hidT e, Nat.le_of_eq (hidT_size _ _), trivial, (fun b hb => by cases hb), hok, .of_eq gens⟩
  refine codeAny_mono ((F _ KB (dicts gl) TB).run callerA [] s₁ H ⟨[.ref a], []⟩ [.ref a] [.ref a] _ _ rfl room start (bind s₁ (.ref a)) (.cons rfl .nil) wish) fun r s' h => ?_
  cases r with
  | error e => exact (noX H e s' h).elim
  | ok fl =>
    cases fl with
    | next => exact False.elim h
    | brk => exact False.elim h
    | cont => exact False.elim h
    | ret u =>
      obtain ⟨v, H', os, bare, un, after, r', q⟩ := h
      obtain rfl : v = .bl true := q
      obtain rfl : u = Value.bool true := r'
      have stays : ∀ b o, (∀ p ∈ cs, b ≠ p.2) → s₁.heap.get? b = some o → s'.heap.get? b = some o := fun b o nb e => by
        rcases frozen b nb with z | ⟨ob, xs, z⟩
        · exact un.keep b o e z (fun y => by cases y) (fun y => by cases y)
        · obtain ⟨e1, _⟩ := hok b _ z
          obtain ⟨e2, _⟩ := after b _ (un.frzs b ob _ z)
          rw [e] at e1
          cases e1
          exact e2
      have grows : ∀ p ∈ cs, ∃ more : Array Value, s'.heap.get? p.2 = some { cls := .none, data := .fields more } := fun p hp => by
        obtain ⟨more, z⟩ := un.tbls p.2 #[] (atT p hp)
        exact ⟨_, after p.2 _ z⟩
      have split : ∀ b : Addr, (∃ p ∈ cs, b = p.2) ∨ ∀ p ∈ cs, b ≠ p.2 := fun b => Classical.byCases .inl fun z => .inr fun p hp e => z ⟨p, hp, e⟩
      refine ⟨rfl, ⟨fun b o e => ?_, fun b o e => ?_⟩, os, bare⟩
      · rcases split b with ⟨p, hp, rfl⟩ | nb
        · obtain ⟨more, hm⟩ := grows p hp
          have e' := (tabs p hp).symm.trans e
          cases e'
          exact .inr (.inl ⟨((code p hp).tab (tabs p hp)).isCodeTable, rfl, #[], more, rfl, by rw [Array.empty_append]; exact hm⟩)
        · exact .inl (stays b o nb e)
      · rcases split b with ⟨p, hp, rfl⟩ | nb
        · obtain ⟨more, hm⟩ := grows p hp
          exact ⟨_, hm⟩
        · exact ⟨o, stays b o nb e⟩
open Classical in
/-- the script, if the text does not keep it, and the tables -/
noncomputable def startT (K : PySem.W.Frag) (a : Addr) (vs : List Value) (ns : List Int) (cs : List (Addr × Addr)) : Hp := fun b =>
  if b = a then (if K.lookup a = none then some (.frz { cls := .type "list", data := .seq vs.toArray } (.lst (ns.map V.int))) else none) else if ∃ p ∈ cs, b = p.2 then some (.tbl #[]) else none
theorem law_callT (KX : K.In s₁.heap) (gl : s₁.heap.Ns mainGlobals mg) (bl : s₁.heap.Ns builtinsNs mb) (boot : ∀ x : Str, x ≠ "__name__" → mb x = bootBuiltins x) (lim : s₁.heap.NoLimit) (gens : s₁.gens = #[])
    (tabs : ∀ p ∈ cs, s₁.heap.get? p.2 = some emptyTab) (notK : ∀ p ∈ cs, K.lookup p.2 = none) (code : ∀ p ∈ cs, PySem.W.CodeHd s₁.heap p.1 p.2)
    (main : ∃ (bm : Addr) (ob : Obj), mg "__builtins__" = some (.ref bm) ∧ bm ≠ builtinsNs ∧ s₁.heap.get? bm = some ob ∧ ob.cls = .type "module" ∧ ob.dict = some builtinsNs ∧ ob.data = .plain)
    (ha : s₁.heap.get? a = some { cls := .type "list", data := .seq vs.toArray }) (hi : IntsAre vs ns) (hl : ns.length ≤ sizeLine) (room : Room k callerA)
    (F : ∀ base : Heap, K.In base → base.Ns mainGlobals mg → (∀ p ∈ cs, TabB base mg p.1 p.2) → FnG P w K mg base CX k fa fd [x] sp) (bind : ∀ (s : Shared) (u : Value), BindsTo s fd ⟨[u], []⟩ [(x, u)]) (noX : ∀ H e s', CX [] H s₁ (fun _ _ _ => False) e s' → False)
    (hsp : ∀ H : Hp, (∀ p ∈ cs, H p.2 = some (.tbl #[])) → SqL K H a (ns.map V.int) → sp [.ref a] H (fun v _ => v = .bl true) fun _ _ _ => False) :
    codeAny (model P w) callerA (.call (.ref fa) ⟨[.ref a], []⟩) (fun r s' => r = .ok (.ret (.bool true)) ∧ OldK s₁.heap s'.heap ∧ s'.os = s₁.os ∧ AllBare s'.gens) s₁ := by
  have rv := vals_ints hi
  have apart : ∀ p ∈ cs, p.2 ≠ a := fun p hp z => by
    have e := tabs p hp
    rw [z, ha] at e
    cases e
  have atT : ∀ p ∈ cs, startT K a vs ns cs p.2 = some (.tbl #[]) := fun p hp => by
    unfold startT
    rw [if_neg (apart p hp), if_pos ⟨p, hp, rfl⟩]
  have atA : startT K a vs ns cs a = if K.lookup a = none then some (.frz { cls := .type "list", data := .seq vs.toArray } (.lst (ns.map V.int))) else none := by
    unfold startT
    rw [if_pos rfl]
  have list : SqL K (startT K a vs ns cs) a (ns.map V.int) := by
    cases hk : K.lookup a with
    | none => exact .inl (.inr ⟨_, by rw [atA, if_pos hk]⟩)
    | some o =>
      have e := KX a o hk
      rw [ha] at e
      cases e
      exact .inr ⟨_, vs.toArray, _, hk, rfl, rfl, rfl, by rw [List.size_toArray, hi.length]; exact hl, by simpa using rv⟩
  refine law_coreT KX gl bl boot lim gens tabs notK code main ha room F bind noX (startT K a vs ns cs) atT (fun b nb => ?_) (hsp _ atT list) (fun b u z => ?_) (fun b hb => ?_) fun z => ?_
  · by_cases hba : b = a
    · subst hba
      by_cases hk : K.lookup b = none
      · exact .inr ⟨_, _, by rw [atA, if_pos hk]⟩
      · exact .inl (by rw [atA, if_neg hk])
    · refine .inl ?_
      unfold startT
      rw [if_neg hba, if_neg fun ⟨p, hp, e⟩ => nb p hp e]
  · by_cases hba : b = a
    · subst hba
      rw [atA] at z
      by_cases hk : K.lookup b = none
      · rw [if_pos hk] at z
        cases z
        exact ⟨ha, by rw [List.length_map]; exact hl, vs, _, rv, ha⟩
      · rw [if_neg hk] at z
        cases z
    · unfold startT at z
      rw [if_neg hba] at z
      by_cases hp : ∃ p ∈ cs, b = p.2
      · rw [if_pos hp] at z
        cases z
        obtain ⟨p, h1, rfl⟩ := hp
        exact tabs p h1
      · rw [if_neg hp] at z
        cases z
  · by_cases hba : b = a
    · exact .inl hba
    · refine .inr (Classical.byContradiction fun hp => hb ?_)
      unfold startT
      rw [if_neg hba, if_neg hp]
  · refine Classical.byContradiction fun hk => z ?_
    rw [atA, if_neg hk]
end
/-- what is known of the law's promise at the head's heap -/
def LawT (l : PySem.W.OpenLaw) (w : World) (K : PySem.W.Frag) (CX : CXT) (k n : Nat) (x : Str) (mg : Str → Option Value) (fa : Addr) (h : Heap) : Prop :=
  ∃ (fd : FuncData) (cs : List (Addr × Addr)) (sp : Sp), (∀ p ∈ cs, h.get? p.2 = some emptyTab) ∧ (∀ p ∈ cs, K.lookup p.2 = none) ∧ (∀ p ∈ cs, PySem.W.CodeHd h p.1 p.2) ∧ (∀ (s : Shared) (u : Value), BindsTo s fd ⟨[u], []⟩ [(x, u)]) ∧
    (∀ (H : Hp) (a : Addr) (ns : List Int), ns.length ≤ n → (∀ p ∈ cs, H p.2 = some (.tbl #[])) → SqL K H a (ns.map V.int) → sp [.ref a] H (fun v _ => v = .bl true) fun _ _ _ => False) ∧
    ∀ base : Heap, K.In base → base.Ns mainGlobals mg → (∀ p ∈ cs, TabB base mg p.1 p.2) → FnG l.prog w K mg base CX k fa fd [x] sp
theorem walk_ofT {l : PySem.W.OpenLaw} {n k : Nat} {q : Program} {loose : List Str} {XP : (Str → Option Value) → Heap → Prop} {YP : World → Heap → Prop} {d : DefRec} {K : Params → PySem.W.Frag} {CX : World → CXT} {x : Str}
    (hn : l.most = some n) (hn2 : n ≤ sizeLine) (hdf : d.params.defaults = []) (hr : Room k callerA) (hY : ∀ (w : World) (h : Heap), YP w h → (K w.params).In h)
    (F : ∀ (w : World) (mg : Str → Option Value) (fa : Addr) (h : Heap), YP w h → (K w.params).In h → h.Ns mainGlobals mg → (∀ (d' : DefRec) (x : Str) (c P : Addr), (recsOf q).find? (fun e => e.name == x) = some d' → PySem.W.tabIn (K w.params) x = some (c, P) → PySem.W.CodeHd h c P ∧ h.get? P = some emptyTab) → mg d.name = some (.ref fa) → LawT l w (K w.params) (CX w) k n x mg fa h)
    (hCX : ∀ (w : World) (G : Hp) (s0 : Shared) (er : Value) (s1 : Shared), CX w [] G s0 (fun _ _ _ => False) er s1 → False) : PySem.W.WalkO q loose XP YP l.row.toRowW d [] (fun f vs => PySem.call f vs) := by
  refine Att.attach_call hn hdf ?_
  intro w s₀ s₁ mg mb fa _ _ _ _ a vs ns G Y _ _ _ hmg hobj hints hlen hg
  obtain ⟨fd, cs, sp, t1, t2, t3, hb, hsp, hF⟩ := F w mg fa _ Y (hY w _ Y) G.T.g (fun d' x c P h1 h2 => PySem.W.tab_of G.T (hY w _ Y) h1 h2) hmg
  exact law_callT (hY w _ Y) G.T.g G.T.b G.T.builtins G.T.nolimit hg t1 t2 t3 G.T.bmain hobj hints (Nat.le_trans hlen hn2) hr hF hb (fun H e s' => hCX w H s₁ e s') fun H hH hS => hsp H a ns hlen hH hS
end L2

/-! x(lambda: body, e): the lambda is called by a def with two parameters; no repr is under way. -/
namespace L2
open PySem PySem.Spec PyProof.Rows LamX
section
variable {X : Cx} {pins : List (Addr × Obj)} {σ : L2.St} {H : Hp} {s : Shared}
theorem pe_actG {CXg : CXT} {Eg : XK} {Ng : List Str} {qg : Str} {sg : Scope} {g f c' : Addr} {cdg pm ctv : Value} {params : Arguments} {body : Expr} {scope : Scope} {k i : Nat} {a : Str} {pn : List (Addr × Obj)} {xe : Value → Shared → Prop} {W : WX} {t : XK → TE} {p1 p2 : Pos}
    (gd : X.A.guards = some []) (I : Inv X pins σ H s) (L : LamS X.env.scope scope) (hf : s.heap.get? f = some (PySem.W.kla_obj "<lambda>" (X.env.qual ++ "<lambda>") params body scope (cloFrom X.env.cells scope.names []) pm c' ctv)) (hfn : H f = none) (hfr : f ∉ frs X.stack)
    (hbind : bindArgs (PySem.W.kla_fn "<lambda>" (X.env.qual ++ "<lambda>") params body scope (cloFrom X.env.cells scope.names []) pm (.ref c') ctv) ⟨[], []⟩ = pure [])
    (tk : Takes ((cxOf CXg X.prog X.w X.K X.mg X.base Ng qg sg g cdg X.A X.stack s H Eg).tr pn xe) W) (hr : Room (k + 1) (X.A.deeper (envOfC qg sg s.heap.objs.size g cdg)))
    (hbody : ∀ (A : Around) (outer : List Env) (s : Shared) (H : Hp) (E : XK), A.guards = some [] → Room k (A.deeper (lamEnv X scope s.heap.objs.size f c')) → PE (lamCx X A outer s H E scope f c') body (t E))
    (hN : Ng[i]? = some a) (hv : Vis sg a) (hd : (a == ("__debug__" : Str)) = false := by decide) (hcd : (a == ("__classdict__" : Str)) = false := by decide) :
    PE ((cxOf CXg X.prog X.w X.K X.mg X.base Ng qg sg g cdg X.A X.stack s H Eg).tr pn xe) (.Call (.Name a p1) [] [] p2)
      (fun σZ HZ Q => σZ[i]? = some (some (.ref f)) ∧ HZ c' = some (CodeO c' (X.env.qual ++ "<lambda>")) ∧ t (WE W σZ) σ HZ Q) := by
  refine ⟨fun pZ sZ σZ HZ Q JZ h => ?_⟩
  obtain ⟨hs, hc, ht⟩ := h
  refine wpAny_Call_Name_kw (thn ((pe_var (pos := p1) (i := i) hN hv hd hcd).run pZ sZ σZ HZ (fun v H1 => v = .ref f ∧ H1 = HZ) JZ ⟨.ref f, hs, rfl, rfl⟩) fun u s1 ⟨v, H1, J1, r1, e1, e2⟩ => ?_)
  subst e1
  rw [e2] at J1
  obtain rfl : u = Value.ref f := r1
  have hfun := J1.base.keep f _ hf hfn hfr (fun z => nomatch (show f ∈ ([] : List Addr) from z))
  refine PySem.W.callWith_F0 ⟨_, _, _, _, hfun⟩ ?_
  have un : Un (frs X.stack) [] H HZ s.heap s1.heap := J1.base
  obtain ⟨⟨oc, vs, t, hoc, hdc, hvc⟩, _, _⟩ := J1.hok c' _ hc
  have gd2 : (X.A.deeper (envOfC qg sg s.heap.objs.size g cdg)).guards = some [] := deeper_guards.trans gd
  have rc : codeAny (model X.prog X.w) (X.A.deeper (envOfC qg sg s.heap.objs.size g cdg)) (.call (.ref f) ⟨[], []⟩) (CR (L2.CX X.prog X.w) (envOfC qg sg s.heap.objs.size g cdg :: X.stack) X.prog X.w HZ s1 Q (WE W σZ)) s1 := by
    refine PySem.W.kla_callFunE hr.depth hfun rfl L.co L.gen rfl ⟨c', oc, vs, t, rfl, hoc, hdc, hvc⟩ ?_
    rw [hbind]
    refine wpAny_pure (wpAny_newFunctionEnv (fun y hy => (L.own y hy).2) (fun y hy => absurd hy (by simp)) (fun h₁ hns hsb => ⟨J1.nolimit.fresh _ hsb, ?_⟩) L.kind)
    show codeAny _ _ (.expr body (lamEnv X scope s1.heap.objs.size f c')) _ _
    have kp : ∀ b o, s1.heap.get? b = some o → h₁.get? b = some o := fun b o e => hsb.extBut b o (Nat.ne_of_lt (Heap.lt_size e)) (Heap.get?_push_of_some _ e)
    have J := lam_start2 (E := WE W σZ) (f := f) (c' := c') (tk := s1.toks + ([] : List (Str × Value)).length) I L J1.env0 hr.hd un hns kp
    refine PySem.W.kla_codeExpr (wpAny_mono ((hbody _ _ s1 HZ _ gd2 (hr.deeper _)).run [] _ _ HZ Q J ht) (fun v s' hq => ?_) fun e s' hq => hq)
    obtain ⟨w', G, JG, rv, q⟩ := hq
    exact ⟨w', G, JG.os, JG.bare, JG.base, JG.hok, rv, q⟩
  have out := passAt tk σZ
  refine wpAny_call (codeAny_mono rc ?_)
  rintro (er | fl) s2 z
  · exact out pZ HZ s1 er s2 J1 z
  · cases fl with
    | ret u => exact J1.after z
    | _ => exact z.elim
end
end L2

/-! x op y, x == y, x != y, str(x): x an instance with own methods, y an instance, an int or a text. -/
namespace L2
open PySem PySem.Spec PyProof.Rows
section
variable {X : Cx} {k : Nat} {pins : List (Addr × Obj)} {σ : St} {H : Hp} {s : Shared}
theorem run_fnA {A' : Around} {f : Addr} {sp : Sp} {Q : VK} {us : List Value} {vs : List V} {E : Value → Shared → Prop} (F : FnR X.prog X.w X.K X.mg X.base CX0 k f sp) (hf : A'.frames = some X.stack) (hr : Room k A') (I : Inv X pins σ H s) (r : Vals vs us) (h : sp vs H Q E0) :
    wpAny (model X.prog X.w) A' (call (.ref f) us) (EP X pins σ Q) E s := by
  refine wpAny_call (codeAny_mono (F A' X.stack s H us vs Q E0 hr ⟨hf, I.env0.mod, I.env0.bs, I.env0.bsz, I.env0.funs, I.env0.frf, I.env0.hok, I.env0.bare⟩ r h) fun r s' hq => ?_)
  cases r with
  | error e => exact False.elim hq
  | ok fl =>
    cases fl with
    | ret u => exact I.after hq
    | next => exact False.elim hq
    | brk => exact False.elim hq
    | cont => exact False.elim hq
/-- the right side: an instance of C, an int, a text -/
inductive Side (C : Addr) (H : Hp) : V → Value → Prop where
  | ins {b dy : Addr} {gs : List (Str × V)} (h : H b = some (.ins C dy gs)) : Side C H (.ref b) (.ref C)
  | int (i : Int) : Side C H (.int i) (.type "int")
  | str (t : Str) : Side C H (.str t) (.type "str")
theorem Side.look {C : Addr} {y : V} {u tb : Value} (d : Side C H y tb) (I : Inv X pins σ H s) (r : RelV y u) : PySem.W.Looks (model X.prog X.w) s.heap (typeOf u) tb := by
  cases d with
  | ins h =>
    obtain rfl : u = Value.ref _ := r
    obtain ⟨mA, M, _⟩ := ins_get I.hok h
    obtain ⟨od, J, _⟩ := M.look
    exact J.type
  | int i =>
    obtain ⟨t, rfl⟩ := r
    exact PySem.W.Looks.of_pure rfl
  | str x =>
    obtain ⟨t, rfl⟩ := r
    exact PySem.W.Looks.of_pure rfl
/-- x op y, y an instance or an int -/
def rOwnM (C : Addr) (sp : Sp) : R2 := fun x y H Q => ∃ a dx fs, x = .ref a ∧ H a = some (.ins C dx fs) ∧ ((∃ b dy gs, y = .ref b ∧ H b = some (.ins C dy gs)) ∨ ∃ i, y = .int i) ∧ sp [x, y] H Q E0
theorem op_ownM {C g : Addr} {op : Operator} {sp : Sp} {fo ro : Option Value} (hc : PySem.W.selfFirst X.K C = true) (hs : PySem.W.findIn X.K (.ref C) (PySem.dunder op.info.2) = some (some (.ref g))) (hf : PySem.W.isFn X.K (.ref g) = true)
    (hr2 : PySem.W.findIn X.K (.ref C) (dunderR op.info.2) = some none) (h1 : PySem.W.findIn X.K (.type "int") (PySem.dunder op.info.2) = some fo) (h2 : PySem.W.findIn X.K (.type "int") (dunderR op.info.2) = some ro) (hsub : PySem.W.subIn X.K (.type "int") (.ref C) = some false)
    (F : FnR X.prog X.w X.K X.mg X.base CX0 k g sp) (hr : Room k X.A) : OpR X (binaryOp op) (rOwnM C sp) := by
  intro pins s σ H x y v u Q I rx ry h
  obtain ⟨a, dx, fs, rfl, ha, hy, q⟩ := h
  cases (show v = Value.ref a from rx)
  obtain ⟨mA, M, _⟩ := ins_get I.hok ha
  obtain ⟨od, J, _⟩ := M.look
  obtain ⟨m, hF⟩ := I.fr
  have run : wpAny (model X.prog X.w) X.A (call (.ref g) [.ref a, u]) (PySem.W.CmpBack (EP X pins σ Q)) X.xe s := by
    refine wpAny_mono (run_fnA (vs := [.ref a, y]) F I.ok.frames hr I (.cons rfl (.cons ry .nil)) q) (fun w s' z => ?_) fun _ _ x => x
    obtain ⟨z', H', I', rz, qz⟩ := z
    exact SlX.cmpback rz ⟨z', H', I', rz, qz⟩
  rcases hy with ⟨b, dy, gs, rfl, hb⟩ | ⟨i, rfl⟩
  · cases (show u = Value.ref b from ry)
    obtain ⟨mB, M', _⟩ := ins_get I.hok hb
    obtain ⟨od', J', _⟩ := M'.look
    exact PySem.W.binop_K hF I.ok.mod.kin J J'.type hc hs hf run
  · obtain ⟨t, rfl⟩ := ry
    exact PySem.W.ksp_binT (T := "int") hF I.ok.mod.kin J rfl hc hs hf hr2 (.inl rfl) h1 h2 hsub run
/-- what the own __eq__ is asked -/
def rOwnEq (C : Addr) (sp : Sp) (neg : Bool) : R2 := fun x y H Q => ∃ a dx fs tb, x = .ref a ∧ H a = some (.ins C dx fs) ∧ Side C H y tb ∧ sp [x, y] H (fun v H' => ∃ b, v = .bl b ∧ Q (.bl (xor neg b)) H') E0
theorem op_ownEq {C g : Addr} {sp : Sp} (hs : PySem.W.findIn X.K (.ref C) "__eq__" = some (some (.ref g))) (hf : PySem.W.isFn X.K (.ref g) = true) (hi : PySem.W.notFirst X.K C (.type "int") = true) (hst : PySem.W.notFirst X.K C (.type "str") = true)
    (F : FnR X.prog X.w X.K X.mg X.base CX0 k g sp) (hr : Room k X.A) : OpR X (compareOp .Eq) (rOwnEq C sp false) := by
  intro pins s σ H x y v u Q I rx ry h
  obtain ⟨a, dx, fs, tb, rfl, ha, hy, q⟩ := h
  cases (show v = Value.ref a from rx)
  obtain ⟨mA, M, _⟩ := ins_get I.hok ha
  obtain ⟨od, J, _⟩ := M.look
  obtain ⟨m, hF⟩ := I.fr
  have hn : PySem.W.notFirst X.K C tb = true := by
    cases hy with
    | ins _ => unfold PySem.W.notFirst; simp
    | int _ => exact hi
    | str _ => exact hst
  show wpAny _ _ (richCompare .Eq (.ref a) u) _ _ _
  refine PySem.W.cmp_K hr.units0 hF I.ok.mod.kin J (hy.look I ry) hn hs hf ?_
  refine wpAny_mono (run_fnA (vs := [.ref a, y]) F I.ok.frames hr I (.cons rfl (.cons ry .nil)) q) (fun w s' z => ?_) fun _ _ x => x
  obtain ⟨z', H', I', rz, b, rfl, qz⟩ := z
  obtain rfl : w = Value.bool b := rz
  exact ⟨.bl b, H', I', rfl, by rw [Bool.false_xor] at qz; exact qz⟩
theorem op_ownNe {C g : Addr} {sp : Sp} (hs : PySem.W.findIn X.K (.ref C) "__eq__" = some (some (.ref g))) (hf : PySem.W.isFn X.K (.ref g) = true) (hne : PySem.W.findIn X.K (.ref C) "__ne__" = some (some (.builtin "object.__ne__"))) (hm : PySem.W.mroIn X.K C (.type "object") = some true)
    (hi : PySem.W.notFirst X.K C (.type "int") = true) (hst : PySem.W.notFirst X.K C (.type "str") = true)
    (F : FnR X.prog X.w X.K X.mg X.base CX0 k g sp) (hr : Room (k + 1) X.A) : OpR X (compareOp .NotEq) (rOwnEq C sp true) := by
  intro pins s σ H x y v u Q I rx ry h
  obtain ⟨a, dx, fs, tb, rfl, ha, hy, q⟩ := h
  cases (show v = Value.ref a from rx)
  obtain ⟨mA, M, _⟩ := ins_get I.hok ha
  obtain ⟨od, J, _⟩ := M.look
  have hn : PySem.W.notFirst X.K C tb = true := by
    cases hy with
    | ins _ => unfold PySem.W.notFirst; simp
    | int _ => exact hi
    | str _ => exact hst
  have one : wpAny (model X.prog X.w) X.A (tryCompare (.ref a) "__ne__" u) (fun r s' => ∃ v, r = some v ∧ EP X pins σ Q v s') X.xe s := by
    unfold tryCompare
    have hc : wpAny (model X.prog X.w) X.A (call (.builtin "object.__ne__") [.ref a, u]) (fun v s' => ∃ b, v = .bool b ∧ EP X pins σ Q (.bool b) s') X.xe s := by
      refine wpAny_call (codeAny_call_builtin PySem.F.cmp_object.ne.plain PySem.F.cmpEntry_ne (PySem.W.check_slot PySem.F.cmpKind_ne PySem.F.cmpSplit_ne (J.type.andThen (PySem.W.looks_mroIn I.kIn hm)) (PySem.F.cmpArgs_ne _ _) ?_))
      unfold Builtin.«object.__ne__»
      refine wpAny_bind (m := slotArgs "__ne__" 1 _) (wpAny_pure ?_)
      refine wpAny_bind (m := cRoomFor _ _) (wpAny_cRoomFor (by have := hr.un; show X.A.units + 1 < cLine; omega) ?_)
      refine wpAny_bind (m := callSpecialIfBound? (.ref a) (Str.ofString "__eq__") [u]) (PySem.W.ifBound_K I.kIn J hs hf (wpAny_mono (run_fnA (A' := X.A.in1) (vs := [.ref a, y]) F I.ok.frames hr.in1 I (.cons rfl (.cons ry .nil)) q) (fun w s' z => ?_) fun _ _ x => x))
      obtain ⟨z', H', I', rz, b, rfl, qz⟩ := z
      obtain rfl : w = Value.bool b := rz
      refine wpAny_bind (m := truthy (.bool b)) (wpAny_truthy_bool (wpAny_pure ⟨_, rfl, .bl (!b), H', I', rfl, by rw [Bool.true_xor] at qz; exact qz⟩))
    refine wpAny_bind (m := callSpecialIfBound? (.ref a) (Str.ofString "__ne__") [u]) ?_
    simp only [callSpecialIfBound?, bindSpecialIfBound?]
    refine wpAny_holding (wpAny_bind (wpAny_bind (wpAny_bind (J.type.here ((PySem.W.looks_findIn I.kIn hne).here ?_)))))
    simp only [PySem.F.cmp_object.ne.bind]
    refine wpAny_bind (wpAny_askSetting (wpAny_ite ?_))
    have fin : ∀ {Q' : Option Value → Shared → Prop}, (∀ b s', EP X pins σ Q (.bool b) s' → Q' (some (.bool b)) s') → wpAny (model X.prog X.w) X.A (call (.builtin "object.__ne__") ([.ref a] ++ [u]) >>= fun v => pure (some v)) Q' X.xe s := fun {Q'} hq => wpAny_bind (wpAny_mono hc (fun v s' ⟨b, e, h'⟩ => by subst e; exact wpAny_pure (hq b s' h')) fun _ _ h' => h')
    split
    · exact wpAny_bind (wpAny_pure (wpAny_pure (fin fun b s' h' => wpAny_pure ⟨_, rfl, h'⟩)))
    · exact wpAny_tryCatch (wpAny_bind (wpAny_pure (wpAny_pure (fin fun b s' h' => wpAny_pure ⟨_, rfl, h'⟩))))
  have apart : (Value.ref C != tb) = true → PySem.W.subIn X.K tb (.ref C) = some false := fun z => by
    rcases Bool.or_eq_true_iff.mp hn with y | y
    · exact absurd (beq_iff_eq.mp y) (by intro e; rw [e] at z; simp at z)
    · exact beq_iff_eq.mp y
  show wpAny _ _ (richCompare .NotEq (.ref a) u) _ _ _
  simp only [richCompare, oneThing_ref, cmpInfo_NotEq]
  refine wpAny_holding (wpAny_bind (wpAny_cRoomFor hr.units0 (wpAny_bind (J.type.here (wpAny_bind ((hy.look I ry).here ?_))))))
  by_cases z : (Value.ref C != tb) = true
  · rw [if_pos z]
    exact wpAny_bind ((PySem.W.looks_subIn I.kIn (apart z)).here (wpAny_bind (wpAny_mono one (fun _ _ ⟨_, e, y⟩ => by subst e; exact wpAny_pure y) fun _ _ y => y)))
  · rw [if_neg z]
    first
      | exact wpAny_bind (wpAny_pure (wpAny_bind (wpAny_mono one (fun _ _ ⟨_, e, y⟩ => by subst e; exact wpAny_pure y) fun _ _ y => y)))
      | exact wpAny_bind (wpAny_mono one (fun _ _ ⟨_, e, y⟩ => by subst e; exact wpAny_pure y) fun _ _ y => y)
/-- str(x) by the own __str__ -/
theorem call_strO {C g : Addr} {sp : Sp} (hs : PySem.W.findIn X.K (.ref C) "__str__" = some (some (.ref g))) (hf : PySem.W.isFn X.K (.ref g) = true) (F : FnR X.prog X.w X.K X.mg X.base CX0 k g sp) (hr : Room (k + 2) X.A) :
    CallR X (.type "str") (fun us H Q => ∃ a dx fs, us = [.ref a] ∧ H a = some (.ins C dx fs) ∧ sp [.ref a] H (fun v H' => ∃ t, v = .str t ∧ Q (.str t) H') E0) := by
  rintro pins s σ H _ us Q I r ⟨a, dx, fs, rfl, ha, q⟩
  rcases vals1 r with ⟨_, rfl, rfl⟩
  have M := (ins_get I.hok ha).choose_spec.1
  obtain ⟨od, It, _⟩ := M.look
  refine PySem.W.kso_call (by have := hr.un; show X.A.units + 1 + 1 < cLine; omega) I.kIn It hs hf ?_
  refine wpAny_mono (run_fnA (A' := X.A.in1.in1) (vs := [.ref a]) F I.ok.frames hr.in1.in1 I (.cons rfl .nil) q) (fun w s' z => ?_) fun _ _ x => x
  obtain ⟨z', H', I', rz, t, rfl, qz⟩ := z
  obtain ⟨tk, rfl⟩ := rz
  exact ⟨.str t, H', I', ⟨tk, rfl⟩, qz⟩
end
end L2

/-! x op y, x == y, o.m(y): y a value of a built-in type; the own method may raise. -/
namespace PySem.W
open Lean Elab Tactic Meta PySem PySem.Calls PyProof.Rows
section
variable {prog : Program} {w : World} {A : Around} {E : Value → Shared → Prop} {s : Shared} {K : Frag} {x C L f : Addr} {h₀ : Heap} {m : Str → Option Value} {ox : Obj} {od : Option Obj} {T : String}
theorem bin_oth {op : Operator} {b : Value} {fo ro : Option Value} {Q : Value → Shared → Prop} (R : Fr h₀ L s.heap m) (KI : K.In h₀) (I : InstAt s.heap x ox C od) (hb : Looks (model prog w) s.heap (typeOf b) (.type T)) (first : selfFirst K C = true)
    (meth : findIn K (.ref C) (PySem.dunder op.info.2) = some (some (.ref f))) (fn : isFn K (.ref f) = true) (refl : findIn K (.ref C) (dunderR op.info.2) = some none)
    (to : findIn K (.type T) (PySem.dunder op.info.2) = some fo) (tr : findIn K (.type T) (dunderR op.info.2) = some ro) (sub : subIn K (.type T) (.ref C) = some false)
    (go : wpAny (model prog w) A (call (.ref f) [.ref x, b]) (CmpBack Q) E s) : wpAny (model prog w) A (binaryOp op (.ref x) b) Q E s := by
  have KX := KI.keeps R.keep
  obtain ⟨cd, rest, c1, c2⟩ := ksp_first first
  rcases hop : op.info with ⟨sy, n⟩
  rw [hop] at meth refl to tr
  have tried := ksp_try KX I meth fn go
  obtain ⟨hp, gs, dr, tk, os⟩ := s
  have T1 : Looks (model prog w) hp (typeOf (.ref x)) (.ref C) := I.type
  have T2 : Looks (model prog w) hp (typeOf b) (.type T) := hb
  have F1 : Looks (model prog w) hp (fillsNumberSlot (.ref C) n) true := fills_K KX c1 c2 meth
  obtain ⟨rt, F2⟩ : ∃ rt, Looks (model prog w) hp (fillsNumberSlot (.type T) n) rt := ⟨_, ksp_fillsT KX to tr⟩
  have S1 : Looks (model prog w) hp (isSubtype (.type T) (.ref C)) false := looks_subIn KX sub
  have P1 : Looks (model prog w) hp (numberSlotInPython (.ref C) n) true := ksp_inPy KX meth refl (.inl rfl)
  have P2 : Looks (model prog w) hp (numberSlotInPython (.type T) n) false := Looks.of_pure rfl
  have R1 : Looks (model prog w) hp (typeLookup (.type T) (dunderR n)) ro := looks_findIn KX tr
  have other : (Value.ref C == Value.type T) = false := by
    refine Bool.eq_false_iff.mpr fun z => ?_
    cases beq_iff_eq.mp z
  simp only [binaryOp, hop]
  refine wpAny_holding ?_
  refine wpAny_bind ?_
  unfold binaryOp1
  refine wpAny_bind (T1.at ?_)
  refine wpAny_bind (T2.at ?_)
  refine wpAny_bind (F1.at ?_)
  simp only [other, Bool.false_eq_true, if_false]
  cases rt
  all_goals
    ksp_lk
    refine wpAny_mono tried ?_ (fun _ _ z => z)
    rintro r s' ⟨v, rfl, q⟩
    ksp_lk
    exact q
end
end PySem.W
namespace L2
open PySem PySem.Spec PyProof.Rows
/-- a value of a built-in type other than int, and the type's name -/
inductive OddV (H : Hp) : V → String → Prop where
  | non : OddV H .non "NoneType"
  | bl (b : Bool) : OddV H (.bl b) "bool"
  | str (x : Str) : OddV H (.str x) "str"
  | lst {a : Addr} {xs : List V} (e : H a = some (.lst xs)) : OddV H (.ref a) "list"
  | tup {a : Addr} {xs : List V} (e : H a = some (.tup xs)) : OddV H (.ref a) "tuple"
  | dK {a : Addr} {kvs : List (Key × V)} (e : H a = some (.dK kvs)) : OddV H (.ref a) "dict"
theorem OddV.same {H H' : Hp} {v : V} {T : String} (s : ∀ b o, H b = some o → H' b = some o) (h : OddV H v T) : OddV H' v T := by
  cases h with
  | non => exact .non
  | bl b => exact .bl b
  | str x => exact .str x
  | lst e => exact .lst (s _ _ e)
  | tup e => exact .tup (s _ _ e)
  | dK e => exact .dK (s _ _ e)
theorem OddV.ty {K : PySem.W.Frag} {H : Hp} {v : V} {T : String} (h : OddV H v T) : TyX K H v (.type T) := by
  cases h with
  | non => exact .base .non
  | bl b => exact .base (.bl b)
  | str x => exact .base (.str x)
  | lst e => exact .base (.lst e)
  | tup e => exact .base (.tup e)
  | dK e => exact .base (.dK e)
/-- of a class of the text: no built-in type is below it -/
structure TyC (K : PySem.W.Frag) (C : Addr) (T : String) : Prop where
  kit : PySem.W.kitOne K (.type T) (.ref C) = some false
  sub : PySem.W.subIn K (.type T) (.ref C) = some false
structure OddC (K : PySem.W.Frag) (C : Addr) : Prop where
  non : TyC K C "NoneType"
  bl : TyC K C "bool"
  str : TyC K C "str"
  lst : TyC K C "list"
  tup : TyC K C "tuple"
  dK : TyC K C "dict"
theorem OddV.tyc {K : PySem.W.Frag} {C : Addr} {H : Hp} {v : V} {T : String} (h : OddV H v T) (c : OddC K C) : TyC K C T := by
  cases h with
  | non => exact c.non
  | bl b => exact c.bl
  | str x => exact c.str
  | lst e => exact c.lst
  | tup e => exact c.tup
  | dK e => exact c.dK
theorem OddV.notFirst {K : PySem.W.Frag} {C : Addr} {H : Hp} {v : V} {T : String} (h : OddV H v T) (c : OddC K C) : PySem.W.notFirst K C (.type T) = true := by
  unfold PySem.W.notFirst
  rw [(h.tyc c).sub]
  simp
/-- what a type says of an operator's names -/
def TyOp (K : PySem.W.Frag) (op : Operator) (T : String) : Prop := ∃ fo ro, PySem.W.findIn K (.type T) (PySem.dunder op.info.2) = some fo ∧ PySem.W.findIn K (.type T) (dunderR op.info.2) = some ro
theorem tyop {K : PySem.W.Frag} {op : Operator} (ho : op = .Add ∨ op = .Sub ∨ op = .Mult) {H : Hp} {v : V} {T : String} (h : OddV H v T) : TyOp K op T := by
  rcases ho with rfl | rfl | rfl <;> cases h <;> exact ⟨_, _, rfl, rfl⟩
section
variable {X : Cx} {CX : CXT} {k : Nat} {C g : Addr} {sp : Sp} {fd : FuncData} {ps : List Str} {E : XK} {a b : Expr} {ta tb : TE} {pos : Pos}
def tBinX (C : Addr) (sp : Sp) (E : XK) (ta tb : TE) : TE := fun σ H Q => ta σ H fun x H1 => tb σ H1 fun y H2 => ∃ a dx fs T, x = .ref a ∧ H2 a = some (.ins C dx fs) ∧ OddV H2 y T ∧ sp [x, y] H2 Q E
/-- a op b by the own method, which may raise -/
theorem pe_binX {op : Operator} (ho : op = .Add ∨ op = .Sub ∨ op = .Mult) (oc : OddC X.K C) (hc : PySem.W.selfFirst X.K C = true) (hs : PySem.W.findIn X.K (.ref C) (PySem.dunder op.info.2) = some (some (.ref g))) (hf : PySem.W.isFn X.K (.ref g) = true)
    (hr2 : PySem.W.findIn X.K (.ref C) (dunderR op.info.2) = some none) (F : FnG X.prog X.w X.K X.mg X.base CX k g fd ps sp) (gd : X.A.guards = some []) (hr : Room k X.A) (hb : Binds X.K fd ps []) (hx : Passes CX X E) (ha : PE X a ta) (hbb : PE X b tb) :
    PE X (.BinOp a op b pos) (tBinX C sp E ta tb) := by
  refine ⟨fun pins s σ H Q I h => ?_⟩
  refine wpAny_BinOp (binT ha hbb I (R := fun x y H2 => ∃ a dx fs T, x = .ref a ∧ H2 a = some (.ins C dx fs) ∧ OddV H2 y T ∧ sp [x, y] H2 Q E) h fun v u s2 x y H2 I2 rx ry q => ?_)
  obtain ⟨a0, dx, fs, T, rfl, h0, od, q⟩ := q
  cases (show v = Value.ref a0 from rx)
  obtain ⟨mA, M, _⟩ := ins_get I2.hok h0
  obtain ⟨oD, J, _⟩ := M.look
  obtain ⟨m, hF⟩ := I2.fr
  obtain ⟨PP, KX, pp, _⟩ := kit_of I2 ry (od.ty (K := X.K))
  obtain ⟨fo, ro, t1, t2⟩ := tyop (K := X.K) ho od
  refine PySem.W.bin_oth hF I2.ok.mod.kin J (KX.ty _ _ I2.kIn pp) hc hs hf hr2 t1 t2 (od.tyc oc).sub ?_
  have q' : sp ([.ref a0, y] ++ []) H2 Q E := by rw [List.append_nil]; exact q
  refine wpAny_mono (run_fnG (vs := [.ref a0, y]) (us := [.ref a0, u]) F gd hr hb .nil hx I2 (.cons rfl (.cons ry .nil)) q') (fun w s' z => ?_) fun _ _ x => x
  obtain ⟨z', H', I', rz, qz⟩ := z
  exact SlX.cmpback rz ⟨z', H', I', rz, qz⟩
/-- x == y, y of a built-in type -/
theorem op_eqOdd (oc : OddC X.K C) (hs : PySem.W.findIn X.K (.ref C) "__eq__" = some (some (.ref g))) (hf : PySem.W.isFn X.K (.ref g) = true) (F : FnR X.prog X.w X.K X.mg X.base CX0 k g sp) (hr : Room k X.A) :
    OpR X (compareOp .Eq) (fun x y H Q => ∃ a dx fs T, x = .ref a ∧ H a = some (.ins C dx fs) ∧ OddV H y T ∧ sp [x, y] H (fun v H' => ∃ b, v = .bl b ∧ Q (.bl b) H') E0) := by
  intro pins s σ H x y v u Q I rx ry h
  obtain ⟨a, dx, fs, T, rfl, ha, od, q⟩ := h
  cases (show v = Value.ref a from rx)
  obtain ⟨mA, M, _⟩ := ins_get I.hok ha
  obtain ⟨oD, J, _⟩ := M.look
  obtain ⟨m, hF⟩ := I.fr
  obtain ⟨PP, KX, pp, _⟩ := kit_of I ry (od.ty (K := X.K))
  show wpAny _ _ (richCompare .Eq (.ref a) u) _ _ _
  refine PySem.W.cmp_K hr.units0 hF I.ok.mod.kin J (KX.ty _ _ I.kIn pp) (od.notFirst oc) hs hf ?_
  refine wpAny_mono (run_fnA (vs := [.ref a, y]) F I.ok.frames hr I (.cons rfl (.cons ry .nil)) q) (fun w s' z => ?_) fun _ _ x => x
  obtain ⟨z', H', I', rz, b, rfl, qz⟩ := z
  obtain rfl : w = Value.bool b := rz
  exact ⟨.bl b, H', I', rfl, qz⟩
end
end L2

/-! def f(cls, *v) that may raise, where no repr is under way; C.m(..) by it, and C.m(). -/
namespace L2
open PySem PySem.Spec PyProof.Rows
def FnRG (P : Program) (w : World) (K : PySem.W.Frag) (mg : Str → Option Value) (base : Heap) (CX : CXT) (k : Nat) (f : Addr) (sp : Sp) : Prop :=
  ∀ (A : Around) (outer : List Env) (s : Shared) (H : Hp) (us : List Value) (vs : List V) (Q : VK) (E : XK), A.guards = some [] → Room k A → Env0 P w K mg base A outer s H → Vals vs us → sp vs H Q E → codeAny (model P w) A (.call (.ref f) ⟨us, []⟩) (CR CX outer P w H s Q E) s
section
variable {P : Program} {w : World} {K : PySem.W.Frag} {mg : Str → Option Value} {base : Heap} {CX : CXT} {k : Nat} {f : Addr} {N ps : List Str} {sp : Sp} {oc dV kV doc pm cdv ct : Value} {od an : Option Addr} {osl : Array (Option Value)} {nm ql : Str} {pr : Arguments} {bd : List Stmt} {sc : Scope}
theorem fn_starG {pv : Str} (L : K.lookup f = some ⟨oc, od, .func (PySem.W.fnOf nm ql pr bd sc dV kV doc pm an cdv ct), osl⟩) (cd : PySem.W.codeIn K cdv ql = true) (S : FnScope N (ps ++ [pv]) sc) (up : StX.CXUp CX)
    (bind : ∀ us more : List Value, us.length = ps.length → bindArgs (PySem.W.fnOf nm ql pr bd sc dV kV doc pm an cdv ct) ⟨us ++ more, []⟩ = (newTuple more >>= fun t => pure (ps.zip us ++ [(pv, t)])))
    (run : ∀ (A : Around) (outer : List Env) (s : Shared) (H : Hp) (vs : List V) (Q : VK) (E : XK), A.guards = some [] → Room k (A.deeper (envOfC ql sc s.heap.objs.size f cdv)) → sp vs H Q E → ∃ t, PSs (cxOf CX P w K mg base N ql sc f cdv A outer s H E) bd t ∧ t { nx := fun _ H' => Q .non H', rt := Q } (start N vs) H) :
    FnRG P w K mg base CX (k + 1) f (fun vs H Q E => ∃ ws more, vs = ws ++ more ∧ ws.length = ps.length ∧ more.length ≤ sizeLine ∧ ∀ p, H p = Option.none → sp (ws ++ [V.ref p]) (upd H p (.tup more)) Q E) := by
  rintro A outer s H us _ Q E gd hr e0 r ⟨ws, more, rfl, hl, hz, hq⟩
  obtain ⟨a1, a2, rfl, q1, q2⟩ := StX.vals_split r
  have free : H s.heap.objs.size = Option.none := e0.hok.fresh (Nat.le_refl _)
  have n1 : a1.length = ps.length := q1.length.symm.trans hl
  have n2 : a2.length ≤ sizeLine := by
    have := q2.length
    omega
  refine StX.run_bnd L cd S hr e0 (G := fun xs H2 => ∃ p, H p = Option.none ∧ xs = ws ++ [V.ref p] ∧ H2 = upd H p (.tup more)) (fun A' Ex Q' h => ?_) ?_
  · rw [bind a1 a2 n1]
    refine wpAny_bind ?_
    refine wpAny_newTuple (wpAny_pure ?_) n2
    have ok : ObjOk P w (upd H s.heap.objs.size (.tup more)) (s.heap.push ({ cls := .type "tuple", data := .seq a2.toArray } : Obj)) s.heap.objs.size (.tup more) :=
      ⟨hz, a2, q2, ⟨_, Heap.get?_push_size _ rfl, rfl, _, rfl⟩⟩
    have un := StX.un_laid (fs := frs outer) (s := s) (o := ({ cls := .type "tuple", data := .seq a2.toArray } : Obj)) (u := .tup more) free
    have keep : ∀ b o, s.heap.get? b = some o → (s.heap.push ({ cls := .type "tuple", data := .seq a2.toArray } : Obj)).get? b = some o := fun b o q => Heap.get?_push_of_some _ q
    have len : (ws ++ [V.ref s.heap.objs.size]).length = (ps ++ [pv]).length := by
      rw [List.length_append, List.length_append, hl]
      rfl
    have z := h _ _ (ws ++ [V.ref s.heap.objs.size]) (a1 ++ [Value.ref s.heap.objs.size]) (StX.env0_laid e0 ok) un rfl (fun e s' => up outer s H _ _ E e s' un keep rfl) (q1.append (.cons rfl .nil)) len ⟨_, free, rfl, rfl⟩
    rw [List.zip_append n1.symm] at z
    exact z
  · rintro s2 _ _ ⟨p, hp, rfl, rfl⟩ hr'
    exact run A outer s2 _ _ Q E gd hr' (hq p hp)
end
section
variable {X : Cx} {CX : CXT} {k : Nat} {C p g : Addr} {mc : Value} {sp : Sp} {E : XK} {o e : Expr} {es : List Expr} {m : Str} {pos apos : Pos} {ta : TE} {t : TA} {pl : Sem Bool}
end
theorem PE.or {X : Cx} {e : Expr} {t t' : TE} (h : PE X e t) (h' : PE X e t') : PE X e (fun σ H Q => t σ H Q ∨ t' σ H Q) := ⟨fun pins s σ H Q I q => q.elim (h.run pins s σ H Q I) (h'.run pins s σ H Q I)⟩
end L2

/-! Rules beside the layer: t[::-1], x op y and -x by own methods. -/
namespace HT
open PySem PySem.Spec PyProof.Rows
section
variable {prog : Program} {w : World} {A : Around} {E : Value → Shared → Prop} {s : Shared}
theorem fm_congr {α β : Type} {f g : α → Option β} : ∀ (l : List α), (∀ x ∈ l, f x = g x) → l.filterMap f = l.filterMap g
  | [], _ => rfl
  | a :: t, h => by
    rw [List.filterMap_cons, List.filterMap_cons, h a (by simp), fm_congr t (fun x hx => h x (by simp [hx]))]
theorem getItem_tuple_rev {t sl : Addr} {items : Array Value} {vs : Value} {Q : Value → Shared → Prop} (ht : IsTup s.heap t items) (hs : s.heap.IsSliceOf sl .none .none vs) (ps : IsPart vs (some (-1)))
    (h : Q (.ref s.heap.objs.size) { s with heap := s.heap.push { cls := .type "tuple", data := .seq items.toList.reverse.toArray } })
    (hsz : items.size ≤ sizeLine) : wpAny (model prog w) A (getItem (.ref t) (.ref sl)) Q E s := by
  have htake : sizeOk (.seq items.toList.reverse.toArray) := by simpa [sizeOk] using hsz
  rcases id hs with ⟨os, hos, hcs, hds⟩
  have kind : s.TypeIs (.ref sl) "slice" := ⟨os, hos, hcs⟩
  have three : ∀ {A' : Around} {R : Value × Value × Value → Shared → Prop} {E' : Value → Shared → Prop}, R (.none, .none, vs) s → wpAny (model prog w) A' (Builtin.Slice.sliceFields (.ref sl)) R E' s := fun z => wpAny_bind (wpAny_field hos hds (x := .none) rfl (wpAny_bind (wpAny_field hos hds (x := .none) rfl (wpAny_bind (wpAny_field hos hds (x := vs) rfl (wpAny_pure z))))))
  unfold getItem
  try with_reducible refine wpAny_holding ?_
  first | refine wpAny_bind (wpAny_pure ?_) | skip
  refine wpAny_bind (wpAny_sequenceKey ht.typeIs (by decide) (wpAny_bind (wpAny_callSpecial?_slot (name := Str.ofString "__getitem__") ht.typeIs PyProof.Rows.slot_tuple_getitem (wpAny_call_entry PyProof.Rows.slot_tuple_getitem ht.typeIs entry_tuple_getitem ?_ (args_tuple_getitem _ _)))))
  change wpAny _ _ (Builtin.Tuple.tupleItemsOf (.ref t) >>= _) _ _ s
  refine wpAny_bind (tupleItemsOf_ ht (wpAny_bind (wpAny_typeOf kind ?_)))
  rw [if_pos (by decide)]
  unfold Builtin.Slice.sliceApplied
  refine wpAny_bind (wpAny_bind (three (wpAny_bind (slicePart_ ps ?_))))
  change wpAny _ _ (if ((-1 : Int) == 0) = true then _ else _) _ _ s
  rw [if_neg (by decide)]
  refine wpAny_bind (slicePart_none (wpAny_bind (slicePart_none (wpAny_bind (wpAny_pure ?_)))))
  have hadj : Builtin.Slice.sliceAdjust none none (-1) (items.size : Int) = ((items.size : Int) - 1, -1) := rfl
  have hpl : Builtin.Slice.slicePlaces ((items.size : Int) - 1) (-1) (-1) = items.size := by
    unfold Builtin.Slice.slicePlaces
    have h1 : ¬ ((-1 : Int) > 0) := by omega
    simp only [h1, if_false]
    split
    · have e : ((items.size : Int) - 1 - -1 - 1) / (- -1) = (items.size : Int) - 1 := by
        rw [show (- -1 : Int) = 1 by decide, Int.ediv_one]; omega
      rw [e]; omega
    · omega
  show wpAny _ _ (match Builtin.Slice.sliceAdjust none none (-1) (items.size : Int) with | (lo, hi) => pure (lo, (-1 : Int), Builtin.Slice.slicePlaces lo hi (-1))) _ _ s
  rw [hadj]
  show wpAny _ _ (pure ((items.size : Int) - 1, (-1 : Int), Builtin.Slice.slicePlaces ((items.size : Int) - 1) (-1) (-1))) _ _ s
  rw [hpl]
  refine wpAny_pure ?_
  have hno : ¬ ((((items.size : Int) - 1) == 0 && (-1 : Int) == 1 && items.size == items.size) = true) := by
    intro q
    rw [Bool.and_eq_true, Bool.and_eq_true] at q
    exact absurd q.1.2 (by decide)
  show wpAny _ _ (if (((items.size : Int) - 1) == 0 && (-1 : Int) == 1 && items.size == items.size) = true then _ else _) _ _ s
  rw [if_neg hno]
  have hpick : ((List.range items.size).filterMap fun (k : Nat) => items[((items.size : Int) - 1 + (k : Int) * -1).toNat]?).toArray = items.toList.reverse.toArray := by
    congr 1
    have e : (List.range items.size).filterMap (fun (k : Nat) => items[((items.size : Int) - 1 + (k : Int) * -1).toNat]?) = ((List.range items.size).map fun k => items.size - 1 - k).filterMap (items[·]?) := by
      rw [List.filterMap_map]
      refine fm_congr _ fun k hk => ?_
      have := List.mem_range.mp hk
      have e2 : ((items.size : Int) - 1 + (k : Int) * -1).toNat = items.size - 1 - k := by omega
      show _ = items[items.size - 1 - k]?
      rw [e2]
    rw [e, PySem.W.krv_range, List.filterMap_reverse, PySem.W.krv_all]
  rw [hpick]
  have made : ∀ {A' : Around} {R : Value → Shared → Prop} {E' : Value → Shared → Prop}, R (.ref s.heap.objs.size) { s with heap := s.heap.push { cls := .type "tuple", data := .seq items.toList.reverse.toArray } } → wpAny (model prog w) A' (Builtin.Tuple.tupleExact items.toList.reverse.toArray) R E' s := fun z => wpAny_newObj_type z htake
  first
    | exact wpAny_bind (made (wpAny_pure ⟨_, rfl, wpAny_pure h⟩))
    | exact wpAny_bind (made ⟨_, rfl, wpAny_pure h⟩)
    | exact wpAny_bind (wpAny_bind (made (wpAny_pure ⟨_, rfl, wpAny_pure h⟩)))
    | exact wpAny_bind (made (wpAny_bind (wpAny_pure ⟨_, rfl, wpAny_pure h⟩)))
end
end HT
namespace L2
open PySem PySem.Spec PyProof.Rows
section
variable {X : Cx}
/-- t[::-1], t a tuple -/
def tRevT (K : PySem.W.Frag) (te : TE) : TE := fun σ H Q => te σ H fun x H1 => ∃ a xs, x = .ref a ∧ SqT K H1 a xs ∧ ∀ p, H1 p = none → Q (.ref p) (upd H1 p (.tup xs.reverse))
theorem pe_revT {e : Expr} {te : TE} {k : Nat} {p1 p2 p3 pos : Pos} (he : PE X e te) : PE X (.Subscript e (.Slice none none (some (.UnaryOp .USub (.Constant (.int 1) k p1) p2)) p3) pos) (tRevT X.K te) := by
  constructor
  intro pins s0 σ H W J w
  have back : PO X (some (.UnaryOp .USub (.Constant (.int 1) k p1) p2)) (tPart (tUn (rU fun i => .int (-i)) (tC (.int 1)))) := po_some (pe_un un_neg pe_int)
  refine Subscript_ (thn (he.run pins s0 σ H _ J w) ?_)
  rintro _ s1 ⟨_, H1, J1, rel, a, xs, rfl, tup, w1⟩
  cases rel
  refine wpAny_Slice (thn (po_none.run pins s1 σ H1 (fun o G => o = none ∧ G = H1) J1 ⟨rfl, rfl⟩) ?_)
  rintro _ s2 ⟨_, _, J2, n2, rfl, rfl⟩
  refine thn (po_none.run pins s2 σ _ (fun o G => o = none ∧ G = _) J2 ⟨rfl, rfl⟩) ?_
  rintro _ s3 ⟨_, _, J3, n3, rfl, rfl⟩
  refine thn (back.run pins s3 σ _ (fun o G => o = some (-1) ∧ G = _) J3 ⟨1, rfl, -1, rfl, rfl, rfl⟩) ?_
  rintro step s4 ⟨_, _, J4, part, rfl, rfl⟩
  cases n2
  cases n3
  have J5 := J4.kept (t' := s4.toks) (h' := s4.heap.push { cls := .type "slice", data := .fields #[.none, .none, step] }) fun _ _ z => Heap.get?_push_of_some _ z
  obtain ⟨its, vals, isTup, line⟩ := J5.tuple tup
  have many : its.toArray.size ≤ sizeLine := by
    rw [List.size_toArray, ← vals.length]
    exact line
  change wpAny (model X.prog X.w) X.A (subscriptTail e (.Slice none none (some (.UnaryOp .USub (.Constant (.int 1) k p1) p2)) p3) (.ref a) (.ref s4.heap.objs.size)) (EP X pins σ W) X.xe { s4 with heap := s4.heap.push { cls := .type "slice", data := .fields #[.none, .none, step] } }
  refine tail_any (ops := [.ref a, .ref s4.heap.objs.size]) isTup.typeIs (PyProof.Rows.slot_tuple_getitem.lookup) (HT.getItem_tuple_rev isTup (Heap.IsSliceOf.new _ .none .none step) part ?_ many) (by with_unfolding_all rfl)
  have laid := J5.laid (t' := s4.toks) (o := .tup xs.reverse) (fun _ _ z => Heap.get?_push_of_some _ z) (Nat.le_refl _) ⟨by rw [List.length_reverse]; exact line, _, vals.reverse, IsTup.new _ _⟩
  exact ⟨.ref _, _, laid, rfl, w1 _ (J5.hok.fresh (Nat.le_refl _))⟩
/-! ### own operators -/
section
variable {CX : CXT} {n : Nat} {C g : Addr} {sp : Sp} {E : XK}
/-- x op y, both instances of the class at C, whose def for op is at g -/
def rOwnB (C : Addr) (sp : Sp) (E : XK) : R2 := fun x y H Q => ∃ a dx fs b dy gs, x = .ref a ∧ y = .ref b ∧ H a = some (.ins C dx fs) ∧ H b = some (.ins C dy gs) ∧ sp [x, y] H Q E
theorem op_ownB {op : Operator} (hc : PySem.W.selfFirst X.K C = true) (hs : PySem.W.findIn X.K (.ref C) (PySem.dunder op.info.2) = some (some (.ref g))) (hf : PySem.W.isFn X.K (.ref g) = true) (F : FnR X.prog X.w X.K X.mg X.base CX n g sp)
    (hr : Room n X.A) (hx : Passes CX X E) : OpR X (binaryOp op) (rOwnB C sp E) := by
  intro pins s σ H x y v u Q I rx ry h
  obtain ⟨a, dx, fs, b, dy, gs, rfl, rfl, ha, hb, q⟩ := h
  cases (show v = Value.ref a from rx)
  cases (show u = Value.ref b from ry)
  obtain ⟨mA, M, _⟩ := ins_get I.hok ha
  obtain ⟨mB, M', _⟩ := ins_get I.hok hb
  obtain ⟨od, J, _⟩ := M.look
  obtain ⟨od', J', _⟩ := M'.look
  obtain ⟨m, hF⟩ := I.fr
  refine PySem.W.binop_K hF I.ok.mod.kin J J'.type hc hs hf ?_
  refine wpAny_mono (wpAny_call (run_fnR (us := [.ref a, .ref b]) (vs := [.ref a, .ref b]) F hr hx I (.cons rfl (.cons rfl .nil)) q)) (fun w s' z => ?_) fun _ _ x => x
  obtain ⟨z', H', I', rz, qz⟩ := z
  exact SlX.cmpback rz ⟨z', H', I', rz, qz⟩
/-- -x, x an instance -/
def rOwnU (C : Addr) (sp : Sp) (E : XK) : V → Hp → VK → Prop := fun x H Q => ∃ a dx fs, x = .ref a ∧ H a = some (.ins C dx fs) ∧ sp [x] H Q E
theorem un_own (hs : PySem.W.findIn X.K (.ref C) "__neg__" = some (some (.ref g))) (hf : PySem.W.isFn X.K (.ref g) = true) (F : FnR X.prog X.w X.K X.mg X.base CX n g sp)
    (hr : Room n X.A) (hx : Passes CX X E) : UnR X (unaryOp .USub) (rOwnU C sp E) := by
  intro pins s σ H x v Q I rx h
  obtain ⟨a, dx, fs, rfl, ha, q⟩ := h
  cases (show v = Value.ref a from rx)
  obtain ⟨mA, M, _⟩ := ins_get I.hok ha
  obtain ⟨od, J, _⟩ := M.look
  unfold unaryOp
  refine wpAny_holding ?_
  show wpAny _ _ (if (UnaryOp.USub == UnaryOp.Not) = true then _ else _) _ _ s
  rw [if_neg (by decide)]
  refine wpAny_bind (m := callSpecial? (.ref a) "__neg__") (PySem.W.special_fn I.kIn J hs (beq_iff_eq.mp hf) ?_)
  refine wpAny_mono (wpAny_call (run_fnR (us := [.ref a]) (vs := [.ref a]) F hr hx I (.cons rfl .nil) q)) (fun w s' z => ?_) fun _ _ x => x
  exact wpAny_pure z
end
end
end L2

/-! x op y: y an instance of another class; C(e, ..) by an __init__ with *args that may raise, where no repr is under way. -/
namespace PySem.W
open Lean Elab Tactic Meta PySem PySem.Calls PyProof.Rows
section
variable {prog : Program} {w : World} {A : Around} {E : Value → Shared → Prop} {s : Shared} {K : Frag} {x C D L f g : Addr} {h₀ : Heap} {m : Str → Option Value} {ox : Obj} {od : Option Obj}
theorem bin_ref {op : Operator} {b : Value} {Q : Value → Shared → Prop} (R : Fr h₀ L s.heap m) (KI : K.In h₀) (I : InstAt s.heap x ox C od) (hb : Looks (model prog w) s.heap (typeOf b) (.ref D)) (ne : C ≠ D) (first : selfFirst K C = true) (first2 : selfFirst K D = true)
    (meth : findIn K (.ref C) (PySem.dunder op.info.2) = some (some (.ref f))) (fn : isFn K (.ref f) = true) (refl : findIn K (.ref C) (dunderR op.info.2) = some none)
    (meth2 : findIn K (.ref D) (PySem.dunder op.info.2) = some (some (.ref g))) (refl2 : findIn K (.ref D) (dunderR op.info.2) = some none) (sub : subIn K (.ref D) (.ref C) = some false)
    (go : wpAny (model prog w) A (call (.ref f) [.ref x, b]) (CmpBack Q) E s) : wpAny (model prog w) A (binaryOp op (.ref x) b) Q E s := by
  have KX := KI.keeps R.keep
  obtain ⟨cd, rest, c1, c2⟩ := ksp_first first
  obtain ⟨cd2, rest2, d1, d2⟩ := ksp_first first2
  rcases hop : op.info with ⟨sy, n⟩
  rw [hop] at meth refl meth2 refl2
  have tried := ksp_try KX I meth fn go
  obtain ⟨hp, gs, dr, tk, os⟩ := s
  have T1 : Looks (model prog w) hp (typeOf (.ref x)) (.ref C) := I.type
  have T2 : Looks (model prog w) hp (typeOf b) (.ref D) := hb
  have F1 : Looks (model prog w) hp (fillsNumberSlot (.ref C) n) true := fills_K KX c1 c2 meth
  have F2 : Looks (model prog w) hp (fillsNumberSlot (.ref D) n) true := fills_K KX d1 d2 meth2
  have S1 : Looks (model prog w) hp (isSubtype (.ref D) (.ref C)) false := looks_subIn KX sub
  have P1 : Looks (model prog w) hp (numberSlotInPython (.ref C) n) true := ksp_inPy KX meth refl (.inl rfl)
  have P2 : Looks (model prog w) hp (numberSlotInPython (.ref D) n) true := ksp_inPy KX meth2 refl2 (.inl rfl)
  have other : (Value.ref C == Value.ref D) = false := by
    refine Bool.eq_false_iff.mpr fun z => ?_
    cases beq_iff_eq.mp z
    exact ne rfl
  simp only [binaryOp, hop]
  refine wpAny_holding ?_
  refine wpAny_bind ?_
  unfold binaryOp1
  refine wpAny_bind (T1.at ?_)
  refine wpAny_bind (T2.at ?_)
  refine wpAny_bind (F1.at ?_)
  simp only [other, Bool.false_eq_true, if_false]
  ksp_lk
  refine wpAny_mono tried ?_ (fun _ _ z => z)
  rintro r s' ⟨v, rfl, q⟩
  ksp_lk
  exact q
end
end PySem.W
namespace L2
open PySem PySem.Spec PyProof.Rows
section
variable {X : Cx} {CX : CXT} {k : Nat} {C D g g2 : Addr} {sp : Sp} {fd : FuncData} {ps : List Str} {E : XK} {a b : Expr} {ta tb : TE} {pos : Pos}
def tBinY (C D : Addr) (sp : Sp) (E : XK) (ta tb : TE) : TE := fun σ H Q => ta σ H fun x H1 => tb σ H1 fun y H2 => ∃ a dx fs b dy gs, x = .ref a ∧ y = .ref b ∧ H2 a = some (.ins C dx fs) ∧ H2 b = some (.ins D dy gs) ∧ sp [x, y] H2 Q E
/-- a op b by the own method, which may raise; b is an instance of another class -/
theorem pe_binY {op : Operator} (ne : C ≠ D) (hc : PySem.W.selfFirst X.K C = true) (hc2 : PySem.W.selfFirst X.K D = true) (hs : PySem.W.findIn X.K (.ref C) (PySem.dunder op.info.2) = some (some (.ref g))) (hf : PySem.W.isFn X.K (.ref g) = true)
    (hr2 : PySem.W.findIn X.K (.ref C) (dunderR op.info.2) = some none) (hs2 : PySem.W.findIn X.K (.ref D) (PySem.dunder op.info.2) = some (some (.ref g2))) (hr3 : PySem.W.findIn X.K (.ref D) (dunderR op.info.2) = some none) (hsub : PySem.W.subIn X.K (.ref D) (.ref C) = some false)
    (F : FnG X.prog X.w X.K X.mg X.base CX k g fd ps sp) (gd : X.A.guards = some []) (hr : Room k X.A) (hb : Binds X.K fd ps []) (hx : Passes CX X E) (ha : PE X a ta) (hbb : PE X b tb) :
    PE X (.BinOp a op b pos) (tBinY C D sp E ta tb) := by
  refine ⟨fun pins s σ H Q I h => ?_⟩
  refine wpAny_BinOp (binT ha hbb I (R := fun x y H2 => ∃ a dx fs b dy gs, x = .ref a ∧ y = .ref b ∧ H2 a = some (.ins C dx fs) ∧ H2 b = some (.ins D dy gs) ∧ sp [x, y] H2 Q E) h fun v u s2 x y H2 I2 rx ry q => ?_)
  obtain ⟨a0, dx, fs, b0, dy, gs, rfl, rfl, h0, h1, q⟩ := q
  cases (show v = Value.ref a0 from rx)
  cases (show u = Value.ref b0 from ry)
  obtain ⟨mA, M, _⟩ := ins_get I2.hok h0
  obtain ⟨oD, J, _⟩ := M.look
  obtain ⟨mB, M', _⟩ := ins_get I2.hok h1
  obtain ⟨oD', J', _⟩ := M'.look
  obtain ⟨m, hF⟩ := I2.fr
  refine PySem.W.bin_ref hF I2.ok.mod.kin J J'.type ne hc hc2 hs hf hr2 hs2 hr3 hsub ?_
  have q' : sp ([.ref a0, .ref b0] ++ []) H2 Q E := by rw [List.append_nil]; exact q
  refine wpAny_mono (run_fnG (vs := [.ref a0, .ref b0]) (us := [.ref a0, .ref b0]) F gd hr hb .nil hx I2 (.cons rfl (.cons rfl .nil)) q') (fun w s' z => ?_) fun _ _ x => x
  obtain ⟨z', H', I', rz, qz⟩ := z
  exact SlX.cmpback rz ⟨z', H', I', rz, qz⟩
/-- a op b, b an int -/
def tBinI (C : Addr) (sp : Sp) (E : XK) (ta tb : TE) : TE := fun σ H Q => ta σ H fun x H1 => tb σ H1 fun y H2 => ∃ a dx fs i, x = .ref a ∧ y = .int i ∧ H2 a = some (.ins C dx fs) ∧ sp [x, y] H2 Q E
theorem pe_binI {op : Operator} {fo ro : Option Value} (hc : PySem.W.selfFirst X.K C = true) (hs : PySem.W.findIn X.K (.ref C) (PySem.dunder op.info.2) = some (some (.ref g))) (hf : PySem.W.isFn X.K (.ref g) = true)
    (hr2 : PySem.W.findIn X.K (.ref C) (dunderR op.info.2) = some none) (h1 : PySem.W.findIn X.K (.type "int") (PySem.dunder op.info.2) = some fo) (h2 : PySem.W.findIn X.K (.type "int") (dunderR op.info.2) = some ro) (hsub : PySem.W.subIn X.K (.type "int") (.ref C) = some false)
    (F : FnG X.prog X.w X.K X.mg X.base CX k g fd ps sp) (gd : X.A.guards = some []) (hr : Room k X.A) (hb : Binds X.K fd ps []) (hx : Passes CX X E) (ha : PE X a ta) (hbb : PE X b tb) :
    PE X (.BinOp a op b pos) (tBinI C sp E ta tb) := by
  refine ⟨fun pins s σ H Q I h => ?_⟩
  refine wpAny_BinOp (binT ha hbb I (R := fun x y H2 => ∃ a dx fs i, x = .ref a ∧ y = .int i ∧ H2 a = some (.ins C dx fs) ∧ sp [x, y] H2 Q E) h fun v u s2 x y H2 I2 rx ry q => ?_)
  obtain ⟨a0, dx, fs, i, rfl, rfl, h0, q⟩ := q
  cases (show v = Value.ref a0 from rx)
  obtain ⟨t, rfl⟩ := ry
  obtain ⟨mA, M, _⟩ := ins_get I2.hok h0
  obtain ⟨oD, J, _⟩ := M.look
  obtain ⟨m, hF⟩ := I2.fr
  refine PySem.W.ksp_binT (T := "int") hF I2.ok.mod.kin J rfl hc hs hf hr2 (.inl rfl) h1 h2 hsub ?_
  have q' : sp ([.ref a0, .int i] ++ []) H2 Q E := by rw [List.append_nil]; exact q
  refine wpAny_mono (run_fnG (vs := [.ref a0, .int i]) (us := [.ref a0, .int i t]) F gd hr hb .nil hx I2 (.cons rfl (.cons ⟨t, rfl⟩ .nil)) q') (fun w s' z => ?_) fun _ _ x => x
  obtain ⟨z', H', I', rz, qz⟩ := z
  exact SlX.cmpback rz ⟨z', H', I', rz, qz⟩
end
/-- what a call's end says, told again of the caller: errors by hx, a value by the wish -/
theorem ended {X : Cx} {CX : CXT} {E : XK} {pins : List (Addr × Obj)} {σ : L2.St} {H : Hp} {s0 : Shared} {W : VK} {R : Value → Shared → Prop} (pass : Passes CX X E) (J : Inv X pins σ H s0)
    (back : ∀ u s1, EP X pins σ W u s1 → R u s1) : ∀ (r : Except Value Flow) (s1 : Shared), CR CX X.stack X.prog X.w H s0 W E r s1 → (match r with | .ok (.ret u) => R u s1 | .ok _ => False | .error er => X.xe er s1) := by
  rintro (er | fl) s1 z
  · exact pass pins σ H s0 er s1 J z
  · cases fl with
    | ret u => exact back u s1 (J.after z)
    | _ => exact z
/-- a new instance of C by an __init__ that is told where no repr is under way -/
theorem made_by {X : Cx} {CX : CXT} {n : Nat} {C g : Addr} {pr : Sp} {E : XK} {pins : List (Addr × Obj)} {σ : L2.St} {H : Hp} {s0 : Shared} {W : VK} {args : List Value} {as : List V} (mk : Mk X.K C g) (init : FnRG X.prog X.w X.K X.mg X.base CX n g pr) (quiet : X.A.guards = some []) (room : Room (n + 1) X.A) (pass : Passes CX X E) (J : Inv X pins σ H s0) (rel : Vals as args)
    (wish : ∀ o od, H o = none → H od = none → od ≠ o → pr (.ref o :: as) (upd (upd H od (.own o)) o (.ins C od [])) (fun v H2 => v = .non ∧ W (.ref o) H2) E) : wpAny (model X.prog X.w) X.A (PySem.call (.ref C) args) (EP X pins σ W) X.xe s0 := by
  have J2 : Inv X pins σ _ _ := Inv.made (C := C) J
  have w := wish _ _ (J.hok.fresh (Nat.le_succ s0.heap.objs.size)) (J.hok.fresh (Nat.le_refl s0.heap.objs.size)) (Nat.ne_of_lt (Nat.lt_succ_self _))
  have run := init _ X.stack _ _ (Value.ref (s0.heap.objs.size + 1) :: args) _ _ E (make_guards.trans quiet) (room.make C args []) (J2.env0.make C args []) (show Vals (V.ref (s0.heap.objs.size + 1) :: as) _ from .cons rfl rel) w
  refine wpAny_call (make_map (f := g) J.kIn mk.makes mk.init (beq_iff_eq.mp mk.fn) (codeAny_mono run fun r s1 z => ?_))
  have d := ended (W := fun v H2 => v = .non ∧ W (.ref (s0.heap.objs.size + 1)) H2) (R := fun u s2 => RelV .non u ∧ EP X pins σ W (.ref (s0.heap.objs.size + 1)) s2) pass J2 (fun u s2 ⟨v, H2, I2, ru, ev, q⟩ => ⟨by rw [← ev]; exact ru, .ref _, H2, I2, rfl, q⟩) r s1 z
  cases r with
  | error er => exact d
  | ok fl =>
    cases fl with
    | ret u => exact d
    | _ => exact d.elim
theorem pe_makeRG {X : Cx} {CX : CXT} {n : Nat} {C g : Addr} {pr : Sp} {E : XK} {nm : Str} {e1 : Expr} {er : List Expr} {ta : TA} {pn pc : Pos} (mk : Mk X.K C g) (init : FnRG X.prog X.w X.K X.mg X.base CX n g pr) (quiet : X.A.guards = some []) (room : Room (n + 1) X.A) (gl : Gl X nm) (at_ : X.mg nm = some (.ref C)) (pass : Passes CX X E) (args : PA X (e1 :: er) ta) (nd : (nm == ("__debug__" : Str)) = false := by decide)
    (st : starEach (e1 :: er) X.env = (false, eval e1 X.env) :: starEach er X.env := by rfl) (pl : (backTo pc (starEach er X.env)).any (·.1) = false := by rfl) : PE X (.Call (.Name nm pn) (e1 :: er) [] pc) (StX.tMakeR C pr E ta) :=
  ⟨fun pins s0 σ H W J w => wpAny_Call_Name_kw (ld_glob J gl at_ (PySem.W.callWith_K (h₀ := X.base) J.ok.mod.kin mk.kp (thn (args.run pc pins s0 σ H _ J w) fun us s1 ⟨as, H1, J1, rel, w1⟩ => ⟨J1.kIn, made_by mk init quiet room pass J1 rel w1⟩) st pl) nd)⟩
end L2

/-! a, b = xs of a list. -/
namespace L2
open PySem PySem.Spec PyProof.Rows
section
variable {X : Cx}
/-- a, b = xs, xs a list -/
def gTupL (K : PySem.W.Frag) (n : Nat) (t : TGs) : TG := fun v σ H Q => ∃ a xs, v = .ref a ∧ SqL K H a xs ∧ xs.length = n ∧ t xs σ H Q
theorem pg_tupL {es : List Expr} {k : Nat} {t : TGs} {n : Nat} {pos : Pos} (hc : X.calm = true) (h : PGs X es t)
    (hn : (assignEach es X.env).length = n := by rfl) (hst : (assignEach es X.env).findIdx? (·.1) = none := by rfl) : PG X (.Tuple es k pos) (gTupL X.K n t) := by
  refine ⟨fun pins s σ H v u Q I r hw => ?_⟩
  obtain ⟨a, xs, e1, hq, hl, hw⟩ := hw
  subst e1
  cases r
  obtain ⟨its, rv, ht, hz⟩ := I.list hq
  rw [assign_Tuple]
  refine wpAny_bind (wpAny_standAt ?_)
  unfold unpack
  rw [hst]
  refine wpAny_bind (wpAny_holding ?_)
  have e : (assignEach es X.env).length = its.toArray.size := by simp [hn, ← hl, rv.length]
  rw [e]
  refine PySem.W.kun_itemsOf (I.ok.hd hc) ht.isList fun h' hx => ?_
  have I1 : Inv X pins σ H { s with heap := h' } := I.kept (t' := s.toks) fun b o e => hx b o (Nat.ne_of_lt (Heap.lt_size e)) e
  exact h.run pins _ σ H xs _ Q I1 (by simpa using rv) hw
end
end L2

/-! o.m(k = v): a method with keywords alone. -/
namespace L2
open PySem PySem.Spec PyProof.Rows
def g2 : List Value → List Value → List Value
  | [u], [w] => [u, w]
  | _, _ => []
def gV2 : List V → List V → List V
  | [u], [w] => [u, w]
  | _, _ => []
/-- one by position (self), one by name -/
theorem KBinds.two {K : PySem.W.Frag} {fd : FuncData} {a b : Str} (h : ∀ u w : Value, bindArgs fd ⟨[u], [(b, w)]⟩ = pure [(a, u), (b, w)]) : KBinds K fd [a, b] [b] g2 gV2 :=
  ⟨fun s us ws _ hl => by
    match us, ws, hl with
    | [u], [w], _ => exact .of_eq (h u w)
    | [], _, hl => simp [g2] at hl
    | _ :: _ :: _, _, hl => simp [g2] at hl
    | [_], [], hl => simp [g2] at hl
    | [_], _ :: _ :: _, hl => simp [g2] at hl, fun {vs us zs ws} r rz => by
    cases r with
    | nil => exact .nil
    | cons r1 r2 =>
      cases r2 with
      | cons _ _ => exact .nil
      | nil =>
        cases rz with
        | nil => exact .nil
        | cons z1 z2 =>
          cases z2 with
          | nil => exact .cons r1 (.cons z1 .nil)
          | cons _ _ => exact .nil⟩
def tMethK (C : Addr) (m : Str) (sp : Sp) (E : XK) (ta : TE) (tk : TA) : TE := fun σ H Q => ta σ H fun x H1 => ∃ a dx fs, x = .ref a ∧ H1 a = some (.ins C dx fs) ∧ fs.lookup m = none ∧ tk σ H1 fun zs H2 => sp (gV2 [x] zs) H2 Q E
theorem pe_methK {X : Cx} {CX : CXT} {k : Nat} {C f : Addr} {m : Str} {fd : FuncData} {ps ks : List Str} {sp : Sp} {E : XK} {o : Expr} {kws : List Keyword} {ta : TE} {tk : TA} {apos pos : Pos} {pl : Sem Bool} (he : PE X o ta) (c : Cls X.K C) (hm : Meth X.K C m f) (F : FnOk X.prog X.w X.K X.mg X.base CX k f fd ps sp) (hr : Room k X.A)
    (hb : KBinds X.K fd ps ks g2 gV2) (hx : Passes CX X E) (hkw : PK X kws tk)
    (hall : (backToKw pos (keywordEach kws X.env)).all (·.1.isSome) = true := by rfl) (hks : (backToKw pos (keywordEach kws X.env)).filterMap (·.1) = ks := by rfl)
    (hpl : ((backTo pos (starEach [] X.env)).any (·.1) || (backToKw pos (keywordEach kws X.env)).any (·.1.isNone)) = false := by rfl)
    (ht : eval (.Call (.Attribute o m apos) [] kws pos) X.env = (do
      let ov ← eval o X.env
      standAt apos.atName
      let (f, first) ← holding [ov] (getMethod ov m pl)
      callWith pos f first (backTo pos (starEach [] X.env)) (backToKw pos (keywordEach kws X.env))) := by rfl) :
    PE X (.Call (.Attribute o m apos) [] kws pos) (tMethK C m sp E ta tk) := by
  constructor
  intro pins s0 σ H W J w
  have obj := he.run pins s0 σ H _ J w
  refine PySem.W.methodCall_KW (pl := pl) (thn obj ?_) ht
  rintro _ s1 ⟨_, H1, J1, rel, a, dx, fs, rfl, ea, lk, w1⟩
  cases rel
  refine getmeth_ok J1 ea c hm lk (PySem.W.callWith_KW0 (h₀ := X.base) (first := [.ref a]) J.ok.mod.kin hm.kp hall (thn (hkw.run pos pins s1 σ H1 _ J1 w1) ?_) hpl)
  rintro vals s2 ⟨zs, H2, J2, rz, w2⟩
  refine ⟨J2.kIn, ?_⟩
  rw [hks]
  exact run_fnk (us := [.ref a]) (vs := [.ref a]) F hr hb hx J2 (Paired.cons rfl Paired.nil) rz w2
end L2

/-! The rules over exceptions as values: made by position, by name, without arguments; e.f; isinstance(e, C); str(e). -/
namespace L2
open PySem PySem.Spec PyProof.Rows PySem.HandSPX
/-- what the written part says of an own exception class C whose __init__ is the def at g -/
structure ErrK (K : PySem.W.Frag) (C g : Addr) : Prop where
  cls : ∃ (B newId initId : String) (tl : List Value), ∃ nm q N bs bm sn sub ab col dd k0 k1 k2 k3 k5, ExcBaseFacts B newId initId tl ∧ Tl tl ∧ K.lookup C = some (excClassObj nm q C N bs bm true sn sub ab col dd k0 k1 k2 k3 k5 newId) ∧ refsTo tl bm = true
  sa : PySem.W.findIn K (.ref C) "__setattr__" = some (some (.builtin "object.__setattr__"))
  init : PySem.W.findIn K (.ref C) "__init__" = some (some (.ref g))
  isfn : PySem.W.typeIn K (.ref g) = some (.type "function")
  keep : PySem.W.keepIn K (.ref C) = true
  ec : ExcC K C
  str : PySem.W.findIn K (.ref C) "__str__" = some (some (.builtin "BaseException.__str__"))
theorem ErrK.es {K : PySem.W.Frag} {C g : Addr} (Z : ErrK K C g) : EsC K C := by
  obtain ⟨B, newId, initId, tl, nm, q, N, bs, bm, sn, sub, ab, col, dd, k0, k1, k2, k3, k5, _, t, look, ends⟩ := Z.cls
  exact ⟨⟨newId, tl, nm, q, N, bs, bm, sn, sub, ab, col, dd, k0, k1, k2, k3, k5, t, look, ends⟩, Z.sa⟩
theorem ErrK.xf {K : PySem.W.Frag} {C g : Addr} (Z : ErrK K C g) : XfC K C := ⟨Z.ec.hg, Z.ec.hk, Z.ec.hs, Z.ec.hd⟩
section
variable {X : Cx} {CX : CXT} {C g : Addr} {n : Nat} {fd : FuncData} {ps : List Str} {pr : Sp} {pins : List (Addr × Obj)} {σ : St} {G1 : Hp}
/-- the class is called -/
theorem errK_call (Z : ErrK X.K C g) (F : FnG X.prog X.w X.K X.mg X.base CX n g fd ps pr) (quiet : X.A.guards = some []) (room : Room (n + 1) X.A) (pass : Passes CX X (fun _ _ _ => False)) {us us2 : List Value} {kw : List (Str × Value)} {vs2 : List V} {W : VK} {s1 : Shared} (J1 : Inv X pins σ G1 s1)
    (few : us.length ≤ sizeLine) (bn : ∀ (s : Shared) (self : Value), X.K.In s.heap → BindsTo s fd ⟨self :: us, kw⟩ (ps.zip (self :: us2))) (rel : Vals vs2 us2)
    (w1 : ∀ a, G1 a = none → pr (.ref a :: vs2) (upd G1 a (exo a C none)) (fun v H2 => v = .non ∧ W (.ref a) H2) (fun _ _ _ => False)) :
    wpAny (model X.prog X.w) X.A (PySem.call (.ref C) us kw) (EP X pins σ W) X.xe s1 := by
  cases s1 with
  | mk hp gens dr tk os =>
    obtain ⟨B, newId, initId, tl, nm, q, N, bs, bm, sn, sub, ab, col, dd, k0, k1, k2, k3, k5, FB, _, look, ends⟩ := Z.cls
    obtain ⟨stays, J2⟩ := exc_laid (args := us) (C := C) J1
    have w2 := w1 (hp.objs.size + 1) (J1.hok.fresh (Nat.le_succ hp.objs.size))
    have rel2 : Vals (V.ref (hp.objs.size + 1) :: vs2) (Value.ref (hp.objs.size + 1) :: us2) := .cons rfl rel
    have run := F.run _ X.stack _ _ ⟨Value.ref (hp.objs.size + 1) :: us, kw⟩ _ _ _ (fun _ _ _ => False) (by first | exact make_guards.trans quiet | exact quiet) (room.make C us kw) (J2.env0.make C us kw) (bn _ _ J2.kIn) rel2 w2
    refine wpAny_call (call_excK FB (fun Y => refsTo_contains Y bm ends) (J1.kIn _ _ look) (PySem.W.looks_findIn J1.kIn Z.init) (fun self => PySem.W.bind_fn J1.kIn self Z.isfn) few (codeAny_mono run ?_))
    rintro (er | fl) s3 z
    · exact pass pins σ _ _ er s3 J2 z
    · cases fl with
      | ret u =>
        obtain ⟨v, H2, J3, rv, ev, w3⟩ := J2.after z
        subst ev
        exact ⟨rv, V.ref (hp.objs.size + 1), H2, J3, rfl, w3⟩
      | _ => exact z.elim
/-- the reading of C(e, ..) -/
def tNewE (C : Addr) (pr : Sp) (ta : TA) : TE := fun σ H Q => ta σ H fun vs H1 => vs.length ≤ 1000 ∧ ∀ a, H1 a = none → pr (.ref a :: vs) (upd H1 a (exo a C none)) (fun v H2 => v = .non ∧ Q (.ref a) H2) (fun _ _ _ => False)
theorem pe_newE {x : Str} {e : Expr} {es : List Expr} {ta : TA} {p pos : Pos} (Z : ErrK X.K C g) (F : FnG X.prog X.w X.K X.mg X.base CX n g fd ps pr) (quiet : X.A.guards = some []) (room : Room (n + 1) X.A) (bn : Binds X.K fd ps []) (pass : Passes CX X (fun _ _ _ => False)) (gl : Gl X x) (at_ : X.mg x = some (.ref C)) (args : PA X (e :: es) ta)
    (nd : (x == ("__debug__" : Str)) = false := by decide) (st : starEach (e :: es) X.env = (false, eval e X.env) :: starEach es X.env := by rfl) (pl : (backTo pos (starEach es X.env)).any (·.1) = false := by rfl) :
    PE X (.Call (.Name x p) (e :: es) [] pos) (tNewE C pr ta) := by
  constructor
  intro pins s0 σ G W J w
  have vals := args.run pos pins s0 σ G _ J w
  refine wpAny_Call_Name_kw (ld_glob J gl at_ (PySem.W.callWith_K (h₀ := X.base) J.ok.mod.kin Z.keep (thn vals ?_) st pl) nd)
  rintro us s1 ⟨as, G1, J1, rel, few, wish⟩
  refine ⟨J1.kIn, ?_⟩
  have line : us.length ≤ sizeLine := Nat.le_trans (Nat.le_of_eq (Paired.length rel).symm) (Nat.le_trans few (by rw [sizeLine_eq]; decide))
  have many : (us.length + 1 : Nat) = ps.length := by
    have := F.len _ _ _ _ (wish _ (J1.hok.fresh (Nat.le_refl _)))
    rw [List.length_cons, Paired.length rel] at this
    exact this
  exact errK_call Z F quiet room pass J1 line (fun s self k => by have := bn s (self :: us) k (by rw [List.append_nil, List.length_cons]; exact many); rw [List.append_nil] at this; exact this) rel wish
/-- C() -/
theorem pe_newE0 {x : Str} {p pos : Pos} (Z : ErrK X.K C g) (F : FnG X.prog X.w X.K X.mg X.base CX n g fd ps pr) (quiet : X.A.guards = some []) (room : Room (n + 1) X.A) (bn : Binds X.K fd ps []) (pass : Passes CX X (fun _ _ _ => False)) (gl : Gl X x) (at_ : X.mg x = some (.ref C))
    (nd : (x == ("__debug__" : Str)) = false := by decide) : PE X (.Call (.Name x p) [] [] pos) (tNewE C pr tNil) := by
  constructor
  intro pins s0 σ G W J w
  refine wpAny_Call_Name_kw (ld_glob J gl at_ (PySem.W.callWith_K0 J.kIn Z.keep ?_) nd)
  have many : (1 : Nat) = ps.length := F.len _ _ _ _ (w.2 _ (J.hok.fresh (Nat.le_refl _)))
  exact errK_call Z F quiet room pass J (Nat.zero_le _) (fun s self k => bn s [self] k (by simpa using many)) .nil w.2
/-- C(f=e, ..) -/
theorem pe_newEK {x : Str} {ks : List Str} {gg : List Value → List Value} {gv : List V → List V} {kws : List Keyword} {tk : TA} {p pos : Pos} (Z : ErrK X.K C g) (F : FnG X.prog X.w X.K X.mg X.base CX n g fd ps pr) (quiet : X.A.guards = some []) (room : Room (n + 1) X.A)
    (bn : ∀ (s : Shared) (self : Value) (ws : List Value), X.K.In s.heap → ws.length = ks.length → BindsTo s fd ⟨[self], ks.zip ws⟩ (ps.zip (self :: gg ws))) (gr : ∀ {vs : List V} {us : List Value}, Vals vs us → Vals (gv vs) (gg us)) (pass : Passes CX X (fun _ _ _ => False)) (gl : Gl X x) (at_ : X.mg x = some (.ref C)) (args : PK X kws tk)
    (named : (backToKw pos (keywordEach kws X.env)).all (·.1.isSome) = true := by rfl) (names : (backToKw pos (keywordEach kws X.env)).filterMap (·.1) = ks := by rfl) (nd : (x == ("__debug__" : Str)) = false := by decide)
    (pl : ((backTo pos (starEach [] X.env)).any (·.1) || (backToKw pos (keywordEach kws X.env)).any (·.1.isNone)) = false := by rfl) :
    PE X (.Call (.Name x p) [] kws pos) (fun σ H Q => tk σ H fun vs H1 => vs.length = ks.length ∧ ∀ a, H1 a = none → pr (.ref a :: gv vs) (upd H1 a (exo a C none)) (fun v H2 => v = .non ∧ Q (.ref a) H2) (fun _ _ _ => False)) := by
  constructor
  intro pins s0 σ H W J w
  refine wpAny_Call_Name_kw (ld_glob J gl at_ (PySem.W.callWith_KW0 (h₀ := X.base) (first := []) J.ok.mod.kin Z.keep named (thn (args.run pos pins s0 σ H _ J w) ?_) pl) nd)
  rintro us s1 ⟨zs, H1, J1, rz, many, w1⟩
  refine ⟨J1.kIn, ?_⟩
  rw [names]
  exact errK_call Z F quiet room pass J1 (Nat.zero_le _) (fun s self k => bn s self us k (by rw [← Paired.length rz]; exact many)) (gr rz) w1
end
/-- e.f -/
def tFldE (K : PySem.W.Frag) (f : Str) (te : TE) : TE := fun σ H Q => te σ H fun x H1 => ∃ (a C t dx : Addr) (fs : List (Str × V)) (v : V), x = .ref a ∧ XfC K C ∧ PySem.W.findIn K (.ref C) f = some none ∧ H1 a = some (exq a C (some dx) t) ∧ H1 dx = some (exd dx fs) ∧ fs.lookup f = some v ∧ Q v H1
theorem pe_fldE {X : Cx} {e : Expr} {te : TE} {pos : Pos} {n : Str} (he : PE X e te) (hb : attributeBase e n X.env (eval e X.env) = eval e X.env := by rfl) : PE X (.Attribute e n pos) (tFldE X.K n te) := by
  constructor
  intro pins s0 σ H Q I h
  refine attr_of hb (thn (he.run pins s0 σ H _ I h) ?_)
  rintro _ s1 ⟨_, H1, I1, rx, a, C, t, dx, fs, v, rfl, T, hno, ea, ed, l, q⟩
  cases rx
  have there := exq_at I1.hok ea
  obtain ⟨mA, hns, rel⟩ := exd_at I1.hok ed
  obtain ⟨od, hod, looked⟩ := lookIn_ns hns
  obtain ⟨u, hu, ru⟩ := RelO.some_of (v := v) (o := mA n) (by rw [← l]; exact rel n)
  have inst : PySem.W.InstAt s1.heap a _ C (some od) := ⟨there, rfl, rfl, hod⟩
  exact HandSPX.exc_get I1.kIn inst T.ga T.gg T.exC (PySem.W.findObj_own T.hdC hno rfl (by rw [looked, hu])) (handed_of ru) ⟨v, H1, I1.tok _, ru, q⟩
/-- isinstance(e, c) -/
theorem call_isQ {X : Cx} : CallR X (.builtin "isinstance") (fun xs H Q => ∃ (a D t : Addr) (d : Option Addr) (c : V) (cv : Value) (b : Bool), xs = [.ref a, c] ∧ ExcC X.K D ∧ H a = some (exq a D d t) ∧ (d = none ∨ ∃ dd fs, d = some dd ∧ H dd = some (exd dd fs)) ∧
    (∀ u, RelV c u → u = cv) ∧ PySem.W.kitOne X.K (.ref D) cv = some b ∧ Q (.bl b) H) := by
  rintro pins s σ H _ us Q I r ⟨a, D, t, d, c, cv, b, rfl, Z, ea, hd, hcv, e, q⟩
  cases r with
  | cons rx rr =>
    cases rr with
    | cons rt rr =>
      cases rr
      cases rx
      obtain rfl := hcv _ rt
      have there := exq_at I.hok ea
      have inst : ∃ od, PySem.W.InstAt s.heap a ({ cls := .ref D, dict := d, data := .fields #[.ref t, .none, .none, .none, .bool false, .none] } : Obj) D od := by
        rcases hd with rfl | ⟨dd, fs, rfl, ed⟩
        · exact ⟨none, there, rfl, rfl, trivial⟩
        · obtain ⟨mA, hns, _⟩ := exd_at I.hok ed
          obtain ⟨od, hod, _⟩ := lookIn_ns hns
          exact ⟨some od, there, rfl, rfl, hod⟩
      obtain ⟨od, inst⟩ := inst
      refine PySem.W.kia_one (PySem.W.kitx_exc ?_ Z.hg Z.hk Z.hs Z.ha Z.hn Z.ht Z.hm) I.kIn inst e (fun z => nomatch z) fun tk => ⟨.bl b, H, I.kept (t' := tk) fun _ _ z => z, rfl, q⟩
      obtain ⟨cd, hc, _⟩ := PySem.W.any_some Z.hd
      rw [hc]
      rfl
/-- str(e) -/
theorem call_strQ {X : Cx} {k : Nat} (room : Room k X.A) : CallR X (.type "str") (fun xs H Q => ∃ (a D t : Addr) (d : Option Addr) (m : Str), xs = [.ref a] ∧ H a = some (exq a D d t) ∧ H t = some (.tup [.str m]) ∧ PySem.W.findIn X.K (.ref D) "__str__" = some (some (.builtin "BaseException.__str__")) ∧ PySem.W.subIn X.K (.ref D) (.type "BaseException") = some true ∧ Q (.str m) H) := by
  rintro pins s σ H _ us Q I r ⟨a, D, t, d, m, rfl, ea, et, hs, hB, q⟩
  rcases vals1 r with ⟨_, rfl, rfl⟩
  have there := exq_at I.hok ea
  obtain ⟨_, its, rv, o, ho, hc, n, hdat⟩ := (show ObjOk X.prog X.w H s.heap t (.tup [.str m]) from I.hok t _ et)
  obtain ⟨u, rfl, tk, rfl⟩ := vals1 rv
  refine PySem.P.str_of_C_one (C := D) (e := a) (t0 := t) (m := m) (tk := tk) (by have := room.un; omega) ⟨I.kIn, _, _, there, rfl, rfl, rfl⟩ ⟨o, n, ho, hc, hdat⟩ hs hB ?_
  exact ⟨.str m, H, I, ⟨tk, rfl⟩, q⟩
end L2

/-! repr of a list of shown values -/
namespace L2
open PySem PySem.Spec PyProof.Rows
/-- v is shown as t, whatever is under way -/
abbrev Shn (X : Cx) (k : Nat) (J : Hp → Prop) (v : V) (t : Str) : Prop := Sg X k J (fun _ => False) v t
theorem call_reprL {X : Cx} {k : Nat} (quiet : X.A.guards = some []) (room : Room (k + 2) X.A) :
    CallR X (.builtin "repr") fun us H Q => ∃ (a : Addr) (xs : List V) (ts : List Str) (J : Hp → Prop), us = [.ref a] ∧ J H ∧ (∀ G, J G → G a = some (.lst xs)) ∧ xs ≠ [] ∧ ts.length = xs.length ∧
      (∀ (i : Nat) (v : V), xs[i]? = some v → ∃ t, ts[i]? = some t ∧ Shn X k J v t) ∧ (listText ts).length ≤ sizeLine ∧ ∀ G, J G → Q (.str (listText ts)) G := by
  rintro pins s σ H _ us Q I r ⟨a, xs, ts, J, rfl, j, there, some_, many, each, fits, q⟩
  rcases vals1 r with ⟨_, rfl, rfl⟩
  exact (sg_list there some_ (fun z => z) many each).call X.A [] pins s σ H _ _ _ I.ok.frames quiet (Clr.nil _) room I j rfl fits fun s1 H1 tk I1 j1 => ⟨.str _, H1, I1, ⟨tk, rfl⟩, q H1 j1⟩
end L2

/-! How a dict of plain values is shown; {x} of any plain data. -/
namespace L2
open PySem PySem.Spec PyProof.Rows
/-- a value that is shown as t, wherever it stands -/
inductive PlTx : V → Str → Prop
  | non : PlTx .non "None"
  | bl (b : Bool) : PlTx (.bl b) (if b then "True" else "False")
  | int {i : Int} (h : i.natAbs.log2 < 1920) : PlTx (.int i) (toString i)
  | str {x : Str} (h : (reprText x).length ≤ sizeLine) : PlTx (.str x) (reprText x)
theorem PlTx.is {prog : Program} {w : World} {v : V} {t : Str} {u : Value} (p : PlTx v t) (r : RelV v u) : ReprIs prog w u t := by
  cases p with
  | non => cases r; exact ReprIs.none
  | bl b => cases r; exact ReprIs.bool b
  | int h => obtain ⟨k, rfl⟩ := r; exact ReprIs.int k h
  | str h => obtain ⟨k, rfl⟩ := r; exact ReprIs.str _ k h
inductive KvTx : List (Key × V) → List Str → Prop
  | nil : KvTx [] []
  | cons {k : Key} {v : V} {kt vt : Str} {kvs : List (Key × V)} {ps : List Str} : PlTx (kV k) kt → PlTx v vt → KvTx kvs ps → KvTx ((k, v) :: kvs) ((kt ++ ": " ++ vt) :: ps)
theorem KvTx.entries {prog : Program} {w : World} {h : Heap} {kvs : List (Key × V)} {ps : List Str} (z : KvTx kvs ps) : ∀ {es : List DictEntry} {vs : List (Key × Value)}, KV kvs vs → Pairs (mixKind prog w) es vs → ReprEntriesK prog w [] h 0 es ps := by
  induction z with
  | nil =>
    intro es vs r p
    cases r
    cases p
    exact .nil
  | @cons k v kt vt kvs ps pk pv _ ih =>
    intro es vs r p
    cases r with
    | @cons _ q _ _ r1 r2 =>
      cases p with
      | @cons e _ _ _ hk hv p2 =>
        obtain ⟨e1, rv⟩ := r1
        refine .cons (ReprK.of_is (pk.is ?_) _ _ _) (ReprK.of_is (pv.is (by rw [hv]; exact rv)) _ _ _) (ih r2 p2)
        have hk' : keyIs q.1 e.key = true := hk
        rw [← e1] at hk'
        rcases keyIs_shape hk' with ⟨i, t, rfl, e2⟩ | ⟨x, t, rfl, e2⟩
        · exact ⟨t, e2⟩
        · exact ⟨t, e2⟩
section
variable {X : Cx} {k : Nat} {J : Hp → Prop} {B : Addr → Prop}
/-- what is known of such a dict -/
theorem dict_shown {pins : List (Addr × Obj)} {σ : St} {H : Hp} {s : Shared} {a : Addr} {kvs : List (Key × V)} {ps : List Str} (I : Inv X pins σ H s) (e : H a = some (.dK kvs)) (z : KvTx kvs ps) :
    ∃ o es n, s.heap.get? a = some o ∧ o.cls = .type "dict" ∧ o.data = .dict es n ∧ (a == sysModules) = false ∧ ReprEntriesK X.prog X.w [] s.heap 0 es.toList ps := by
  obtain ⟨_, other, vs, rv, o, es, n, there, exact_, data, _, pairs, _⟩ := (show ObjOk X.prog X.w H s.heap a (.dK kvs) from I.hok a _ e)
  exact ⟨o, es, n, there, exact_.1, data, other, z.entries rv pairs⟩
/-- a dict of plain values -/
theorem sg_dK {a : Addr} {kvs : List (Key × V)} {ps : List Str} (hJ : ∀ H, J H → H a = some (.dK kvs)) (z : KvTx kvs ps) (hB : B a) : Sg X (k + 1) J B (.ref a) (dictText ps) := by
  constructor
  · intro A' g pins s σ H u b E Q _ hg hc hr I j r hb q
    cases r
    obtain ⟨o, es, n, there, cls, data, other, parts⟩ := dict_shown I (hJ H j) z
    exact (ReprK.dict (as := []) (h₀ := s.heap) (d := 0) there cls data other List.not_mem_nil parts) b hb A' g E s Q hg (fun c m => hc c (by rw [List.mem_singleton.mp m]; exact hB)) (by have := hr.un; omega) (fun _ _ y => y) fun h' tk keep => q _ H (I.kept keep) j
  · intro A' g pins s σ H u E Q _ hg hc hr I j r hb q
    cases r
    obtain ⟨o, es, n, there, cls, data, other, parts⟩ := dict_shown I (hJ H j) z
    exact wpAny_pyReprObj_dictK (as := []) (h₀ := s.heap) (d := 0) there cls data other List.not_mem_nil parts hg (fun c m => hc c (by rw [List.mem_singleton.mp m]; exact hB)) (by have := hr.un; omega) (fun _ _ y => y) (fun h' u tk keep => q _ H _ (I.kept keep) j) hb
  · intro A' g pins s σ H u E Q _ hg hc hr I j r hb q
    cases r
    obtain ⟨o, es, n, there, cls, data, other, parts⟩ := dict_shown I (hJ H j) z
    refine call_repr_slot (by have := hr.un; omega) ⟨_, there, cls⟩ F.slot_dict_repr ?_
    refine call_dict_reprK (A := A'.in1) (as := []) (h₀ := s.heap) (d := 0) there cls data other List.not_mem_nil parts hg (fun c m => hc c (by rw [List.mem_singleton.mp m]; exact hB)) ?_ (fun _ _ y => y) (fun h' u tk keep => ?_) hb
    · have := hr.un
      show A'.units + 1 + 1 < cLine
      omega
    · exact ⟨_, _, rfl, q _ H _ (I.kept keep) j⟩
end
/-- v is data: it is read off the heap as d -/
def ReadsTo (X : Cx) (H : Hp) (v : V) (d : PyData) : Prop := ∀ (pins : List (Addr × Obj)) (σ : St) (s : Shared) (u : Value), Inv X pins σ H s → RelV v u → ∃ as, Reads s.heap u d as ∧ (d.hasDict = true → sysModules ∉ as)
/-- {x}, x plain data: some text that is no longer than what shows it -/
def tFmtP (X : Cx) (n : Nat) (te : TE) : TE := fun σ H Q => te σ H fun v H1 => ((v = .non ∨ (∃ b, v = .bl b) ∨ (∃ i : Int, v = .int i ∧ i.natAbs.log2 < 1920 ∧ (toString i : Str).length ≤ n) ∨ (∃ y : Str, v = .str y ∧ y.length ≤ n) ∨
    ∃ (a : Addr) (d : PyData), v = .ref a ∧ ReadsTo X H1 v d ∧ d.showable = true ∧ d.depth ≤ 8 ∧ d.shown.length ≤ n) ∧ ∀ m : Str, m.length ≤ n → Q (.str m) H1)
theorem pe_fmtP {X : Cx} {e : Expr} {te : TE} {pos : Pos} {k n : Nat} (quiet : X.A.guards = some []) (room : Room k X.A) (n8 : 8 ≤ n) (fits : n ≤ sizeLine) (he : PE X e te) : PE X (.FormattedValue e (-1) none pos) (tFmtP X n te) := by
  constructor
  intro pins s σ H Q I h
  refine wpAny_FormattedValue_plain (thn (he.run pins s σ H _ I h) ?_)
  rintro u s1 ⟨v, H1, I1, r, kind, q⟩
  rcases kind with rfl | ⟨b, rfl⟩ | ⟨i, rfl, hi, few⟩ | ⟨y, rfl, few⟩ | ⟨a, d, rfl, reads, hs, hd, few⟩
  · cases r
    exact wpAny_formatField_none ⟨.str "None", H1, I1.tok _, ⟨_, rfl⟩, q _ (Nat.le_trans (by decide) n8)⟩
  · cases r
    exact wpAny_formatField_bool ⟨.str _, H1, I1.tok _, ⟨_, rfl⟩, q _ (Nat.le_trans (by cases b <;> decide) n8)⟩
  · obtain ⟨t, rfl⟩ := r
    exact wpAny_formatField_int hi ⟨.str (toString i), H1, I1.tok _, ⟨_, rfl⟩, q _ few⟩
  · obtain ⟨t, rfl⟩ := r
    exact wpAny_formatField_str ⟨.str y, H1, I1, ⟨t, rfl⟩, q _ few⟩ ⟨.str y, H1, I1.tok _, ⟨_, rfl⟩, q _ few⟩ (Nat.le_trans few fits)
  · obtain ⟨as, rd, no⟩ := reads pins σ s1 u I1 r
    cases r
    exact formatField_of_reads rd hs no quiet (by have := room.un; omega) (fun _ _ y => y) (fun h' u tk keep => ⟨.str d.shown, H1, I1.kept (t' := tk) keep, ⟨_, rfl⟩, q _ few⟩) (Nat.le_trans few fits)
end L2

/-! try: .. except x1 as n: .. except x2 as n: ..; one of the clauses takes whatever the body lets out. -/
namespace L2
open PySem PySem.Spec PyProof.Rows
abbrev Suite := Addr → Value → Option Addr → TS
/-- behind a clause its name is gone -/
def Ends.gone (D : Ends) (i : Nat) : Ends where
  nx := fun τ G => D.nx (τ.set i none) G
  rt := D.rt
  bk := fun τ G => D.bk (τ.set i none) G
  ct := fun τ G => D.ct (τ.set i none) G
/-- the first clause that fits has what it wants -/
def Fits (K : PySem.W.Frag) (i : Nat) (D : Ends) : List (Value × Suite) → WX
  | [] => fun _ _ _ _ => False
  | one :: more => fun cls d τ G => (PySem.W.exmOne K cls one.1 = some true ∧ ∀ a, G a = none → one.2 a cls d (D.gone i) (τ.set i (some (.ref a))) G) ∨ (PySem.W.exmOne K cls one.1 = some false ∧ Fits K i D more cls d τ G)
inductive Clauses (X : Cx) (n : Str) : List ExceptHandler → List (Value × Suite) → Prop
  | nil : Clauses X n [] []
  | cons {x : Str} {one : Value × Suite} {st : Stmt} {sts : List Stmt} {p1 p2 : Pos} {hs : List ExceptHandler} {more : List (Value × Suite)} (named : Names X x one.1)
      (suite : ∀ (a : Addr) (oe : Obj) (cls : Value) (d : Option Addr) (pn : List (Addr × Obj)), Zc cls d oe → (∃ vs, oe.data = .fields vs) → PSs (X.suite a ((a, oe) :: pn)) (st :: sts) (one.2 a cls d)) (rest : Clauses X n hs more) :
      Clauses X n (.ExceptHandler (some (.Name x p1)) (some n) (st :: sts) p2 :: hs) (one :: more)
section
variable {X : Cx} {n : Str} {i : Nat} {D : Ends} {pins : List (Addr × Obj)} {τ : St} {G : Hp} {a B : Addr} {cls : Value} {d : Option Addr}
/-- the handlers, once the exception at a has landed: every landing of it keeps the invariant, and a is apart -/
theorem fits_go {base : Heap} {hp : Heap} {s0 : Shared} {oe : Obj} {vs : Array Value} (nd : X.N.Nodup) (slot : X.N[i]? = some n) (loc : X.env.kindOf n = some .local) (stk : X.stack = X.env :: X.outer) (frm : X.env.frame = some X.env.locals)
    (fly : HandSPX.FlyingZ base (X.env :: X.outer) a (Zc cls d) hp) (inv : ∀ h', HandSPX.FlyingZ base (X.env :: X.outer) a (Zc cls d) h' → hp.UpToSlots h' → Inv X pins τ G { s0 with heap := h' }) (here : Inv X pins τ G { s0 with heap := hp }) (free : G a = none) (apart : a ≠ X.env.locals ∧ a ∉ X.fs)
    (obj : hp.get? a = some oe) (of : Zc cls d oe) (dat : oe.data = .fields vs) :
    ∀ {hs : List ExceptHandler} {l : List (Value × Suite)}, Clauses X n hs l → Fits X.K i D l cls d τ G → wpAny (model X.prog X.w) X.A (handleBy (.ref a) X.env hs) (SP X pins D) X.xe { s0 with heap := hp } := by
  intro hs l cl
  induction cl with
  | nil => exact fun z => z.elim
  | @cons x one st sts p1 p2 hs more named suite rest ih =>
    intro w
    have inSuite := here.suite obj dat free apart.1 apart.2
    have kind : PySem.W.Looks (model X.prog X.w) hp (typeOf (.ref a)) cls := fun _ _ _ _ keep z => wpAny_typeOf_ref (keep _ _ obj) (by rw [of.1]; exact z)
    refine wpAny_handleBy_cons (codeAny_handlers_test ?_) (fun z => by cases z)
    have asked : ∀ {Q : Value → Shared → Prop} {E : Value → Shared → Prop}, Q one.1 { s0 with heap := hp } → wpAny (model X.prog X.w) (X.A.mark (some (.ref a))) (eval (.Name x p1) X.env) Q E { s0 with heap := hp } := by
      intro Q E z
      rcases named with ⟨gl, nodebug, own | ⟨none_, boot, noname⟩⟩
      · exact ld_glob (X := X.suite a ((a, oe) :: (X.pn ++ pins))) inSuite gl own z nodebug
      · exact ld_blt (X := X.suite a ((a, oe) :: (X.pn ++ pins))) inSuite gl none_ boot z noname nodebug
    rcases w with ⟨yes, w⟩ | ⟨no, w⟩
    · refine asked ((PySem.W.exm_one (M := model X.prog X.w) here.kIn kind yes).here (codeAny_handlers_suite_as (HandSPX.lands_againZ fly fun h4 fly4 up4 => ?_)))
      have J := inv h4 fly4 up4
      obtain ⟨o4, v4, g4, z4, d4⟩ := fly4.there
      refine store_ok (X := X.suite a ((a, o4) :: (X.pn ++ pins))) (v := .ref a) (J.suite g4 d4 free apart.1 apart.2) nd slot (.inl loc) rfl (fun s5 J5 => ?_) (.inr loc)
      refine wpAny_mono ((suite a o4 cls d (X.pn ++ pins) z4 ⟨_, d4⟩).run [] s5 _ G (D.gone i) J5 (w a free)) (fun fl s6 z => ?_) (fun _ _ z => z.elim)
      have leave : ∀ {τ6 : St} {G6 : Hp} {R : Shared → Prop}, Inv (X.suite a ((a, o4) :: (X.pn ++ pins))) [] τ6 G6 s6 → (∀ s7, Inv X pins (τ6.set i none) G6 s7 → R s7) → wpAny (model X.prog X.w) X.A (do bindName X.env n .none; unbindBehindTheSuite X.env n p2) (fun _ s7 => R s7) X.xe s6 :=
        fun J6 k => gone_ok (J6.unsuite here.ok) nd slot loc k
      cases fl with
      | ret u => obtain ⟨v6, τ6, G6, J6, r6, q6⟩ := z; exact leave J6 fun s7 J7 => ⟨v6, _, G6, J7, r6, q6⟩
      | next => obtain ⟨τ6, G6, J6, q6⟩ := z; exact leave J6 fun s7 J7 => ⟨_, G6, J7, q6⟩
      | brk => obtain ⟨τ6, G6, J6, q6⟩ := z; exact leave J6 fun s7 J7 => ⟨_, G6, J7, q6⟩
      | cont => obtain ⟨τ6, G6, J6, q6⟩ := z; exact leave J6 fun s7 J7 => ⟨_, G6, J7, q6⟩
    · exact asked ((PySem.W.exm_one (M := model X.prog X.w) here.kIn kind no).here (ih w))
end
section
variable {X : Cx} {n : Str} {i : Nat} {body : List Stmt} {h0 : ExceptHandler} {hs : List ExceptHandler} {l : List (Value × Suite)} {pos : Pos} {tb : WX → TS}
theorem ps_try_fits (stk : X.stack = X.env :: X.outer) (frm : X.env.frame = some X.env.locals) (nd : X.N.Nodup) (slot : X.N[i]? = some n) (loc : X.env.kindOf n = some .local)
    (inner : ∀ (W : WX) (pn : List (Addr × Obj)) (xe : Value → Shared → Prop), Takes (X.tr pn xe) W → PassesOwn (model X.prog X.w) X.A X.env xe → PSs (X.tr pn xe) body (tb W))
    (cl : Clauses X n (h0 :: hs) l) : PS X (.Try body (h0 :: hs) [] [] pos) (fun D σ H => tb (Fits X.K i D l) D σ H) := by
  constructor
  intro pins s σ H D I w
  have frames : X.A.frames = some (X.env :: X.outer) := stk ▸ I.ok.frames
  have catching : Takes (X.tr (X.pn ++ pins) (fun ex s1 => wpAny (model X.prog X.w) X.A (noteFrame ex X.env) (fun _ s2 => wpAny (model X.prog X.w) X.A (setFlight ex none) (fun _ s3 => wpAny (model X.prog X.w) X.A (handleBy ex X.env (h0 :: hs)) (SP X pins D) X.xe s3) X.xe s2) X.xe s1)) (Fits X.K i D l) := by
    rintro _ s1 ⟨a, B, sI, _, τ, G, cls, d, rfl, J0, ground, up, sky, free, os, bare, fit⟩
    have J : Inv X pins τ G sI := J0.ofTry I.ok
    have any : ∀ h', HandSPX.FlyingZ B (X.env :: X.outer) a (Zc cls d) h' → s1.heap.UpToSlots h' → Inv X pins τ G { s1 with heap := h' } := fun h' fly to => J.landed ground fly.1 (up.trans to) os bare
    refine Sky.land Zc.steady frames frm (stk ▸ sky) fun h3 fly to => ?_
    obtain ⟨o3, v3, g3, z3, d3⟩ := fly.there
    have out : a ∉ frs (X.env :: X.outer) := fun inn => by
      obtain ⟨_, o, go, nofields⟩ := fly.2.2.1.mem inn
      exact nofields v3 (by rw [← d3, Option.some.inj (g3.symm.trans go)])
    refine fits_go (oe := o3) (vs := v3) (s0 := s1) nd slot loc stk frm fly (fun h' f2 t2 => any h' f2 (to.trans t2)) (any h3 fly to) free ⟨fun z => out ?_, fun z => out ?_⟩ g3 z3 d3 cl fit
    · exact List.mem_filterMap.mpr ⟨X.env, by simp, z ▸ frm⟩
    · obtain ⟨en, inOuter, fr⟩ := List.mem_filterMap.mp z
      exact List.mem_filterMap.mpr ⟨en, by simp [inOuter], fr⟩
  refine wpAny_Try_except (wpAny_mono ((inner _ _ _ catching PassesOwn.looking).run [] s σ H D (I.toTry _) w) (fun fl s1 z => ?_) (fun _ _ z => z))
  cases fl with
  | ret u => obtain ⟨v, τ, G, J, rel, q⟩ := z; exact ⟨v, τ, G, J.ofTry I.ok, rel, q⟩
  | next => obtain ⟨τ, G, J, q⟩ := z; exact wpAny_execs_nil ⟨τ, G, J.ofTry I.ok, q⟩
  | brk => obtain ⟨τ, G, J, q⟩ := z; exact ⟨τ, G, J.ofTry I.ok, q⟩
  | cont => obtain ⟨τ, G, J, q⟩ := z; exact ⟨τ, G, J.ofTry I.ok, q⟩
end
end L2

/-! x(lambda: body): the lambda is called by a def with one parameter; no repr is under way. -/
namespace L2
open PySem PySem.Spec PyProof.Rows LamX
/-- the def that calls what it got -/
def GivesTo1 (X : Cx) (Ng : List Str) (x : Str) (sg : Scope) (g : Addr) (cdg : Value) (bg : List Stmt) (a : Str) (q : Str) (k : Nat) (TT : (XK → Hp → VK → Prop) → Hp → VK → Prop) : Prop :=
  ∀ (f c' : Addr) (s : Shared) (H : Hp) (Q : VK) (tl : XK → Hp → VK → Prop),
    (∀ (W : WX) (pn : List (Addr × Obj)) (xe : Value → Shared → Prop) (p1 p2 : Pos), Takes ((cxOf C8.CX0 X.prog X.w X.K X.mg X.base Ng x sg g cdg X.A X.stack s H C8.E0).tr pn xe) W →
      PE ((cxOf C8.CX0 X.prog X.w X.K X.mg X.base Ng x sg g cdg X.A X.stack s H C8.E0).tr pn xe) (.Call (.Name a p1) [] [] p2) (fun σZ HZ Q => σZ[0]? = some (some (.ref f)) ∧ HZ c' = some (CodeO c' q) ∧ tl (WE W σZ) HZ Q)) →
    Room k (X.A.deeper (envOfC x sg s.heap.objs.size g cdg)) → H c' = some (CodeO c' q) → TT tl H Q →
    ∃ t, PSs (cxOf C8.CX0 X.prog X.w X.K X.mg X.base Ng x sg g cdg X.A X.stack s H C8.E0).nox bg t ∧ t { nx := fun _ H' => Q .non H', rt := Q } (L2.start Ng [.ref f]) H
theorem pe_lamcall1 {X : Cx} {T : List (Addr × Str)} {TT : (XK → Hp → VK → Prop) → Hp → VK → Prop} {x a : Str} {g c P : Addr} {k : Nat} {pg : Arguments} {bg : List Stmt} {sg : Scope} {dV kV doc pm cdv ct oc : Value} {an od : Option Addr} {osl : Array (Option Value)} {Ng : List Str}
    {params : Arguments} {body : Expr} {scope : Scope} {t : XK → TE} {p lpos pos : Pos} (quiet : X.A.guards = some []) (gl : Gl X x) (mod : X.mg x = some (.ref g)) (keep : PySem.W.keepIn X.K (.ref g) = true)
    (lk : X.K.lookup g = some ⟨oc, od, .func (PySem.W.fnOf x x pg bg sg dV kV doc pm an cdv ct), osl⟩) (code : PySem.W.codeIn X.K cdv x = true) (binds : L2.Binds X.K (PySem.W.fnOf x x pg bg sg dV kV doc pm an cdv ct) [a] []) (Sg : FnScope Ng [a] sg) (first : Ng[0]? = some a) (seen : Vis sg a)
    (gives : GivesTo1 X Ng x sg g cdv bg a (X.env.qual ++ "<lambda>") (k + 1) TT)
    (TB : TabB X.base X.mg c P) (own : X.env.code = .ref c) (inT : (P, X.env.qual ++ "<lambda>") ∈ T) (one : ∀ p ∈ T, p.1 = P → p.2 = X.env.qual ++ "<lambda>") (room : Room (k + 2) X.A) (L : LamS X.env.scope scope) (nodef : defaultsOf params X.env = ([], []))
    (nobind : ∀ (q : Str) (cl : List (Str × Addr)) (pm cv ctv : Value), bindArgs (PySem.W.kla_fn "<lambda>" q params body scope cl pm cv ctv) ⟨[], []⟩ = pure [])
    (inside : ∀ (A : Around) (outer : List Env) (s : Shared) (H : Hp) (E : XK) (f c' : Addr), A.guards = some [] → Room k (A.deeper (lamEnv X scope s.heap.objs.size f c')) → PE (lamCx X A outer s H E scope f c') body (t E))
    (nd1 : (x == ("__debug__" : Str)) = false := by decide) (nd2 : (a == ("__debug__" : Str)) = false := by decide) (nc : (a == ("__classdict__" : Str)) = false := by decide) :
    PE X (.Call (.Name x p) [.Lambda params body scope lpos] [] pos) (fun σ H Q => Tabs T H ∧ ∀ H1, ExtN H H1 → Tabs T H1 → TT (fun E H' Q' => t E σ H' Q') H1 Q) := by
  constructor
  rintro pins s0 σ H W J ⟨tabs, w⟩
  refine wpAny_Call_Name_kw (ld_glob J gl mod (PySem.W.callWith_K (h₀ := X.base) J.ok.mod.kin keep ?_ (by rfl) (by rfl)) nd1)
  show wpAny _ _ (spliced [(false, eval (.Lambda params body scope lpos) X.env)]) _ _ s0
  refine Calls.spliced_cons (lam_make2 J TB own inT one tabs nodef (L.has J.ok) fun f c' pm' ctv H1 s1 J1 grown tabs1 hf hfn hfr hco => Calls.spliced_nil ⟨J1.kIn, ?_⟩)
  have run : codeAny (model X.prog X.w) X.A (.call (.ref g) ⟨[.ref f], []⟩) (CR C8.CX0 X.stack X.prog X.w H1 s1 W C8.E0) s1 := by
    refine run_ofS (N := Ng) (ps := [a]) (us := [.ref f]) (vs := [.ref f]) lk code Sg room J1.env0 (binds s1 [.ref f] J1.kIn rfl) (show Vals [V.ref f] [Value.ref f] from .cons rfl .nil) rfl fun room2 => ?_
    obtain ⟨ts, hts, hq⟩ := gives f c' s1 H1 W (fun E H' Q' => t E σ H' Q') (fun V0 pn xe p1 p2 tk => pe_actG (i := 0) quiet J1 L hf hfn hfr (nobind _ _ _ _ _) tk room2 (fun A outer s H E q r => inside A outer s H E f c' q r) first seen nd2 nc) room2 hco (w H1 grown tabs1)
    exact ⟨ts, hts.nox, hq⟩
  have d := fun r s2 z => ended (X := X) (CX := C8.CX0) (E := C8.E0) (R := EP X pins σ W) (fun _ _ _ _ _ _ _ z => (show False from z).elim) J1 (fun _ _ y => y) r s2 z
  refine wpAny_call (codeAny_mono run fun r s2 z => ?_)
  have y := d r s2 z
  cases r with
  | error er => exact y
  | ok fl =>
    cases fl with
    | ret u => exact y
    | _ => exact y.elim
end L2

/-! x(lambda: body, y): the lambda is called by a def with two parameters; no repr is under way. -/
namespace L2
open PySem PySem.Spec PyProof.Rows LamX
/-- a name of the frame is read, and the state stays -/
theorem slot_read {X : Cx} {pins : List (Addr × Obj)} {σ : L2.St} {H : Hp} {s0 : Shared} {i : Nat} {y : Str} {pos : Pos} {v : V} (J : Inv X pins σ H s0) (nth : X.N[i]? = some y) (vis : Vis X.env.scope y) (at_ : σ[i]? = some (some v)) (nd : (y == ("__debug__" : Str)) = false) (nc : (y == ("__classdict__" : Str)) = false) :
    ∃ u, RelV v u ∧ ∀ (W E : Value → Shared → Prop), W u s0 → wpAny (model X.prog X.w) X.A (eval (.Name y pos) X.env) W E s0 := by
  obtain ⟨m, ns, slots⟩ := J.loc
  obtain ⟨u, rel, look⟩ := slots i y v nth at_ vis
  refine ⟨u, rel, fun W E w => wpAny_Name ?_ nd⟩
  rcases look with ⟨kind, here⟩ | ⟨kind | kind, c, has, cell⟩
  · exact wpAny_loadName_local J.ok.kind kind ns here w
  · exact wpAny_loadName_cell J.ok.kind kind has cell w
  · exact wpAny_loadName_free J.ok.kind kind has cell w nc
/-- the def that calls what it got, with a second argument -/
def GivesTo2 (X : Cx) (Ng : List Str) (x : Str) (sg : Scope) (g : Addr) (cdg : Value) (bg : List Stmt) (a : Str) (q : Str) (k : Nat) (TT : V → (XK → Hp → VK → Prop) → Hp → VK → Prop) : Prop :=
  ∀ (f c' : Addr) (s : Shared) (H : Hp) (v2 : V) (Q : VK) (tl : XK → Hp → VK → Prop),
    (∀ (W : WX) (pn : List (Addr × Obj)) (xe : Value → Shared → Prop) (p1 p2 : Pos), Takes ((cxOf C8.CX0 X.prog X.w X.K X.mg X.base Ng x sg g cdg X.A X.stack s H C8.E0).tr pn xe) W →
      PE ((cxOf C8.CX0 X.prog X.w X.K X.mg X.base Ng x sg g cdg X.A X.stack s H C8.E0).tr pn xe) (.Call (.Name a p1) [] [] p2) (fun σZ HZ Q => σZ[0]? = some (some (.ref f)) ∧ HZ c' = some (CodeO c' q) ∧ tl (WE W σZ) HZ Q)) →
    Room k (X.A.deeper (envOfC x sg s.heap.objs.size g cdg)) → H c' = some (CodeO c' q) → TT v2 tl H Q →
    ∃ t, PSs (cxOf C8.CX0 X.prog X.w X.K X.mg X.base Ng x sg g cdg X.A X.stack s H C8.E0).nox bg t ∧ t { nx := fun _ H' => Q .non H', rt := Q } (L2.start Ng [.ref f, v2]) H
theorem pe_lamcall2 {X : Cx} {T : List (Addr × Str)} {TT : V → (XK → Hp → VK → Prop) → Hp → VK → Prop} {x a b : Str} {g c P : Addr} {k : Nat} {pg : Arguments} {bg : List Stmt} {sg : Scope} {dV kV doc pm cdv ct oc : Value} {an od : Option Addr} {osl : Array (Option Value)} {Ng : List Str}
    {params : Arguments} {body : Expr} {scope : Scope} {t : XK → TE} {p lpos pos : Pos} {j : Nat} {y : Str} {py : Pos} (quiet : X.A.guards = some []) (gl : Gl X x) (mod : X.mg x = some (.ref g)) (keep : PySem.W.keepIn X.K (.ref g) = true)
    (lk : X.K.lookup g = some ⟨oc, od, .func (PySem.W.fnOf x x pg bg sg dV kV doc pm an cdv ct), osl⟩) (code : PySem.W.codeIn X.K cdv x = true) (binds : L2.Binds X.K (PySem.W.fnOf x x pg bg sg dV kV doc pm an cdv ct) [a, b] []) (Sg : FnScope Ng [a, b] sg) (first : Ng[0]? = some a) (seen : Vis sg a)
    (gives : GivesTo2 X Ng x sg g cdv bg a (X.env.qual ++ "<lambda>") (k + 1) TT)
    (TB : TabB X.base X.mg c P) (own : X.env.code = .ref c) (inT : (P, X.env.qual ++ "<lambda>") ∈ T) (one : ∀ p ∈ T, p.1 = P → p.2 = X.env.qual ++ "<lambda>") (room : Room (k + 2) X.A) (L : LamS X.env.scope scope) (nodef : defaultsOf params X.env = ([], []))
    (nobind : ∀ (q : Str) (cl : List (Str × Addr)) (pm cv ctv : Value), bindArgs (PySem.W.kla_fn "<lambda>" q params body scope cl pm cv ctv) ⟨[], []⟩ = pure [])
    (inside : ∀ (A : Around) (outer : List Env) (s : Shared) (H : Hp) (E : XK) (f c' : Addr), A.guards = some [] → Room k (A.deeper (lamEnv X scope s.heap.objs.size f c')) → PE (lamCx X A outer s H E scope f c') body (t E))
    (nth : X.N[j]? = some y) (visy : Vis X.env.scope y)
    (nd1 : (x == ("__debug__" : Str)) = false := by decide) (nd2 : (a == ("__debug__" : Str)) = false := by decide) (nc : (a == ("__classdict__" : Str)) = false := by decide) (nd3 : (y == ("__debug__" : Str)) = false := by decide) (nc3 : (y == ("__classdict__" : Str)) = false := by decide) :
    PE X (.Call (.Name x p) [.Lambda params body scope lpos, .Name y py] [] pos) (fun σ H Q => Tabs T H ∧ ∃ v2, σ[j]? = some (some v2) ∧ ∀ H1, ExtN H H1 → Tabs T H1 → TT v2 (fun E H' Q' => t E σ H' Q') H1 Q) := by
  constructor
  rintro pins s0 σ H W J ⟨tabs, v2, at2, w⟩
  refine wpAny_Call_Name_kw (ld_glob J gl mod (PySem.W.callWith_K (h₀ := X.base) J.ok.mod.kin keep ?_ (by rfl) (by rfl)) nd1)
  show wpAny _ _ (spliced ((false, eval (.Lambda params body scope lpos) X.env) :: backTo pos (starEach [.Name y py] X.env))) _ _ s0
  refine Calls.spliced_cons (lam_make2 J TB own inT one tabs nodef (L.has J.ok) fun f c' pm' ctv H1 s1 J1 grown tabs1 hf hfn hfr hco => ?_)
  show wpAny _ _ (spliced ((false, eval (.Name y py) X.env) :: backTo pos (starEach [] X.env))) _ _ s1
  obtain ⟨u2, rel2, read⟩ := slot_read (pos := py) J1 nth visy at2 nd3 nc3
  refine Calls.spliced_cons (read _ _ (Calls.spliced_nil ⟨J1.kIn, ?_⟩))
  have run : codeAny (model X.prog X.w) X.A (.call (.ref g) ⟨[.ref f, u2], []⟩) (CR C8.CX0 X.stack X.prog X.w H1 s1 W C8.E0) s1 := by
    refine run_ofS (N := Ng) (ps := [a, b]) (us := [.ref f, u2]) (vs := [.ref f, v2]) lk code Sg room J1.env0 (binds s1 [.ref f, u2] J1.kIn rfl) (show Vals [V.ref f, v2] [Value.ref f, u2] from .cons rfl (.cons rel2 .nil)) rfl fun room2 => ?_
    obtain ⟨ts, hts, hq⟩ := gives f c' s1 H1 v2 W (fun E H' Q' => t E σ H' Q') (fun V0 pn xe p1 p2 tk => pe_actG (i := 0) quiet J1 L hf hfn hfr (nobind _ _ _ _ _) tk room2 (fun A outer s H E q r => inside A outer s H E f c' q r) first seen nd2 nc) room2 hco (w H1 grown tabs1)
    exact ⟨ts, hts.nox, hq⟩
  have d := fun r s2 z => ended (X := X) (CX := C8.CX0) (E := C8.E0) (R := EP X pins σ W) (fun _ _ _ _ _ _ _ z => (show False from z).elim) J1 (fun _ _ y => y) r s2 z
  refine wpAny_call (codeAny_mono run fun r s2 z => ?_)
  have y := d r s2 z
  cases r with
  | error er => exact y
  | ok fl =>
    cases fl with
    | ret u => exact y
    | _ => exact y.elim
end L2

/-! C.m(e, ..) and C.m() of a classmethod, o.m(e, ..) that may raise: where no repr is under way. -/
namespace L2
open PySem PySem.Spec PyProof.Rows
theorem pe_cmethG {X : Cx} {CX : CXT} {n : Nat} {C p g : Addr} {mc : Value} {pr : Sp} {E : XK} {o e : Expr} {es : List Expr} {m : Str} {pos apos : Pos} {ta : TE} {t : TA} {pl : Sem Bool} (ob : PE X o ta) (rd : ClX.CRead X.K C mc) (met : ClX.CMet X.K C mc m p g) (F : FnRG X.prog X.w X.K X.mg X.base CX n g pr) (quiet : X.A.guards = some []) (room : Room n X.A) (pass : Passes CX X E) (args : PA X (e :: es) t)
    (st : starEach (e :: es) X.env = (false, eval e X.env) :: starEach es X.env := by rfl) (pn : (backTo pos (starEach es X.env)).any (·.1) = false := by rfl)
    (ht : eval (.Call (.Attribute o m apos) (e :: es) [] pos) X.env = (eval o X.env >>= fun ov => standAt apos.atName >>= fun _ => holding [ov] (getMethod ov m pl) >>= fun fb => callWith pos fb.1 fb.2 (backTo pos (starEach (e :: es) X.env)) (backToKw pos (keywordEach [] X.env))) := by rfl) :
    PE X (.Call (.Attribute o m apos) (e :: es) [] pos) (ClX.tCMeth C pr E ta t) := by
  constructor
  intro pins s0 σ H W J w
  refine PySem.W.methodCall_KW (pl := pl) (thn (ob.run pins s0 σ H _ J w) ?_) ht
  rintro _ s1 ⟨_, H1, J1, rel, rfl, w1⟩
  cases rel
  have unknown := ClX.base_none J1 (Nat.le_refl _)
  refine ClX.getmethcm_ok J1 rd met fun s2 J2 => ClX.callwith_cm J2 unknown met.fi (thn (args.run pos _ s2 σ H1 _ J2 w1) ?_) st pn
  rintro us s3 ⟨as, H2, J3, rv, w2⟩
  have run := F X.A X.stack s3 H2 (.ref C :: us) (.ref C :: as) W E quiet room J3.env0 (.cons rfl rv) w2
  refine ⟨⟨ClX.pin_at J3, J3.kIn⟩, wpAny_call (PySem.W.method_call (ClX.pin_at J3) (codeAny_mono run fun r s4 z => ?_))⟩
  have y := ended (R := EP X pins σ W) pass J3 (fun _ _ q => ClX.unpinE q) r s4 z
  cases r with
  | error er => exact y
  | ok fl =>
    cases fl with
    | ret u => exact y
    | _ => exact y.elim
/-- C.m() -/
theorem pe_cmeth0 {X : Cx} {CX : CXT} {n : Nat} {C p g : Addr} {mc : Value} {pr : Sp} {E : XK} {o : Expr} {m : Str} {pos apos : Pos} {ta : TE} {pl : Sem Bool} (ob : PE X o ta) (rd : ClX.CRead X.K C mc) (met : ClX.CMet X.K C mc m p g) (F : FnR X.prog X.w X.K X.mg X.base CX n g pr) (room : Room n X.A) (pass : Passes CX X E)
    (ht : eval (.Call (.Attribute o m apos) [] [] pos) X.env = (eval o X.env >>= fun ov => standAt apos.atName >>= fun _ => holding [ov] (getMethod ov m pl) >>= fun fb => callWith pos fb.1 fb.2 (backTo pos (starEach [] X.env)) (backToKw pos (keywordEach [] X.env))) := by rfl) :
    PE X (.Call (.Attribute o m apos) [] [] pos) (fun σ H Q => ta σ H fun x H1 => x = .ref C ∧ pr [.ref C] H1 Q E) := by
  constructor
  intro pins s0 σ H W J w
  refine PySem.W.methodCall_KW (pl := pl) (thn (ob.run pins s0 σ H _ J w) ?_) ht
  rintro _ s1 ⟨_, H1, J1, rel, rfl, w1⟩
  cases rel
  exact ClX.getmethcm_ok J1 rd met fun s2 J2 => PySem.W.callWith_M0 (K := X.K) ⟨ClX.pin_at J2, J2.kIn⟩ met.fi (ClX.run_cm F room pass J2 .nil w1)
def tMethW (C : Addr) (m : Str) (sp : Sp) (E : St → XK) (ta : TE) (t : TA) : TE := fun σ H Q => ta σ H fun x H1 => ∃ a dx fs, x = .ref a ∧ H1 a = some (.ins C dx fs) ∧ fs.lookup m = none ∧ t σ H1 fun vs H2 => sp (x :: vs) H2 Q (E σ)
/-- o.m(e, ..), where no repr is under way; what is let out goes by the slots -/
theorem pe_methW {X : Cx} {CX : CXT} {n : Nat} {C g : Addr} {m : Str} {fd : FuncData} {ps : List Str} {pr : Sp} {E : St → XK} {o e : Expr} {es : List Expr} {ta : TE} {t : TA} {apos pos : Pos} {pl : Sem Bool} (ob : PE X o ta) (c : Cls X.K C) (met : Meth X.K C m g) (F : FnG X.prog X.w X.K X.mg X.base CX n g fd ps pr) (quiet : X.A.guards = some []) (room : Room n X.A) (bn : Binds X.K fd ps []) (pass : ∀ σ, PassesAt CX X σ (E σ)) (args : PA X (e :: es) t)
    (st : starEach (e :: es) X.env = (false, eval e X.env) :: starEach es X.env := by rfl) (pn : (backTo pos (starEach es X.env)).any (·.1) = false := by rfl)
    (ht : eval (.Call (.Attribute o m apos) (e :: es) [] pos) X.env = (eval o X.env >>= fun ov => standAt apos.atName >>= fun _ => holding [ov] (getMethod ov m pl) >>= fun fb => callWith pos fb.1 fb.2 (backTo pos (starEach (e :: es) X.env)) (backToKw pos (keywordEach [] X.env))) := by rfl) :
    PE X (.Call (.Attribute o m apos) (e :: es) [] pos) (tMethW C m pr E ta t) := by
  constructor
  intro pins s0 σ H W J w
  refine PySem.W.methodCall_KW (pl := pl) (thn (ob.run pins s0 σ H _ J w) ?_) ht
  rintro _ s1 ⟨_, H1, J1, rel, a, dx, fs, rfl, ea, lk, w1⟩
  cases rel
  refine getmeth_ok J1 ea c met lk (PySem.W.callWith_K (first := [.ref a]) (h₀ := X.base) J.ok.mod.kin met.kp (thn (args.run pos pins s1 σ H1 _ J1 w1) ?_) st pn)
  rintro us s2 ⟨as, H2, J2, rv, w2⟩
  have all : Vals (.ref a :: as) (.ref a :: us) := .cons rfl rv
  have many : ((Value.ref a :: us) ++ []).length = ps.length := by
    rw [List.append_nil]
    exact all.length.symm.trans (F.len _ _ _ _ w2)
  have bound := bn s2 (.ref a :: us) J2.kIn many
  rw [List.append_nil] at bound
  have run := F.run X.A X.stack s2 H2 ⟨.ref a :: us, []⟩ (.ref a :: us) (.ref a :: as) W (E σ) quiet room J2.env0 bound all w2
  refine ⟨J2.kIn, wpAny_call (codeAny_mono run ?_)⟩
  rintro (er | fl) s3 z
  · exact pass σ pins H2 s2 er s3 J2 z
  · cases fl with
    | ret u => exact J2.after z
    | _ => exact z.elim
def tMethX (C : Addr) (m : Str) (sp : Sp) (E : XK) (ta : TE) (t : TA) : TE := fun σ H Q => ta σ H fun x H1 => ∃ a dx fs, x = .ref a ∧ H1 a = some (.ins C dx fs) ∧ fs.lookup m = none ∧ t σ H1 fun vs H2 => sp (x :: vs) H2 Q E
/-- o.m(e, ..), where no repr is under way; it may raise -/
theorem pe_methX {X : Cx} {CX : CXT} {n : Nat} {C g : Addr} {m : Str} {fd : FuncData} {ps : List Str} {pr : Sp} {E : XK} {o e : Expr} {es : List Expr} {ta : TE} {t : TA} {apos pos : Pos} {pl : Sem Bool} (ob : PE X o ta) (c : Cls X.K C) (met : Meth X.K C m g) (F : FnG X.prog X.w X.K X.mg X.base CX n g fd ps pr) (quiet : X.A.guards = some []) (room : Room n X.A) (bn : Binds X.K fd ps []) (pass : Passes CX X E) (args : PA X (e :: es) t)
    (st : starEach (e :: es) X.env = (false, eval e X.env) :: starEach es X.env := by rfl) (pn : (backTo pos (starEach es X.env)).any (·.1) = false := by rfl)
    (ht : eval (.Call (.Attribute o m apos) (e :: es) [] pos) X.env = (eval o X.env >>= fun ov => standAt apos.atName >>= fun _ => holding [ov] (getMethod ov m pl) >>= fun fb => callWith pos fb.1 fb.2 (backTo pos (starEach (e :: es) X.env)) (backToKw pos (keywordEach [] X.env))) := by rfl) :
    PE X (.Call (.Attribute o m apos) (e :: es) [] pos) (tMethX C m pr E ta t) := by
  constructor
  intro pins s0 σ H W J w
  refine PySem.W.methodCall_KW (pl := pl) (thn (ob.run pins s0 σ H _ J w) ?_) ht
  rintro _ s1 ⟨_, H1, J1, rel, a, dx, fs, rfl, ea, lk, w1⟩
  cases rel
  refine getmeth_ok J1 ea c met lk (PySem.W.callWith_K (first := [.ref a]) (h₀ := X.base) J.ok.mod.kin met.kp (thn (args.run pos pins s1 σ H1 _ J1 w1) ?_) st pn)
  rintro us s2 ⟨as, H2, J2, rv, w2⟩
  exact ⟨J2.kIn, run_fnG (vs := .ref a :: as) (us := .ref a :: us) F quiet room bn .nil pass J2 (.cons rfl rv) (by rw [List.append_nil]; exact w2)⟩
/-- o.m(e, ..), where no repr is under way; with no defaults -/
theorem pe_methG0 {X : Cx} {CX : CXT} {n : Nat} {C g : Addr} {m : Str} {fd : FuncData} {ps : List Str} {pr : Sp} {E : XK} {o e : Expr} {es : List Expr} {ta : TE} {t : TA} {apos pos : Pos} {pl : Sem Bool} (ob : PE X o ta) (c : Cls X.K C) (met : Meth X.K C m g) (F : FnG X.prog X.w X.K X.mg X.base CX n g fd ps pr) (quiet : X.A.guards = some []) (room : Room n X.A) (bn : Binds X.K fd ps []) (pass : Passes CX X E) (args : PA X (e :: es) t)
    (st : starEach (e :: es) X.env = (false, eval e X.env) :: starEach es X.env := by rfl) (pn : (backTo pos (starEach es X.env)).any (·.1) = false := by rfl)
    (ht : eval (.Call (.Attribute o m apos) (e :: es) [] pos) X.env = (eval o X.env >>= fun ov => standAt apos.atName >>= fun _ => holding [ov] (getMethod ov m pl) >>= fun fb => callWith pos fb.1 fb.2 (backTo pos (starEach (e :: es) X.env)) (backToKw pos (keywordEach [] X.env))) := by rfl) :
    PE X (.Call (.Attribute o m apos) (e :: es) [] pos) (tMeth C m pr [] E ta t) := by
  constructor
  intro pins s0 σ H W J w
  refine PySem.W.methodCall_KW (pl := pl) (thn (ob.run pins s0 σ H _ J w) ?_) ht
  rintro _ s1 ⟨_, H1, J1, rel, a, dx, fs, rfl, ea, lk, w1⟩
  cases rel
  refine getmeth_ok J1 ea c met lk (PySem.W.callWith_K (first := [.ref a]) (h₀ := X.base) J.ok.mod.kin met.kp (thn (args.run pos pins s1 σ H1 _ J1 w1) ?_) st pn)
  rintro us s2 ⟨as, H2, J2, rv, w2⟩
  exact ⟨J2.kIn, run_fnG (vs := .ref a :: as) (us := .ref a :: us) F quiet room bn .nil pass J2 (.cons rfl rv) w2⟩
end L2

/-! xs[-2::-1], xs a list of at least one item: all but the last, reversed -/
namespace L2
open PySem PySem.Spec PyProof.Rows
section
variable {X : Cx}
def tBack2 (K : PySem.W.Frag) (te : TE) : TE := fun σ H Q => te σ H fun x H1 => ∃ a xs, x = .ref a ∧ SqL K H1 a xs ∧ xs ≠ [] ∧ ∀ p, H1 p = none → Q (.ref p) (upd H1 p (.lst xs.dropLast.reverse))
theorem pick_back2 (items : Array Value) (h : 0 < items.size) : slicePick items (some (-2)) none (some (-1)) = items.toList.dropLast.reverse.toArray := by
  have where_ : sliceBounds (some (-2)) none (some (-1)) items.size = ((((items.size - 1 : Nat) : Int) - 1), -1, -1) := by
    simp only [sliceBounds]
    simp
    omega
  have front := pick_run items 0 (items.size - 1)
  rw [show (List.range (items.size - 1)).map (0 + ·) = List.range (items.size - 1) from by simp, List.drop_zero] at front
  unfold slicePick
  rw [where_]
  change ((sliceRange (((items.size - 1 : Nat) : Int) - 1) (-1) (-1)).filterMap (items[·]?)).toArray = _
  rw [PySem.W.krv_sliceRange, PySem.W.krv_range, List.filterMap_reverse, front, List.dropLast_eq_take, Array.length_toList]
theorem vals_init {xs : List V} {its : List Value} (r : Vals xs its) : Vals xs.dropLast its.dropLast := by
  simpa [List.dropLast_eq_take, r.length] using r.take (its.length - 1)
theorem pe_back2 {e : Expr} {te : TE} {k k2 : Nat} {p1 p2 p3 p4 p5 pos : Pos} (he : PE X e te) : PE X (.Subscript e (.Slice (some (.UnaryOp .USub (.Constant (.int 2) k2 p4) p5)) none (some (.UnaryOp .USub (.Constant (.int 1) k p1) p2)) p3) pos) (tBack2 X.K te) := by
  constructor
  intro pins s0 σ H W J w
  have minus : ∀ (m : Int) (k : Nat) (p q : Pos), PO X (some (.UnaryOp .USub (.Constant (.int m) k p) q)) (tPart (tUn (rU fun i => .int (-i)) (tC (.int m)))) := fun _ _ _ _ => po_some (pe_un un_neg pe_int)
  refine Subscript_ (thn (he.run pins s0 σ H _ J w) ?_)
  rintro _ s1 ⟨_, H1, J1, rel, a, xs, rfl, lst, some_, w1⟩
  cases rel
  refine wpAny_Slice (thn ((minus 2 k2 p4 p5).run pins s1 σ H1 (fun o G => o = some (-2) ∧ G = H1) J1 ⟨2, rfl, -2, rfl, rfl, rfl⟩) ?_)
  rintro low s2 ⟨_, _, J2, n2, rfl, rfl⟩
  refine thn (po_none.run pins s2 σ _ (fun o G => o = none ∧ G = _) J2 ⟨rfl, rfl⟩) ?_
  rintro up s3 ⟨_, _, J3, n3, rfl, rfl⟩
  refine thn ((minus 1 k p1 p2).run pins s3 σ _ (fun o G => o = some (-1) ∧ G = _) J3 ⟨1, rfl, -1, rfl, rfl, rfl⟩) ?_
  rintro step s4 ⟨_, _, J4, part, rfl, rfl⟩
  have J5 := J4.kept (t' := s4.toks) (h' := s4.heap.push { cls := .type "slice", data := .fields #[low, up, step] }) fun _ _ z => Heap.get?_push_of_some _ z
  obtain ⟨its, vals, isL, line⟩ := J5.list lst
  have many : its.toArray.size ≤ sizeLine := by
    rw [List.size_toArray, ← vals.length]
    exact line
  have any_ : 0 < its.toArray.size := by
    rw [List.size_toArray, ← vals.length]
    exact List.length_pos_iff.mpr some_
  change wpAny (model X.prog X.w) X.A (subscriptTail e (.Slice (some (.UnaryOp .USub (.Constant (.int 2) k2 p4) p5)) none (some (.UnaryOp .USub (.Constant (.int 1) k p1) p2)) p3) (.ref a) (.ref s4.heap.objs.size)) (EP X pins σ W) X.xe { s4 with heap := s4.heap.push { cls := .type "slice", data := .fields #[low, up, step] } }
  refine tail_any (ops := [.ref a, .ref s4.heap.objs.size]) isL.isList.typeIs (PySem.slot_list_getitem.lookup) (wpAny_getItem_list_slice isL.isList (Heap.IsSliceOf.new _ low up step) n2 n3 part (by decide) ?_ many) (by with_unfolding_all rfl)
  have short : xs.dropLast.reverse.length ≤ sizeLine := by
    rw [List.length_reverse, List.length_dropLast]
    omega
  have laid := J5.laid (t' := s4.toks) (o := .lst xs.dropLast.reverse) (fun _ _ z => Heap.get?_push_of_some _ z) (Nat.le_refl _) ⟨short, _, 0, (vals_init vals).reverse, Heap.get?_push_size _ rfl⟩
  rw [pick_back2 _ any_]
  exact ⟨.ref _, _, laid, rfl, w1 _ (J5.hok.fresh (Nat.le_refl _))⟩
end
end L2

/-! sorted(xs), xs a list of plain data of any depth (numbers, texts, tuples of them) -/
namespace L2
open PySem PySem.Spec PyProof.Rows
section
variable {X : Cx}
theorem eachOf {β : Type} {val : β → V} : ∀ {bs : List β} {us : List Value}, Vals (bs.map val) us → PySem.W.EachIs (fun u b => RelV (val b) u) us bs
  | [], _, r => by
    cases r
    exact .nil
  | _ :: _, _, r => by
    cases r with
    | cons h t => exact .cons h (eachOf t)
theorem ofEach {β : Type} {val : β → V} : ∀ {bs : List β} {us : List Value}, PySem.W.EachIs (fun u b => RelV (val b) u) us bs → Vals (bs.map val) us
  | [], _, r => by
    cases r
    exact .nil
  | _ :: _, _, r => by
    cases r with
    | cons h t => exact .cons h (ofEach t)
theorem eachReads {pins : List (Addr × Obj)} {σ : St} {H : Hp} {s : Shared} (I : Inv X pins σ H s) {β : Type} {val : β → V} {enc : β → PyData} : ∀ {bs : List β} {us : List Value}, (∀ b ∈ bs, Dp X.K H (val b) (enc b)) → Vals (bs.map val) us →
    PySem.W.EachIs (fun u b => ∃ as, Reads s.heap u (enc b) as) us bs
  | [], _, _, r => by
    cases r
    exact .nil
  | b :: bs, _, d, r => by
    cases r with
    | cons h t => exact .cons (Dp.reads I (enc b) (val b) _ (d b List.mem_cons_self) h) (eachReads I (fun c m => d c (List.mem_cons_of_mem _ m)) t)
/-- how sorted answers: the items bs stand as val and read as enc; the new list holds them in order, equal ones as they stood -/
def rSortB (K : PySem.W.Frag) : List V → Hp → VK → Prop := fun vs H Q => ∃ (a : Addr) (β : Type) (val : β → V) (enc : β → PyData) (bs : List β), vs = [V.ref a] ∧ SqL K H a (bs.map val) ∧ (∀ b ∈ bs, Dp K H (val b) (enc b)) ∧
  (∀ b ∈ bs, (enc b).depth ≤ 60) ∧ PySem.W.AllAlike (bs.map enc) ∧ PySem.W.Sortable (bs.map enc) ∧ ∀ p, H p = none → Q (.ref p) (upd H p (.lst ((bs.mergeSort (PySem.W.dataLe false enc)).map val)))
theorem cr_sortB (room : X.A.units + 70 < cLine) : CallR X (.builtin "sorted") (rSortB X.K) := by
  intro pins s σ H vs us Q I r h
  obtain ⟨a, β, val, enc, bs, rfl, isL, data, flat, alk, ord, q⟩ := h
  obtain ⟨its, rv, hl, hz⟩ := I.list isL
  rw [Vals.ref1 r]
  rw [List.length_map] at hz
  refine PySem.W.sorted_data (R := fun u b => RelV (val b) u) (enc := enc) (bs := bs) hl.isList (eachOf rv) (eachReads I data rv) alk ord hz (fun b m => ?_) fun out many each => ?_
  · have := flat b m
    omega
  have gone : H (s.heap.objs.size + 1) = none := I.hok.fresh (Nat.le_succ _)
  obtain ⟨n, at_⟩ := sortedAll_at s.heap its out.toArray
  have vals := ofEach each
  have few : ((bs.mergeSort (PySem.W.dataLe false enc)).map val).length ≤ sizeLine := by
    rw [List.length_map, List.length_mergeSort]
    exact hz
  have J := I.laid (a := s.heap.objs.size + 1) (o := .lst ((bs.mergeSort (PySem.W.dataLe false enc)).map val)) (h' := sortedAll s.heap its out.toArray) (t' := s.toks) (fun b o e => sortedAll_old e) (Nat.le_succ _) ⟨few, out, n, vals, at_⟩
  exact ⟨V.ref (s.heap.objs.size + 1), _, J, rfl, q _ gone⟩
end

/-! {k: v} with a tuple for its one key -/
section
variable {X : Cx}
/-- the new dict stands empty while its pair is made -/
def tOneT (tk tv : TE) : TE := fun σ H Q => ∀ p, H p = none → tPairs [(tk, tv)] σ (upd H p (.dT [])) fun ps H2 => H2 p = some (.dT []) ∧ ∃ (b : Addr) (k : List Key) (y : V), ps = [(.ref b, y)] ∧ H2 b = some (.tup (k.map kV)) ∧ Q (.ref p) (upd H2 p (.dT [(k, y)]))
theorem pe_oneT {pos : Pos} {key value : Expr} {tk tv : TE} (room : X.A.units + 1 < cLine) (hk : PE X key tk) (hv : PE X value tv) : PE X (.Dict [some key] [value] pos) (tOneT tk tv) := by
  refine ⟨fun pins s σ H Q I q => ?_⟩
  have gone := I.hok.fresh (Nat.le_refl s.heap.objs.size)
  have I1 := I.laid (a := s.heap.objs.size) (o := .dT []) (h' := s.heap.push { cls := .type "dict", data := .dict #[] }) (t' := s.toks) (fun _ _ q => Heap.get?_push_of_some _ q) (Nat.le_refl _) (dt_empty s.heap I.big)
  have shape := zip_pairTrees [some key] [value] X.env pos rfl rfl
  have one := pairTrees_length [some key] [value] X.env pos rfl rfl
  have run := (pps_cons (pos := pos) hk hv pps_nil).run pins _ σ _ _ I1 (q _ gone)
  generalize pairTrees [some key] [value] X.env pos = trees at shape one run
  rw [arm_eval_Dict, shape, dictDisplay_pairs trees (fun z => by rw [z] at one; cases one) (by rw [one]; exact Nat.le_of_ble_eq_true rfl)]
  refine wpAny_bind (wpAny_standAt (wpAny_bind (wpAny_subDictH (knd := tupleKind (mixKind X.prog X.w)) (Q := fun d s' => wpAny (model X.prog X.w) X.A (pure (Value.ref d)) (EP X pins σ Q) X.xe s') (show X.A.units < cLine by omega) (by rw [one]; exact Nat.le_of_ble_eq_true rfl) (thn run ?_))))
  rintro ws s2 ⟨ps, H2, I2, rel, e, b, k, y, rfl, eb, q2⟩
  cases rel with
  | @cons _ w _ _ h1 h2 =>
    cases h2
    obtain ⟨wk, wv⟩ := w
    obtain ⟨rk, rv⟩ := h1
    obtain rfl : wk = Value.ref b := rk
    obtain ⟨z, hd, xs, rel, dd⟩ := dt_of I2.hok e
    cases rel
    refine ⟨[(k, b, wv)], ⟨rfl, rfl, key_of I2.hok eb, True.intro⟩, dd, fun h' tk' dd' hs => wpAny_pure ⟨.ref s.heap.objs.size, _, ?_, rfl, q2⟩⟩
    obtain ⟨o, es, ep, ho, h3, h4, h5, _, h6⟩ := dd'
    refine d_write I2 (by rw [e]; exact True.intro) hs ⟨o, ho⟩ ⟨by rw [sizeLine_eq]; exact Nat.le_of_ble_eq_true rfl, hd, [(k, b, wv)], .cons ⟨rfl, ?_, rv⟩ .nil, o, es, ep, ho, h3, h4, h5, h6⟩
    rw [upd_ne (ne_of eb e (fun z => nomatch z))]
    exact eb
end
end L2

/-! The texts of polynomials, in plain words. -/
namespace TXM
open PySem PySem.Builtin PySem.Builtin.Str PyProof.Rows
def tx (i : Int) : Str := Str.ofString (toString i)
theorem cps_app (a b : Str) : (a ++ b).cps.toList = a.cps.toList ++ b.cps.toList := by
  show (a.cps ++ b.cps).toList = _
  simp
theorem str_ext {a b : Str} (h : a.cps.toList = b.cps.toList) : a = b := by
  obtain ⟨x⟩ := a
  obtain ⟨y⟩ := b
  congr 1
  exact Array.toList_inj.mp h
theorem app_assoc (a b c : Str) : a ++ b ++ c = a ++ (b ++ c) := str_ext (by simp only [cps_app, List.append_assoc])
theorem empty_app (a : Str) : Str.empty ++ a = a := str_ext (by rw [cps_app]; rfl)
theorem app_empty (a : Str) : a ++ Str.empty = a := str_ext (by rw [cps_app]; exact List.append_nil _)
/-- signs that are seen -/
def Ink (x : Str) : Prop := ∀ c ∈ x.cps.toList, 33 ≤ c ∧ c < 127
def Low (x : Str) : Prop := ∀ c ∈ x.cps.toList, c < 127
theorem Ink.low {x : Str} (h : Ink x) : Low x := fun c hc => (h c hc).2
theorem Ink.app {x y : Str} (h : Ink x) (k : Ink y) : Ink (x ++ y) := fun c hc => by
  rw [cps_app] at hc
  exact (List.mem_append.mp hc).elim (h c) (k c)
theorem Low.app {x y : Str} (h : Low x) (k : Low y) : Low (x ++ y) := fun c hc => by
  rw [cps_app] at hc
  exact (List.mem_append.mp hc).elim (h c) (k c)
theorem ink_tx (i : Int) : Ink (tx i) := fun c hc => by
  by_cases h : c ≠ 45 ∧ (c < 48 ∨ 57 < c)
  · exact absurd hc (int_text_free' c h i)
  · omega
theorem Low.repr {x : Str} (h : Low x) : (reprText x).length ≤ 10 * x.length + 2 := StrLaws.reprText_len x fun c hc => by
  have := h c hc
  have e : (16 : Nat) ^ 8 = 4294967296 := by decide
  omega
theorem tx_ne (i : Int) : (tx i).cps.toList ≠ [] := by
  intro h
  unfold tx at h
  rw [signs_ofString] at h
  have h2 : (toString i).toList = [] := List.map_eq_nil_iff.mp h
  cases i with
  | ofNat n =>
    have e : (toString (Int.ofNat n)) = n.repr := rfl
    rw [e, Nat.toList_repr] at h2
    exact Nat.toDigits_ne_nil h2
  | negSucc n =>
    have e : (toString (Int.negSucc n)) = "-" ++ (n + 1).repr := rfl
    rw [e, String.toList_append] at h2
    simp at h2
/-! ### strip -/
theorem takeW {p : Nat → Bool} : ∀ (s m : List Nat), (∀ c ∈ s, p c = true) → (∀ c, m.head? = some c → p c = false) → (s ++ m).takeWhile p = s
  | [], m, _, hm => by
    cases m with
    | nil => rfl
    | cons c l => simp [List.takeWhile_cons, hm c rfl]
  | a :: s, m, hs, hm => by
    rw [List.cons_append, List.takeWhile_cons, if_pos (hs a (by simp)), takeW s m (fun c hc => hs c (by simp [hc])) hm]
theorem strip_mid {x : Str} {s1 m s2 : List Nat} (e : x.cps.toList = s1 ++ m ++ s2) (h1 : ∀ c ∈ s1, Unicode.isSpace c = true) (h2 : ∀ c ∈ s2, Unicode.isSpace c = true) (hh : ∀ c, m.head? = some c → Unicode.isSpace c = false) (hl : ∀ c, m.getLast? = some c → Unicode.isSpace c = false) (hm : m ≠ []) :
    Txt.strip x = ⟨m.toArray⟩ := by
  unfold Txt.strip
  rw [stripBy_eq]
  have hx : x.length = s1.length + m.length + s2.length := by
    show x.cps.size = _
    rw [← Array.length_toList, e]
    simp only [List.length_append]
  have lo : stripLo Unicode.isSpace true x = s1.length := by
    simp only [stripLo, if_true]
    rw [e, List.append_assoc, takeW s1 (m ++ s2) h1 (fun c hc => hh c (by
      cases m with
      | nil => exact absurd rfl hm
      | cons a l => exact hc))]
  have hi : stripHi Unicode.isSpace true x s1.length = s1.length + m.length := by
    simp only [stripHi, if_true]
    rw [e, List.append_assoc, List.drop_left, List.reverse_append, takeW s2.reverse m.reverse (fun c hc => h2 c (List.mem_reverse.mp hc)) (fun c hc => hl c (by rw [List.head?_reverse] at hc; exact hc)), List.length_reverse, hx]
    omega
  rw [lo, hi]
  refine str_ext ?_
  show (x.cps.extract s1.length (s1.length + m.length)).toList = m
  rw [Array.toList_extract, e]
  show ((s1 ++ m ++ s2).extract s1.length (s1.length + m.length)) = m
  rw [List.extract_eq_drop_take, List.append_assoc, List.drop_left, show s1.length + m.length - s1.length = m.length by omega, List.take_left]
/-! ### terms -/
def powT (e : Nat) : Str := if e = 1 then ("d" : Str) else ("d^" : Str) ++ tx e
def pieceT (c : Int) (e : Nat) : Str := if e = 0 then tx c.natAbs else if c.natAbs = 1 then powT e else tx c.natAbs ++ (" " : Str) ++ powT e
def frontT (first : Bool) (c : Int) : Str := if first then (if c < 0 then ("-" : Str) else ("" : Str)) else (if c < 0 then (" - " : Str) else (" + " : Str))
def goT (s : Str) : List (Int × Nat) → Str
  | [] => s
  | (c, e) :: l => goT (s ++ frontT (decide (s = Str.empty)) c ++ pieceT c e) l
/-- the terms that are not 0, the lowest first -/
def terms (r : List Int) : List (Int × Nat) := r.zipIdx.filter fun p => decide (p.1 ≠ 0)
def textT (r : List Int) : Str := if terms r = [] then ("0" : Str) else goT Str.empty (terms r).reverse
theorem goT_snoc : ∀ (l : List (Int × Nat)) (s : Str) (c : Int) (e : Nat), goT s (l ++ [(c, e)]) = goT s l ++ frontT (decide (goT s l = Str.empty)) c ++ pieceT c e
  | [], s, c, e => rfl
  | (a, b) :: l, s, c, e => by
    show goT (s ++ frontT (decide (s = Str.empty)) a ++ pieceT a b) (l ++ [(c, e)]) = _
    rw [goT_snoc l]
    rfl
theorem ink_d : Ink ("d" : Str) := by unfold Ink; decide +kernel
theorem ink_dh : Ink ("d^" : Str) := by unfold Ink; decide +kernel
theorem ink_pow (e : Nat) : Ink (powT e) := by
  unfold powT
  split
  · exact ink_d
  · exact ink_dh.app (ink_tx _)
theorem d_cps : ("d" : Str).cps.toList = [100] := by decide +kernel
theorem dh_cps : ("d^" : Str).cps.toList = [100, 94] := by decide +kernel
theorem sp_cps : (" " : Str).cps.toList = [32] := by decide +kernel
theorem e_cps : ("" : Str).cps.toList = [] := by decide +kernel
theorem pow_ne (e : Nat) : (powT e).cps.toList ≠ [] := by
  unfold powT
  split
  · rw [d_cps]; simp
  · rw [cps_app, dh_cps]; simp
theorem piece_ne (c : Int) (e : Nat) : (pieceT c e).cps.toList ≠ [] := by
  unfold pieceT
  split
  · exact tx_ne _
  · split
    · exact pow_ne _
    · rw [cps_app, cps_app, sp_cps]; simp
theorem low_lit_sp : Low (" " : Str) := by unfold Low; decide +kernel
theorem low_piece (c : Int) (e : Nat) : Low (pieceT c e) := by
  unfold pieceT
  split
  · exact (ink_tx _).low
  · split
    · exact (ink_pow _).low
    · exact ((ink_tx _).low.app low_lit_sp).app (ink_pow _).low
theorem low_front (b : Bool) (c : Int) : Low (frontT b c) := by
  unfold frontT
  split <;> split <;> (unfold Low; decide +kernel)
theorem low_goT : ∀ (l : List (Int × Nat)) (s : Str), Low s → Low (goT s l)
  | [], s, h => h
  | (c, e) :: l, s, h => low_goT l _ ((h.app (low_front _ _)).app (low_piece _ _))
theorem low_empty : Low Str.empty := fun c hc => by cases hc
theorem low_textT (r : List Int) : Low (textT r) := by
  unfold textT
  split
  · unfold Low; decide +kernel
  · exact low_goT _ _ low_empty
theorem app_ne {s t : Str} (h : t.cps.toList ≠ []) : s ++ t ≠ Str.empty := fun e => by
  have h2 := congrArg (fun x : Str => x.cps.toList) e
  simp only [cps_app] at h2
  have h3 : s.cps.toList ++ t.cps.toList = [] := h2
  exact h (List.append_eq_nil_iff.mp h3).2
theorem goT_ne : ∀ (l : List (Int × Nat)) (s : Str), s ≠ Str.empty → goT s l ≠ Str.empty
  | [], s, h => h
  | (c, e) :: l, s, h => goT_ne l _ (app_ne (piece_ne c e))
theorem goT_empty (l : List (Int × Nat)) : goT Str.empty l = Str.empty ↔ l = [] := by
  cases l with
  | nil => exact ⟨fun _ => rfl, fun _ => rfl⟩
  | cons p l =>
    obtain ⟨c, e⟩ := p
    refine ⟨fun h => absurd h (goT_ne l _ (app_ne (piece_ne c e))), fun h => by cases h⟩
/-! ### the word of the law -/
theorem tx_head {i : Int} : ∀ c, (tx i).cps.toList.head? = some c → Unicode.isSpace c = false := fun c hc => by
  have := ink_tx i c (List.mem_of_mem_head? hc)
  exact PySem.W.KXs.no_space c this.2 this.1
theorem ink_head {x : Str} (h : Ink x) : ∀ c, x.cps.toList.head? = some c → Unicode.isSpace c = false := fun c hc => by
  have := h c (List.mem_of_mem_head? hc)
  exact PySem.W.KXs.no_space c this.2 this.1
theorem ink_last {x : Str} (h : Ink x) : ∀ c, x.cps.toList.getLast? = some c → Unicode.isSpace c = false := fun c hc => by
  have := h c (List.mem_of_getLast? hc)
  exact PySem.W.KXs.no_space c this.2 this.1
theorem sp_space : ∀ c ∈ ([32] : List Nat), Unicode.isSpace c = true := by decide +kernel
def nameT (k : Nat) : Str := (if k > 0 then ("d" : Str) else ("" : Str)) ++ (if k > 1 then ("^" : Str) ++ tx k else ("" : Str))
def wordT (c : Int) (k : Nat) : Str := (if c.natAbs = 1 ∧ k > 0 then ("" : Str) else tx c.natAbs) ++ (" " : Str) ++ nameT k
theorem name0 : nameT 0 = ("" : Str) := by decide +kernel
theorem name_pow {k : Nat} (h : k > 0) : nameT k = powT k := by
  unfold nameT powT
  rw [if_pos h]
  by_cases h1 : k = 1
  · subst h1
    decide +kernel
  · rw [if_pos (by omega), if_neg h1, ← app_assoc]
    congr 1
theorem strip_word (c : Int) (k : Nat) : Txt.strip (wordT c k) = pieceT c k := by
  unfold wordT pieceT
  by_cases h0 : k = 0
  · subst h0
    rw [if_neg (by omega), if_pos rfl, name0]
    rw [strip_mid (s1 := []) (m := (tx c.natAbs).cps.toList) (s2 := [32]) (by rw [cps_app, cps_app, sp_cps, e_cps]; simp) (fun c hc => by cases hc) sp_space (ink_head (ink_tx _)) (ink_last (ink_tx _)) (tx_ne _)]
  · rw [name_pow (by omega), if_neg h0]
    by_cases h1 : c.natAbs = 1
    · rw [if_pos ⟨h1, by omega⟩, if_pos h1]
      rw [strip_mid (s1 := [32]) (m := (powT k).cps.toList) (s2 := []) (by rw [cps_app, cps_app, sp_cps, e_cps]; simp) sp_space (fun c hc => by cases hc) (ink_head (ink_pow _)) (ink_last (ink_pow _)) (pow_ne _)]
    · rw [if_neg (fun z => h1 z.1), if_neg h1]
      rw [strip_mid (x := tx c.natAbs ++ (" " : Str) ++ powT k) (s1 := []) (m := (tx c.natAbs ++ (" " : Str) ++ powT k).cps.toList) (s2 := []) (by simp) (fun c hc => by cases hc) (fun c hc => by cases hc) (fun d hd => ?_) (fun d hd => ?_) ?_]
      · rw [cps_app]
        intro z
        exact pow_ne k (List.append_eq_nil_iff.mp z).2
      · refine ink_head (ink_tx c.natAbs) d ?_
        rw [cps_app, cps_app] at hd
        cases e : (tx c.natAbs).cps.toList with
        | nil => exact absurd e (tx_ne _)
        | cons a l => rw [e] at hd; exact hd
      · refine ink_last (ink_pow k) d ?_
        rw [cps_app] at hd
        cases e : (powT k).cps.toList with
        | nil => exact absurd e (pow_ne _)
        | cons a l =>
          rw [e, List.getLast?_append] at hd
          simp only [List.getLast?_cons] at hd ⊢
          simpa using hd
/-! ### joins of pieces -/
theorem join_fold : ∀ (l : List Str) (acc : Array Nat), (⟨l.foldl (fun acc p => acc ++ (Str.empty).cps ++ p.cps) acc⟩ : Str) = ⟨acc⟩ ++ l.foldr (· ++ ·) Str.empty
  | [], acc => (app_empty _).symm
  | a :: l, acc => by
    rw [List.foldl_cons, join_fold l, List.foldr_cons, ← app_assoc]
    congr 1
theorem join0 (l : List Str) : Txt.join Str.empty l = l.foldr (· ++ ·) Str.empty := by
  cases l with
  | nil => rfl
  | cons a l =>
    show (⟨l.foldl (fun acc p => acc ++ (Str.empty).cps ++ p.cps) a.cps⟩ : Str) = _
    rw [join_fold]
    rfl
theorem foldr_snoc : ∀ (l : List Str) (x : Str), (l ++ [x]).foldr (· ++ ·) Str.empty = l.foldr (· ++ ·) Str.empty ++ x
  | [], x => by show x ++ Str.empty = Str.empty ++ x; rw [app_empty, empty_app]
  | a :: l, x => by
    rw [List.cons_append, List.foldr_cons, List.foldr_cons, foldr_snoc l x, app_assoc]
theorem join_snoc (l : List Str) (x : Str) : Txt.join Str.empty (l ++ [x]) = Txt.join Str.empty l ++ x := by
  rw [join0, join0, foldr_snoc]
/-! ### lengths -/
theorem lit_len {x : Str} {n : Nat} (h : x.length = n) : x.length ≤ n := Nat.le_of_eq h
theorem front_len (b : Bool) (c : Int) : (frontT b c).length ≤ 3 := by
  unfold frontT
  split <;> split <;> decide +kernel
theorem pow_len {e : Nat} (h : (tx e).length ≤ 2000) : (powT e).length ≤ 2002 := by
  unfold powT
  split
  · exact Nat.le_trans (m := 1) (by decide +kernel) (by omega)
  · rw [strLen_append]
    have : (("d^" : Str)).length = 2 := by decide +kernel
    omega
theorem piece_len {c : Int} {e : Nat} (h : (tx e).length ≤ 2000) (k : (tx c.natAbs).length ≤ 2000) : (pieceT c e).length ≤ 4003 := by
  unfold pieceT
  have hp := pow_len h
  split
  · omega
  · split
    · omega
    · rw [strLen_append, strLen_append]
      have : ((" " : Str)).length = 1 := by decide +kernel
      omega
theorem goT_len : ∀ (l : List (Int × Nat)) (s : Str), (∀ p ∈ l, (tx p.2).length ≤ 2000 ∧ (tx p.1.natAbs).length ≤ 2000) → (goT s l).length ≤ s.length + 4006 * l.length
  | [], s, _ => by show s.length ≤ _; omega
  | (c, e) :: l, s, h => by
    have ih := goT_len l (s ++ frontT (decide (s = Str.empty)) c ++ pieceT c e) fun p hp => h p (by simp [hp])
    have h1 := front_len (decide (s = Str.empty)) c
    have h2 : (pieceT c e).length ≤ 4003 := piece_len (h (c, e) (by simp)).1 (h (c, e) (by simp)).2
    rw [strLen_append, strLen_append] at ih
    show (goT (s ++ frontT (decide (s = Str.empty)) c ++ pieceT c e) l).length ≤ _
    rw [List.length_cons]
    omega
end TXM

namespace S14
open PySem L2
def top (i : Nat) : Stmt := PySem.Challenge.pw_slotsums_k14_error_classes.main.body.getD i (.Pass ⟨0, 0, 0, 0⟩)
abbrev sPot : Stmt := top 50
abbrev sDraw : Stmt := top 51
abbrev sValue : Stmt := top 52
abbrev sFirst : Stmt := top 53
abbrev sSecond : Stmt := top 54
abbrev sBases : Stmt := top 55
abbrev sMade : Stmt := top 56
abbrev sNamed : Stmt := top 57
abbrev sFields : Stmt := top 58
abbrev sDue : Stmt := top 59
abbrev sRight : Stmt := top 60
abbrev sLaw : Stmt := top 61
abbrev sI0 : Stmt := inClass (top 2) 0
abbrev sI1 : Stmt := inClass (top 3) 0
abbrev sI2 : Stmt := inClass (top 4) 0
abbrev sI3 : Stmt := inClass (top 5) 0
abbrev sI4 : Stmt := inClass (top 6) 0
abbrev sI5 : Stmt := inClass (top 7) 0
abbrev sI6 : Stmt := inClass (top 8) 0
abbrev sI7 : Stmt := inClass (top 9) 0
abbrev sI8 : Stmt := inClass (top 10) 0
abbrev sI9 : Stmt := inClass (top 11) 0
abbrev sI10 : Stmt := inClass (top 12) 0
abbrev sI11 : Stmt := inClass (top 13) 0
abbrev sI12 : Stmt := inClass (top 14) 0
abbrev sI13 : Stmt := inClass (top 15) 0
abbrev sI14 : Stmt := inClass (top 16) 0
abbrev sI15 : Stmt := inClass (top 17) 0
abbrev sI16 : Stmt := inClass (top 18) 0
abbrev sI17 : Stmt := inClass (top 19) 0
abbrev sI18 : Stmt := inClass (top 20) 0
abbrev sI19 : Stmt := inClass (top 21) 0
abbrev sI20 : Stmt := inClass (top 22) 0
abbrev sI21 : Stmt := inClass (top 23) 0
abbrev sI22 : Stmt := inClass (top 24) 0
abbrev sI23 : Stmt := inClass (top 25) 0
abbrev sI24 : Stmt := inClass (top 26) 0
abbrev sI25 : Stmt := inClass (top 27) 0
abbrev sI26 : Stmt := inClass (top 28) 0
abbrev sI27 : Stmt := inClass (top 29) 0
abbrev sI28 : Stmt := inClass (top 30) 0
abbrev sI29 : Stmt := inClass (top 31) 0
abbrev sI30 : Stmt := inClass (top 32) 0
abbrev sI31 : Stmt := inClass (top 33) 0
abbrev sI32 : Stmt := inClass (top 34) 0
abbrev sI33 : Stmt := inClass (top 35) 0
abbrev sI34 : Stmt := inClass (top 36) 0
abbrev sI35 : Stmt := inClass (top 37) 0
abbrev sI36 : Stmt := inClass (top 38) 0
abbrev sI37 : Stmt := inClass (top 39) 0
abbrev sI38 : Stmt := inClass (top 40) 0
abbrev sI39 : Stmt := inClass (top 41) 0
abbrev sI40 : Stmt := inClass (top 43) 0
abbrev sI41 : Stmt := inClass (top 44) 0
abbrev sI42 : Stmt := inClass (top 46) 0
abbrev sI43 : Stmt := inClass (top 47) 0
abbrev sI44 : Stmt := inClass (top 48) 0

/-! ### heaps -/
theorem sNew {H H1 : Hp} {p : Addr} {o : HO} (s : Same H H1) (n : H1 p = none) : Same H (upd H1 p o) := fun b x e => by
  have h := s b x e
  rw [upd_ne (ne_of_none h n)]
  exact h
theorem sPut {H H1 : Hp} {p : Addr} {o : HO} (s : Same H H1) (n : H p = none) : Same H (upd H1 p o) := fun b x e => by
  rw [upd_ne (ne_of_none e n)]
  exact s b x e
theorem old {H : Hp} {p q : Addr} {o x : HO} (h : H q = some x) (n : H p = none) : upd H p o q = some x := by
  rw [upd_ne (ne_of_none h n)]; exact h
theorem sTup {K : PySem.W.Frag} {H H' : Hp} {a : Addr} {xs : List V} (e : Same H H') (h : SqT K H a xs) : SqT K H' a xs := by
  rcases h with (h | ⟨o, h⟩) | h
  · exact .inl (.inl (e _ _ h))
  · exact .inl (.inr ⟨o, e _ _ h⟩)
  · exact .inr h
/-- all but the object at x is as it was -/
def SameX (x : Addr) (H H' : Hp) : Prop := ∀ b o, b ≠ x → H b = some o → H' b = some o
theorem lt_line {n : Nat} (h : n ≤ 2000000) : n < sizeLine := Nat.lt_of_le_of_lt h (by decide)
theorem le_line {n : Nat} (h : n ≤ 2000000) : n ≤ sizeLine := Nat.le_trans h (by decide)
theorem map_get {α : Type} {l : List α} {f : α → V} {i : Nat} {y : V} (h : (l.map f)[i]? = some y) : ∃ a, l[i]? = some a ∧ y = f a := by
  rw [List.getElem?_map] at h
  cases e : l[i]? with
  | none => rw [e] at h; cases h
  | some a => rw [e] at h; exact ⟨a, rfl, (Option.some.inj h).symm⟩
theorem take_succ_map {α : Type} {l : List α} {f : α → V} {i : Nat} {a : α} (h : l[i]? = some a) : (l.take i).map f ++ [f a] = (l.take (i + 1)).map f := by
  rw [List.take_add_one, h]; simp


/-! ### comprehensions that only make things -/
section
variable {J : It} {n : Nat} {G : Hp → Prop} {Y : Nat → Hp → V → Hp → Prop}
theorem Same.trans {H H1 H2 : Hp} (a : Same H H1) (b : Same H1 H2) : Same H H2 := fun c o e => b c o (a c o e)
/-- what stands behind i turns, f saying what each turn keeps -/
def kept (f : Nat → Option V) (i : Nat) : List V := (List.range i).filterMap f
theorem kept_succ (f : Nat → Option V) (i : Nat) : kept f (i + 1) = kept f i ++ (f i).toList := by
  unfold kept
  rw [List.range_succ, List.filterMap_append]
  cases e : f i with
  | none => rw [List.filterMap_cons_none e] <;> rfl
  | some v => rw [List.filterMap_cons_some e] <;> rfl
theorem kept_len (f : Nat → Option V) (i : Nat) : (kept f i).length ≤ i := by
  unfold kept
  have := List.length_filterMap_le f (List.range i)
  rwa [List.length_range] at this
/-- a comprehension whose parts make new things and change none -/
theorem lc_new (w : Walk J n G Y) {g : TG} {tt : TT} {te : TE} {vs : List Nat} {σ : St} {H1 : Hp} {D : Addr} {Qd : Hp → Prop} (f : Nat → Option V) (few : n < sizeLine) (new : H1 D = none) (hG : ∀ H, Same H1 H → G H)
    (hs : ∀ i x H H', i < n → Same H1 H → Y i H x H' → ∀ (Kt : VK) (Kn : Hp → Prop), (∀ y H4, f i = some y → Same H H4 → Kt y H4) → (f i = none → ∀ H4, Same H H4 → Kn H4) →
      g x (wipe σ vs) H' fun σ2 H2 => wipe σ2 vs = wipe σ vs ∧ tt σ2 H2 fun b H3 => if b = true then te σ2 H3 Kt else Kn H3)
    (hd : ∀ H, Same H1 H → H D = some (.lst (kept f n)) → Qd H) :
    ∃ Z : Nat → Nat → Hp → Prop, (∃ k, Z 0 k (upd H1 D (.lst []))) ∧ ∀ j k H, Z j k H →
      (J.stop j H ∧ Qd H) ∨ (J.go j H ∧ ∃ On : Hp → Prop, (∀ H0, On H0 → ∃ k', k' < k ∧ Z (j + 1) k' H0) ∧
        ∀ v H0, J.yld j H v H0 → g v (wipe σ vs) H0 fun σ2 H2 => wipe σ2 vs = wipe σ vs ∧ tt σ2 H2 fun b H3 =>
          if b = true then te σ2 H3 (fun y H4 => ∃ ys, H4 D = some (.lst ys) ∧ ys.length < sizeLine ∧ On (upd H4 D (.lst (ys ++ [y])))) else On H3) := by
  refine lc_it w (fun i H => Same H1 H ∧ H D = some (.lst (kept f i))) ⟨sPut (Same.refl H1) new, upd_same⟩ (fun i H _ p => hG H p.1) ?_ (fun H p => hd H p.1 p.2)
  rintro i x H H' hi ⟨s1, at_⟩ y
  refine hs i x H H' hi s1 y _ _ (fun v H4 e s4 => ?_) (fun e H4 s4 => ?_)
  · refine ⟨kept f i, s4 _ _ at_, Nat.lt_of_le_of_lt (kept_len f i) (Nat.lt_trans hi few), sPut (Same.trans s1 s4) new, ?_⟩
    rw [kept_succ, e]
    exact upd_same
  · refine ⟨Same.trans s1 s4, ?_⟩
    rw [kept_succ, e]
    exact (List.append_nil (kept f i)).symm ▸ s4 _ _ at_
theorem kept_all {ys : List V} {f : Nat → Option V} (h : ∀ i, f i = ys[i]?) : kept f ys.length = ys := by
  have e : f = fun i => ys[i]? := funext h
  subst e
  unfold kept
  induction ys with
  | nil => rfl
  | cons y ys ih =>
    rw [List.length_cons, List.range_succ_eq_map, List.filterMap_cons, List.filterMap_map]
    exact congrArg (y :: ·) (ih fun i => rfl)
theorem kept_const (n : Nat) (v : V) : kept (fun i => if i < n then some v else none) n = List.replicate n v := by
  have e := kept_all (ys := List.replicate n v) (f := fun i => if i < n then some v else none) fun i => by rw [List.getElem?_replicate]
  rwa [List.length_replicate] at e
theorem _root_.List.all_replicate_of (n : Nat) : (List.replicate n true).all id = true := by
  rw [List.all_eq_true]
  intro b m
  rw [(List.mem_replicate.mp m).2] <;> rfl
end

/-! ### made instances: without arguments, by a star alone -/
section
variable {X : Cx} {CX : CXT} {k : Nat} {f C : Addr} {sp : Sp} {E : XK} {x : Str} {e : Expr} {te : TE} {p pos sp_ : Pos}
theorem pe_makeR0 (M : Mk X.K C f) (F : FnR X.prog X.w X.K X.mg X.base CX k f sp) (hr : Room (k + 1) X.A) (hg : Gl X x) (hm : X.mg x = some (.ref C)) (hx : Passes CX X E) (hdb : (x == ("__debug__" : Str)) = false := by decide) :
    PE X (.Call (.Name x p) [] [] pos) (StX.tMakeR C sp E tNil) := by
  refine ⟨fun pins s σ H Q I h => ?_⟩
  refine wpAny_Call_Name_kw (ld_glob I hg hm ?_ hdb)
  exact PySem.W.callWith_K0 I.kIn M.kp (StX.run_makeR (us := []) M F hr hx I .nil h)
def tMakeS (K : PySem.W.Frag) (C : Addr) (sp : Sp) (E : XK) (te : TE) : TE := fun σ H Q => te σ H fun y H1 => ∃ a xs, y = V.ref a ∧ (SqT K H1 a xs ∨ SqL K H1 a xs) ∧ ∀ x dx, H1 x = Option.none → H1 dx = Option.none → dx ≠ x →
  sp (V.ref x :: xs) (upd (upd H1 dx (.own x)) x (.ins C dx [])) (fun v H2 => v = .non ∧ Q (.ref x) H2) E
theorem pe_makeS (M : Mk X.K C f) (F : FnR X.prog X.w X.K X.mg X.base CX k f sp) (hr : Room (k + 1) X.A) (hg : Gl X x) (hm : X.mg x = some (.ref C)) (hx : Passes CX X E) (he : PE X e te) (hdb : (x == ("__debug__" : Str)) = false := by decide)
    (hst : starEach [.Starred e sp_] X.env = [(true, eval e X.env)] := by rfl) : PE X (.Call (.Name x p) [.Starred e sp_] [] pos) (tMakeS X.K C sp E te) := by
  refine ⟨fun pins s σ H Q I h => ?_⟩
  refine wpAny_Call_Name_kw (ld_glob I hg hm ?_ hdb)
  refine PySem.W.callWith_S (h₀ := X.base) I.ok.mod.kin M.kp (thn (he.run pins s σ H _ I h) fun v s1 ⟨y, H1, I1, ry, a, xs, ey, hxs, q⟩ => ?_) hst
  subst ey
  obtain rfl : v = Value.ref a := ry
  exact StX.star_any I1 hxs fun us s2 I2 rv => ⟨I2.kIn, StX.run_makeR M F hr hx I2 rv q⟩
theorem PE.imp {e : Expr} {t t' : TE} (h : PE X e t) (i : ∀ σ H Q, t' σ H Q → t σ H Q) : PE X e t' := ⟨fun pins s σ H Q I q => h.run pins s σ H Q I (i σ H Q q)⟩
end

/-! ### the built-in names -/
structure Bn (mg : Str → Option Value) : Prop where
  isi : mg "isinstance" = none
  int : mg "int" = none
  bool : mg "bool" = none
  len : mg "len" = none
  list : mg "list" = none
  max : mg "max" = none
  min : mg "min" = none
  sum : mg "sum" = none
  zip : mg "zip" = none
  range : mg "range" = none
  tuple : mg "tuple" = none
  enum : mg "enumerate" = none
  any : mg "any" = none
  all : mg "all" = none
  abs : mg "abs" = none
  divmod : mg "divmod" = none
  str : mg "str" = none
  repr : mg "repr" = none
  set : mg "set" = none
  sorted : mg "sorted" = none
/-- a def of the module by its name -/
structure Df (P : Program) (w : World) (K : PySem.W.Frag) (mg : Str → Option Value) (base : Heap) (x : Str) (ps : List Str) (k : Nat) (sp : Sp) : Prop where
  ex : ∃ f fd, mg x = some (.ref f) ∧ PySem.W.keepIn K (.ref f) = true ∧ Binds K fd ps [] ∧ FnOk P w K mg base CX0 k f fd ps sp
theorem pe_df {X : Cx} {x : Str} {ps : List Str} {k : Nat} {sp : Sp} {e : Expr} {es : List Expr} {t : TA} {p pos : Pos} (D : Df X.prog X.w X.K X.mg X.base x ps k sp) (hr : Room k X.A) (hg : Gl X x) (ha : PA X (e :: es) t)
    (hdb : (x == ("__debug__" : Str)) = false := by decide) (hst : starEach (e :: es) X.env = (false, eval e X.env) :: starEach es X.env := by rfl) (hpl : (backTo pos (starEach es X.env)).any (·.1) = false := by rfl) :
    PE X (.Call (.Name x p) (e :: es) [] pos) (tCall sp [] E0 t) := by
  obtain ⟨f, fd, hm, kp, b, F⟩ := D.ex
  exact pe_call F hr hg hm kp b .nil pass0 ha (hdb := hdb) (he := hst) (hpl := hpl)

theorem SameX.same {x : Addr} {H H' H2 : Hp} (a : SameX x H H') (b : Same H' H2) : SameX x H H2 := fun c o hc e => b c o (a c o hc e)
theorem SameX.trans {x : Addr} {H H' H2 : Hp} (a : SameX x H H') (b : SameX x H' H2) : SameX x H H2 := fun c o hc e => b c o hc (a c o hc e)
theorem SameX.of {x : Addr} {H H' : Hp} (a : Same H H') : SameX x H H' := fun c o _ e => a c o e
theorem SameX.put {x : Addr} {H H' : Hp} {o : HO} (a : SameX x H H') : SameX x H (upd H' x o) := fun c p hc e => by rw [upd_ne hc]; exact a c p hc e
theorem SameX.free {x : Addr} {H H' : Hp} (a : SameX x H H') {l : Addr} (hl : l ≠ x) (h : H' l = none) : H l = none := by
  cases e : H l with
  | none => rfl
  | some o => rw [a l o hl e] at h; cases h
end S14

/-! turns, and what they lead to: plain mathematics -/
namespace GM
abbrev Turn := List Int × Int
def mv (ns o : List Int) : List Int := o.map fun i => ns.getD i.toNat 0
def idn (n : Nat) : List Int := (List.range n).map fun i => ((i : Nat) : Int)
def Sgn (s : Int) : Prop := s = 1 ∨ s = -1
theorem Sgn.mul {s g : Int} (a : Sgn s) (b : Sgn g) : Sgn (s * g) := by
  rcases a with rfl | rfl <;> rcases b with rfl | rfl <;> simp [Sgn]
theorem idn_len (n : Nat) : (idn n).length = n := by unfold idn; rw [List.length_map, List.length_range]
theorem mem_idn {n : Nat} {i : Int} : i ∈ idn n ↔ 0 ≤ i ∧ i < n := by
  unfold idn
  rw [List.mem_map]
  constructor
  · rintro ⟨j, hj, rfl⟩
    have := List.mem_range.mp hj
    omega
  · intro h
    exact ⟨i.toNat, List.mem_range.mpr (by omega), by omega⟩
theorem idn_nodup (n : Nat) : (idn n).Nodup := by
  unfold idn
  rw [List.nodup_iff_pairwise_ne, List.pairwise_map]
  exact List.Pairwise.imp (fun h => by omega) (List.pairwise_lt_range (n := n))
theorem mv_idn (o : List Int) : mv o (idn o.length) = o := by
  unfold mv idn
  rw [List.map_map]
  apply List.ext_getElem
  · rw [List.length_map, List.length_range]
  · intro i h1 h2
    rw [List.getElem_map, List.getElem_range]
    show o.getD ((i : Nat) : Int).toNat 0 = _
    rw [Int.toNat_natCast, List.getD_eq_getElem?_getD, List.getElem?_eq_getElem h2] <;> rfl
theorem mv_perm {n : Nat} {o t : List Int} (ho : o.Perm (idn n)) (ht : t.Perm (idn n)) : (mv o t).Perm (idn n) := by
  have h : (mv o t).Perm (mv o (idn n)) := ht.map _
  have l : o.length = n := by rw [ho.length_eq, idn_len]
  have e := mv_idn o
  rw [l] at e
  rw [e] at h
  exact h.trans ho
/-- what the turns T lead to from the identity -/
inductive Reach (n : Nat) (T : List Turn) : List Int → Int → Prop
  | one : Reach n T (idn n) 1
  | step {o : List Int} {s : Int} {t : Turn} : Reach n T o s → t ∈ T → Reach n T (mv o t.1) (s * t.2)
/-- turns of n slots -/
def Are (n : Nat) (T : List Turn) : Prop := ∀ t ∈ T, t.1.Perm (idn n) ∧ Sgn t.2
theorem Reach.are {n : Nat} {T : List Turn} (h : Are n T) {o : List Int} {s : Int} (r : Reach n T o s) : o.Perm (idn n) ∧ Sgn s := by
  induction r with
  | one => exact ⟨List.Perm.refl _, .inl rfl⟩
  | step r m ih => exact ⟨mv_perm ih.1 (h _ m).1, ih.2.mul (h _ m).2⟩
/-- each order has one sign -/
def Single (n : Nat) (T : List Turn) : Prop := ∀ o s s', Reach n T o s → Reach n T o s' → s = s'
/-- L lists the group -/
def Lists (n : Nat) (T L : List Turn) : Prop := ∀ p : Turn, p ∈ L ↔ Reach n T p.1 p.2
theorem keys_nodup {L : List Turn} (h : (L.map Prod.fst).Nodup) {o : List Int} {s s' : Int} (a : (o, s) ∈ L) (b : (o, s') ∈ L) : s = s' := by
  induction L with
  | nil => cases a
  | cons p L ih =>
    rw [List.map_cons, List.nodup_cons] at h
    rcases List.mem_cons.mp a with e | a'
    · rcases List.mem_cons.mp b with e' | b'
      · exact congrArg Prod.snd (e.trans e'.symm)
      · exact absurd (by rw [← e]; exact List.mem_map.mpr ⟨_, b', rfl⟩) h.1
    · rcases List.mem_cons.mp b with e' | b'
      · exact absurd (by rw [← e']; exact List.mem_map.mpr ⟨_, a', rfl⟩) h.1
      · exact ih h.2 a' b'
/-- the search: L found (in the order found), W waiting -/
structure Srch (n : Nat) (T L : List Turn) (W : List (List Int)) : Prop where
  nd : (L.map Prod.fst).Nodup
  ok : ∀ p ∈ L, Reach n T p.1 p.2
  one : (idn n, 1) ∈ L
  wait : ∀ o ∈ W, o ∈ L.map Prod.fst
  done : ∀ p ∈ L, p.1 ∉ W → ∀ t ∈ T, (mv p.1 t.1, p.2 * t.2) ∈ L
theorem Srch.lists {n : Nat} {T L : List Turn} (h : Srch n T L []) : Lists n T L := fun p => by
  refine ⟨h.ok p, fun r => ?_⟩
  obtain ⟨o, s⟩ := p
  show (o, s) ∈ L
  replace r : Reach n T o s := r
  induction r with
  | one => exact h.one
  | step r m ih => exact h.done _ ih (fun z => by cases z) _ m
theorem Srch.single {n : Nat} {T L : List Turn} (h : Srch n T L []) : Single n T := fun o s s' a b => keys_nodup h.nd ((h.lists (o, s)).mpr a) ((h.lists (o, s')).mpr b)
theorem Srch.start {n : Nat} {T : List Turn} : Srch n T [(idn n, 1)] [idn n] := by
  refine ⟨by simp, fun p m => ?_, List.mem_cons_self, fun o m => ?_, fun p m z => ?_⟩
  · rw [List.mem_singleton.mp m]
    exact .one
  · rw [List.mem_singleton.mp m]
    exact List.mem_cons_self
  · rw [List.mem_singleton.mp m] at z
    exact absurd List.mem_cons_self z
/-- within a turn of the search: here was taken out, the first i turns are done -/
structure Mid (n : Nat) (T L : List Turn) (W : List (List Int)) (here : List Int) (s : Int) (i : Nat) : Prop where
  nd : (L.map Prod.fst).Nodup
  ok : ∀ p ∈ L, Reach n T p.1 p.2
  one : (idn n, 1) ∈ L
  wait : ∀ o ∈ W, o ∈ L.map Prod.fst
  at_ : (here, s) ∈ L
  done : ∀ p ∈ L, p.1 ∉ W → p.1 ≠ here → ∀ t ∈ T, (mv p.1 t.1, p.2 * t.2) ∈ L
  part : here ∉ W → ∀ t ∈ T.take i, (mv here t.1, s * t.2) ∈ L
theorem Srch.pop {n : Nat} {T L : List Turn} {W : List (List Int)} {here : List Int} (h : Srch n T L (W ++ [here])) : ∃ s, Mid n T L W here s 0 := by
  obtain ⟨p, hp, e⟩ := List.mem_map.mp (h.wait here (by simp))
  obtain ⟨o, s⟩ := p
  obtain rfl : o = here := e
  refine ⟨s, h.nd, h.ok, h.one, fun o m => h.wait o (List.mem_append_left _ m), hp, fun p m z ne => h.done p m fun q => ?_, fun _ t m => by cases m⟩
  rcases List.mem_append.mp q with q | q
  · exact z q
  · exact ne (List.mem_singleton.mp q)
theorem Mid.finish {n : Nat} {T L : List Turn} {W : List (List Int)} {here : List Int} {s : Int} (h : Mid n T L W here s T.length) : Srch n T L W := by
  refine ⟨h.nd, h.ok, h.one, h.wait, fun p m z t mt => ?_⟩
  by_cases e : p.1 = here
  · have e2 : p.2 = s := keys_nodup h.nd (o := here) (by rw [← e]; exact m) h.at_
    rw [e, e2]
    exact h.part (by rw [← e]; exact z) t (by rw [List.take_length]; exact mt)
  · exact h.done p m z e t mt
/-- a new order -/
theorem Mid.add {n : Nat} {T L : List Turn} {W : List (List Int)} {here : List Int} {s : Int} {i : Nat} {t : Turn} (h : Mid n T L W here s i) (ht : T[i]? = some t) (new : mv here t.1 ∉ L.map Prod.fst) :
    Mid n T (L ++ [(mv here t.1, s * t.2)]) (W ++ [mv here t.1]) here s (i + 1) := by
  have r : Reach n T (mv here t.1) (s * t.2) := .step (h.ok _ h.at_) (List.mem_of_getElem? ht)
  refine ⟨?_, fun p m => ?_, List.mem_append_left _ h.one, fun o m => ?_, List.mem_append_left _ h.at_, fun p m z ne u mu => ?_, fun z u mu => ?_⟩
  · rw [List.map_append, List.nodup_append]
    refine ⟨h.nd, by simp, fun a ha b hb => ?_⟩
    rw [List.map_singleton, List.mem_singleton] at hb
    rw [hb]
    rintro rfl
    exact new ha
  · rcases List.mem_append.mp m with m | m
    · exact h.ok p m
    · rw [List.mem_singleton.mp m]
      exact r
  · rw [List.map_append, List.mem_append]
    rcases List.mem_append.mp m with m | m
    · exact .inl (h.wait o m)
    · exact .inr (by rw [List.mem_singleton.mp m]; exact List.mem_cons_self)
  · rcases List.mem_append.mp m with m | m
    · exact List.mem_append_left _ (h.done p m (fun q => z (List.mem_append_left _ q)) ne u mu)
    · rw [List.mem_singleton.mp m] at z
      exact absurd (List.mem_append_right _ List.mem_cons_self) z
  · rw [List.take_add_one, ht] at mu
    rcases List.mem_append.mp mu with mu | mu
    · exact List.mem_append_left _ (h.part (fun q => z (List.mem_append_left _ q)) u mu)
    · rw [List.mem_singleton.mp (show u ∈ [t] from mu)]
      exact List.mem_append_right _ List.mem_cons_self
/-- an order that stands already, with the same sign -/
theorem Mid.keep {n : Nat} {T L : List Turn} {W : List (List Int)} {here : List Int} {s : Int} {i : Nat} {t : Turn} (h : Mid n T L W here s i) (ht : T[i]? = some t) (old : (mv here t.1, s * t.2) ∈ L) : Mid n T L W here s (i + 1) :=
  ⟨h.nd, h.ok, h.one, h.wait, h.at_, h.done, fun z u mu => by
    rw [List.take_add_one, ht] at mu
    rcases List.mem_append.mp mu with mu | mu
    · exact h.part z u mu
    · rw [List.mem_singleton.mp (show u ∈ [t] from mu)]
      exact old⟩
/-- .. with another sign -/
theorem Mid.clash {n : Nat} {T L : List Turn} {W : List (List Int)} {here : List Int} {s g : Int} {i : Nat} {t : Turn} (h : Mid n T L W here s i) (ht : T[i]? = some t) (old : (mv here t.1, g) ∈ L) (ne : g ≠ s * t.2) : ¬ Single n T :=
  fun z => ne (z _ _ _ (h.ok _ old) (.step (h.ok _ h.at_) (List.mem_of_getElem? ht)))
/-! ### few orders -/
def words (m : Nat) : Nat → List (List Int)
  | 0 => [[]]
  | k + 1 => (idn m).flatMap fun a => (words m k).map (a :: ·)
theorem mem_words {m : Nat} : ∀ {o : List Int}, (∀ i ∈ o, i ∈ idn m) → o ∈ words m o.length
  | [], _ => List.mem_cons_self
  | a :: o, h => by
    show a :: o ∈ (idn m).flatMap fun a => (words m o.length).map (a :: ·)
    exact List.mem_flatMap.mpr ⟨a, h a List.mem_cons_self, List.mem_map.mpr ⟨o, mem_words fun i q => h i (List.mem_cons_of_mem _ q), rfl⟩⟩
def orders (n : Nat) : List (List Int) := (words n n).filter fun o => decide o.Nodup
theorem mem_orders {n : Nat} {o : List Int} (h : o.Perm (idn n)) : o ∈ orders n := by
  have l : o.length = n := by rw [h.length_eq, idn_len]
  have z : o ∈ words n o.length := mem_words fun i q => h.mem_iff.mp q
  rw [l] at z
  exact List.mem_filter.mpr ⟨z, decide_eq_true (h.nodup_iff.mpr (idn_nodup n))⟩
theorem orders_few {n : Nat} (h : n ≤ 4) : (orders n).length ≤ 24 := by
  match n, h with
  | 0, _ => decide +kernel
  | 1, _ => decide +kernel
  | 2, _ => decide +kernel
  | 3, _ => decide +kernel
  | 4, _ => decide +kernel
theorem nodup_few {α : Type} [DecidableEq α] : ∀ (l D : List α), l.Nodup → (∀ x ∈ l, x ∈ D) → l.length ≤ D.length
  | [], _, _, _ => Nat.zero_le _
  | x :: l, D, nd, h => by
    rw [List.nodup_cons] at nd
    have m := h x List.mem_cons_self
    have z := nodup_few l (D.erase x) nd.2 fun y hy => (List.mem_erase_of_ne (fun (e : y = x) => nd.1 (by rw [← e]; exact hy))).mpr (h y (List.mem_cons_of_mem _ hy))
    have e := List.length_erase_of_mem m
    have pos := List.length_pos_of_mem m
    rw [List.length_cons]
    omega
theorem Srch.few {n : Nat} {T L : List Turn} (hn : n ≤ 4) (ht : Are n T) (nd : (L.map Prod.fst).Nodup) (ok : ∀ p ∈ L, Reach n T p.1 p.2) : L.length ≤ 24 := by
  have z := nodup_few (L.map Prod.fst) (orders n) nd fun o m => by
    obtain ⟨p, hp, rfl⟩ := List.mem_map.mp m
    exact mem_orders ((ok p hp).are ht).1
  rw [List.length_map] at z
  exact Nat.le_trans z (orders_few hn)
end GM

namespace S14
open PySem L2 GM
open PySem.W (EachIs)
/-- the two numbers that draw -/
def PotAt (H : Hp) (l : Addr) : Prop := ∃ x y : Int, H l = some (.lst [.int x, .int y]) ∧ 0 ≤ x ∧ 0 ≤ y ∧ y < 4294967296
theorem PotAt.same {H H' : Hp} {l : Addr} (s : Same H H') (h : PotAt H l) : PotAt H' l := by
  obtain ⟨x, y, e, r⟩ := h
  exact ⟨x, y, s _ _ e, r⟩
theorem PotAt.ne {H : Hp} {l t : Addr} (h : PotAt H l) (ht : H t = none) : t ≠ l := fun e => by
  obtain ⟨x, y, e1, _⟩ := h
  rw [e, e1] at ht
  cases ht
theorem PotAt.put {H : Hp} {l p : Addr} {o : HO} (h : PotAt H l) (n : l ≠ p) : PotAt (upd H p o) l := by
  obtain ⟨x, y, e, r⟩ := h
  exact ⟨x, y, by rw [upd_ne n]; exact e, r⟩
theorem SameX.new {x p : Addr} {H H' : Hp} {o : HO} (a : SameX x H H') (n : H p = none) : SameX x H (upd H' p o) := fun b u hb e => by
  rw [upd_ne (ne_of_none e n)]
  exact a b u hb e
section
variable {P : Program} {w : World} {K : PySem.W.Frag} {mg : Str → Option Value} {base : Heap}
/-! ### _law_pot -/
def spPot (K : PySem.W.Frag) : Sp := fun vs H Q _ => ∃ (a : Addr) (ns : List Int) (k : Nat), vs = [.ref a, .int k] ∧ SqL K H a (ns.map V.int) ∧ k < 4 ∧ ns.length ≤ 1000 ∧ ∀ H' l, Same H H' → H l = none → PotAt H' l → Q (.ref l) H'
abbrev nPot : List Str := ["_law_script", "_law_k", "_law_cell"]
theorem scPot : FnScope nPot ["_law_script", "_law_k"] (defScope sPot) := ⟨rfl, rfl, rfl, by decide +kernel, rfl, by decide +kernel, by decide +kernel⟩
theorem ok_pot {f : Addr} {fd : FuncData} (F : Fun K "_law_pot" "_law_pot" sPot f fd) (T : Bn mg) : FnOk P w K mg base CX0 1 f fd ["_law_script", "_law_k"] (spPot K) := by
  refine F.ok scPot (fun vs H Q E h => ?_) (fun cdv A outer s H vs Q E hr h => ?_)
  · obtain ⟨a, ns, k, rfl, _⟩ := h
    rfl
  · obtain ⟨a, ns, k, rfl, ha, hk, hl, q⟩ := h
    refine ⟨_, pss_cons (ps_set (i := 2) scPot.nd rfl (Or.inl rfl) (pe_ifExp (pt_cmpR op_lt (pv 1) (pe_callB call_len_seq (by rfl) T.len PySem.boot_len (pa_cons (pv 0) pa_nil)) (nomark _))
        (pe_callB call_abs (by rfl) T.abs (by decide +kernel) (pa_cons (pe_ix ix_list (pv 0) (pv 1) (fun _ _ => rfl)) pa_nil)) pe_int))
      (pss_one (ps_ret (pe_lst (pa_cons (pe_callB (call_max2 rfl) (by rfl) T.max (by decide +kernel) (pa_cons pe_int (pa_cons (pe_op op_sub (pv 2) (pe_op op_pow pe_int pe_int)) pa_nil)))
        (pa_cons (pe_op op_mod (pe_callTy call_int1 (by rfl) T.int (by decide +kernel) (pa_cons (pe_op op_add (pe_op op_add (pe_op op_mul (pe_op op_mod (pe_callTy call_int1 (by rfl) T.int (by decide +kernel) (pa_cons (pv 2) pa_nil)) pe_int) pe_int) (pe_op op_mul pe_int (pv 1))) pe_int) pa_nil)) pe_int) pa_nil))))), ?_⟩
    refine ⟨_, rfl, _, rfl, a, _, rfl, .inl ha, _, _, rfl, rfl, _, rfl, ?_⟩
    have rest : ∀ c : Int, 0 ≤ c → ∀ (R : VK), (∀ x y : Int, 0 ≤ x → 0 ≤ y → y < 4294967296 → ∀ l, H l = none → R (.ref l) (upd H l (.lst [.int x, .int y]))) →
        (tLst (tCons (tCB (fun xs H Q => ∃ i j, xs = [.int i, .int j] ∧ Q (.int (if j > i then j else i)) H) (tCons (tC (.int 0)) (tCons (tOp (rI0 fun i j => .int (i - j)) (tVar 2) (tOp (rI CPow fun i j => .int (i ^ j.toNat)) (tC (.int 10)) (tC (.int 18)))) tNil)))
          (tCons (tOp (rI (fun _ j => 0 < j) fun i j => .int (i % j))
            (tCB (fun xs H Q => (∃ i, xs = [.int i] ∧ Q (.int i) H) ∨ ∃ k, xs = [.bl k] ∧ Q (.int (if k then 1 else 0)) H) (tCons (tOp (rI0 fun i j => .int (i + j)) (tOp (rI0 fun i j => .int (i + j)) (tOp (rI CMul fun i j => .int (i * j)) (tOp (rI (fun _ j => 0 < j) fun i j => .int (i % j))
              (tCB (fun xs H Q => (∃ i, xs = [.int i] ∧ Q (.int i) H) ∨ ∃ k, xs = [.bl k] ∧ Q (.int (if k then 1 else 0)) H) (tCons (tVar 2) tNil)) (tC (.int 2147483579))) (tC (.int 39119))) (tOp (rI CMul fun i j => .int (i * j)) (tC (.int 50021)) (tVar 1))) (tC (.int 77))) tNil))
            (tC (.int 2147483647))) tNil))) [some (.ref a), some (.int k), some (.int c)] H R := by
      intro c hc R hR
      refine ⟨_, rfl, _, _, rfl, rfl, ⟨by decide, by decide, by decide⟩, _, _, rfl, rfl, _, _, rfl, ?_⟩
      refine ⟨_, rfl, .inl ⟨_, rfl, _, _, rfl, rfl, (by show (0 : Int) < 2147483579; decide), _, _, rfl, rfl, .inr ⟨by decide, by decide⟩, _, rfl, _, _, rfl, rfl, .inl ⟨by decide, by decide⟩, _, _, rfl, rfl, _, _, rfl, rfl, .inl ⟨_, rfl, ?_⟩⟩⟩
      refine ⟨_, _, rfl, rfl, (by show (0 : Int) < 2147483647; decide), (by show 2 ≤ sizeLine; decide), fun l hl => hR _ _ ?_ ?_ ?_ l hl⟩
      · split <;> omega
      · exact Int.emod_nonneg _ (by omega)
      · have := Int.emod_lt_of_pos (c % 2147483579 * 39119 + 50021 * (k : Int) + 77) (b := 2147483647) (by omega)
        omega
    have done : ∀ x y : Int, 0 ≤ x → 0 ≤ y → y < 4294967296 → ∀ l, H l = none → Q (.ref l) (upd H l (.lst [.int x, .int y])) := fun x y h1 h2 h3 l hl => q _ l (sNew (Same.refl H) hl) hl ⟨x, y, upd_same, h1, h2, h3⟩
    by_cases hlt : ((k : Nat) : Int) < ((ns.map V.int).length : Nat)
    · rw [decide_eq_true hlt]
      refine iteT ?_
      have hk2 : k < ns.length := by
        rw [List.length_map] at hlt
        omega
      refine ⟨_, rfl, _, rfl, a, _, _, V.int ns[k], rfl, rfl, ha, at_of (j := k) rfl (by rw [List.getElem?_map, List.getElem?_eq_getElem hk2]; rfl), _, rfl, ?_⟩
      exact rest _ (by split <;> omega) Q done
    · rw [decide_eq_false hlt]
      refine iteF ?_
      exact rest _ (by omega) Q done
/-! ### _law_draw -/
def spDraw : Sp := fun vs H Q _ => ∃ (l : Addr) (many : Int), vs = [.ref l, .int many] ∧ PotAt H l ∧ 1 ≤ many ∧ many < 1073741824 ∧ ∀ (H' : Hp) (d : Int), SameX l H H' → PotAt H' l → 0 ≤ d → d < many → Q (.int d) H'
abbrev nDraw : List Str := ["_law_pot_here", "_law_many", "_law_digit"]
theorem scDraw : FnScope nDraw ["_law_pot_here", "_law_many"] (defScope sDraw) := ⟨rfl, rfl, rfl, by decide +kernel, rfl, by decide +kernel, by decide +kernel⟩
theorem ok_draw {f : Addr} {fd : FuncData} (F : Fun K "_law_draw" "_law_draw" sDraw f fd) (T : Bn mg) : FnOk P w K mg base CX0 1 f fd ["_law_pot_here", "_law_many"] spDraw := by
  refine F.ok scDraw (fun vs H Q E h => ?_) (fun cdv A outer s H vs Q E hr h => ?_)
  · obtain ⟨l, many, rfl, _⟩ := h
    rfl
  · obtain ⟨l, many, rfl, ⟨x, y, hl, hx, hy, hy2⟩, m1, m2, q⟩ := h
    refine ⟨_, pss_cons (ps_if (pt_cmpR op_gt (pe_ix ix_list (pv 0) pe_int (fun _ _ => rfl)) pe_int (nomark _))
        (pss_cons (ps_asg (pe_callB call_divmodW (by rfl) T.divmod (by decide +kernel) (pa_cons (pe_ix ix_list (pv 0) pe_int (fun _ _ => rfl)) (pa_cons (pv 1) pa_nil)))
          (pg_tup rfl (pgs_cons (pg_sub (pv 0) pe_int set_list) (pgs_cons (pg_name (i := 2) scDraw.nd rfl (Or.inl rfl)) pgs_nil))))
        (pss_one (ps_ret (pv 2)))) pss_nil)
      (pss_cons (ps_asg (pe_op op_mod (pe_callTy call_int1 (by rfl) T.int (by decide +kernel) (pa_cons (pe_op op_add (pe_op op_mul (pe_ix ix_list (pv 0) pe_int (fun _ _ => rfl)) pe_int) pe_int) pa_nil)) pe_int) (pg_sub (pv 0) pe_int set_list))
      (pss_one (ps_ret (pe_op op_mod (pe_callTy call_int1 (by rfl) T.int (by decide +kernel) (pa_cons (pe_op op_fdiv (pe_op op_mod (pe_callTy call_int1 (by rfl) T.int (by decide +kernel) (pa_cons (pe_op op_mul (pe_ix ix_list (pv 0) pe_int (fun _ _ => rfl)) (pe_ix ix_list (pv 0) pe_int (fun _ _ => rfl))) pa_nil)) pe_int) pe_int) pa_nil)) (pv 1))))), ?_⟩
    refine ⟨_, rfl, l, _, _, V.int x, rfl, rfl, SqL.of hl, at_of (j := 0) rfl rfl, _, _, rfl, rfl, _, rfl, ?_⟩
    by_cases hp : x > 0
    · rw [decide_eq_true hp]
      refine iteT ?_
      refine ⟨_, rfl, l, _, _, V.int x, rfl, rfl, SqL.of hl, at_of (j := 0) rfl rfl, _, rfl, _, _, rfl, ⟨by omega, PyProof.noPylong_small (by omega)⟩, fun t ht => ?_⟩
      have s1 := sNew (o := .tup [V.int (x / many), V.int (x % many)]) (Same.refl H) ht
      refine ⟨t, _, rfl, .inl (.inl upd_same), rfl, _, _, rfl, _, rfl, l, _, _, 0, rfl, rfl, old hl ht, rfl, _, _, rfl, rfl, _, rfl, ?_⟩
      have e1 := Int.emod_nonneg x (b := many) (by omega)
      have e2 := Int.emod_lt_of_pos x (b := many) (by omega)
      have e3 : 0 ≤ x / many := Int.ediv_nonneg hx (by omega)
      exact q _ _ (SameX.put (SameX.of s1)) ⟨x / many, y, upd_same, e3, hy, hy2⟩ e1 e2
    · rw [decide_eq_false hp]
      refine iteF ?_
      refine ⟨_, rfl, l, _, _, V.int y, rfl, rfl, SqL.of hl, at_of (j := 1) rfl rfl, _, _, rfl, rfl, .inl ⟨by omega, by omega⟩, _, _, rfl, rfl, .inl ⟨_, rfl, ?_⟩⟩
      refine ⟨_, _, rfl, rfl, (by show (0 : Int) < 2147483549; decide), ?_⟩
      refine ⟨_, rfl, l, _, _, 1, rfl, rfl, hl, rfl, ?_⟩
      have e1 := Int.emod_nonneg (y * 48271 + 10007) (b := 2147483549) (by omega)
      have e2 := Int.emod_lt_of_pos (y * 48271 + 10007) (b := 2147483549) (by omega)
      have h2 : upd H l (.lst ([V.int x, V.int y].set 1 (V.int ((y * 48271 + 10007) % 2147483549)))) l = some (.lst [V.int x, V.int ((y * 48271 + 10007) % 2147483549)]) := upd_same
      have sx : SameX l H (upd H l (.lst ([V.int x, V.int y].set 1 (V.int ((y * 48271 + 10007) % 2147483549))))) := SameX.put (SameX.of (Same.refl H))
      generalize upd H l (.lst ([V.int x, V.int y].set 1 (V.int ((y * 48271 + 10007) % 2147483549)))) = H2 at h2 sx ⊢
      generalize (y * 48271 + 10007) % 2147483549 = z at e1 e2 h2 ⊢
      refine ⟨_, rfl, l, _, _, V.int z, rfl, rfl, SqL.of h2, at_of (j := 1) rfl rfl, _, rfl, l, _, _, V.int z, rfl, rfl, SqL.of h2, at_of (j := 1) rfl rfl, _, _, rfl, rfl, .inl ⟨by omega, by omega⟩, .inl ⟨_, rfl, ?_⟩⟩
      refine ⟨_, _, rfl, rfl, (by show (0 : Int) < 2147483497; decide), _, _, rfl, rfl, ⟨by decide, by decide⟩, .inl ⟨_, rfl, _, rfl, _, _, rfl, rfl, (by show (0 : Int) < many; omega), ?_⟩⟩
      exact q _ _ sx ⟨x, z, h2, hx, e1, by omega⟩ (Int.emod_nonneg _ (by omega)) (Int.emod_lt_of_pos _ (by omega))
end
end S14

namespace S14
open PySem L2 GM
/-! ### the values that are drawn, and how they are shown -/
abbrev itx (i : Int) : Str := ((toString i : String) : Str)
theorem log_lt {n m : Nat} (h : n < 2 ^ m) (h0 : 0 < m) : n.log2 < m := by
  by_cases hn : n = 0
  · subst hn; exact h0
  · exact (Nat.log2_lt hn).mpr h
theorem itx_log {i : Int} (h : i.natAbs < 2 ^ 200) : i.natAbs.log2 < 1920 := Nat.lt_trans (log_lt h (by decide)) (by decide)
theorem itx_len {i : Int} (h : i.natAbs < 2 ^ 200) : (itx i).length ≤ 2000 := by
  have := PyProof.Rows.int_text_len_1921 (i := i) (itx_log h)
  exact Nat.le_trans this (by decide)
inductive Vl (H : Hp) : V → Str → Prop where
  | non : Vl H .non "None"
  | bl : Vl H (.bl true) "True"
  | int {i : Int} (h : i.natAbs < 2 ^ 200) : Vl H (.int i) (itx i)
  | str {x : Str} (h : x.length ≤ 10) (h2 : (reprText x).length ≤ 100) : Vl H (.str x) (reprText x)
  | lst {a : Addr} {i : Int} (e : H a = some (.lst [.int i])) (h : i.natAbs < 2 ^ 200) : Vl H (.ref a) (listText [itx i])
  | tup {a : Addr} {i : Int} (e : H a = some (.tup [.int i, .int 1])) (h : i.natAbs < 2 ^ 200) : Vl H (.ref a) (tupleText [itx i, itx 1])
  | d0 {a : Addr} (e : H a = some (.dK [])) : Vl H (.ref a) (dictText [])
  | da {a : Addr} {i : Int} (e : H a = some (.dK [(.inr "a", .int i)])) (h : i.natAbs < 2 ^ 200) : Vl H (.ref a) (dictText [reprText "a" ++ ": " ++ itx i])
  | nil {a : Addr} (e : H a = some (.tup [])) : Vl H (.ref a) (tupleText [])
theorem Vl.keep {H G : Hp} {v : V} {t : Str} (k : ∀ a o, v = .ref a → H a = some o → (∀ x y, o ≠ .lst [x, y]) → G a = some o) (h : Vl H v t) : Vl G v t := by
  cases h with
  | non => exact .non
  | bl => exact .bl
  | int h => exact .int h
  | str h h2 => exact .str h h2
  | lst e h => exact .lst (k _ _ rfl e (fun _ _ z => by cases z)) h
  | tup e h => exact .tup (k _ _ rfl e (fun _ _ z => by cases z)) h
  | d0 e => exact .d0 (k _ _ rfl e (fun _ _ z => by cases z))
  | da e h => exact .da (k _ _ rfl e (fun _ _ z => by cases z)) h
  | nil e => exact .nil (k _ _ rfl e (fun _ _ z => by cases z))
theorem Vl.same {H G : Hp} {v : V} {t : Str} (s : Same H G) (h : Vl H v t) : Vl G v t := h.keep fun a o _ e _ => s a o e
theorem Vl.x {H G : Hp} {l : Addr} {v : V} {t : Str} (p : PotAt H l) (s : SameX l H G) (h : Vl H v t) : Vl G v t := by
  obtain ⟨x, y, e, _⟩ := p
  refine h.keep fun a o _ ea no => s a o (fun z => ?_) ea
  rw [z, e] at ea
  exact no _ _ (Option.some.inj ea).symm
theorem len1 (x : Str) : (listText [x]).length ≤ x.length + 100 := by
  have := listText_len_le [x]
  simp at this
  omega
theorem Vl.len {H : Hp} {v : V} {t : Str} (h : Vl H v t) : t.length ≤ 5000 := by
  cases h with
  | non => decide
  | bl => decide
  | int h => have := itx_len h; omega
  | str h h2 => omega
  | @lst a i e h =>
    have a := listText_len_le [itx i]
    have b := itx_len h
    simp only [List.map_cons, List.map_nil, List.sum_cons, List.sum_nil, List.length_cons, List.length_nil] at a
    omega
  | @tup a i e h =>
    have a := tupleText_len_le [itx i, itx 1]
    have b := itx_len h
    have c := itx_len (i := 1) (by decide)
    simp only [List.map_cons, List.map_nil, List.sum_cons, List.sum_nil, List.length_cons, List.length_nil] at a
    omega
  | d0 e => decide +kernel
  | @da a i e h =>
    have a := dictText_len_le [reprText "a" ++ ": " ++ itx i]
    have b := itx_len h
    have c : (reprText "a").length = 3 := by decide +kernel
    simp only [List.map_cons, List.map_nil, List.sum_cons, List.sum_nil, List.length_cons, List.length_nil] at a
    rw [strLen_append, strLen_append, c] at a
    have d : (": " : Str).length = 2 := rfl
    rw [d] at a
    omega
  | nil e => decide +kernel
theorem Vl.sg {X : Cx} {H : Hp} {v : V} {t : Str} (h : Vl H v t) : Sg X 1 (fun G => G = H) (fun c => v = .ref c) v t := by
  cases h with
  | non => exact sg_non
  | bl => exact sg_bl
  | int h => exact sg_int (itx_log h)
  | str h h2 => exact sg_str (Nat.le_trans h2 (by rw [sizeLine_eq]; decide))
  | @lst a i e h =>
    exact (sg_list (k := 0) (B := fun _ => False) (xs := [.int i]) (ts := [itx i]) (fun G j => by rw [j]; exact e) (by simp) id rfl fun n u hu => by
      match n, hu with
      | 0, hu =>
        cases (Option.some.inj hu)
        exact ⟨_, rfl, sg_int (itx_log h)⟩).mono (by decide) fun c hc => by rcases hc with rfl | z; exact rfl; exact z.elim
  | @tup a i e h => exact (sg_tup (k := 0) (B := fun _ => False) (fun G j => by rw [j]; exact e) id (.cons (sg_int (itx_log h)) (.cons (sg_int (by decide)) .nil))).mono (Nat.le_refl _) (fun c hc => by rcases hc with rfl | z; exact rfl; exact z.elim)
  | d0 e => exact sg_dK (k := 0) (fun G j => by rw [j]; exact e) .nil rfl
  | da e h => exact sg_dK (k := 0) (fun G j => by rw [j]; exact e) (.cons (k := .inr "a") (.str (x := "a") (by decide +kernel)) (.int (itx_log h)) .nil) rfl
  | nil e => exact (sg_tup (k := 0) (B := fun _ => False) (fun G j => by rw [j]; exact e) id .nil).mono (Nat.le_refl _) (fun c hc => by rcases hc with rfl | z; exact rfl; exact z.elim)
/-- it can be put into a text -/
theorem Vl.fmt {X : Cx} {H : Hp} {v : V} {t : Str} (h : Vl H v t) : v = .non ∨ (∃ b, v = .bl b) ∨ (∃ i : Int, v = .int i ∧ i.natAbs.log2 < 1920 ∧ (toString i : Str).length ≤ 6000) ∨ (∃ y : Str, v = .str y ∧ y.length ≤ 6000) ∨
    ∃ (a : Addr) (d : PyData), v = .ref a ∧ ReadsTo X H v d ∧ d.showable = true ∧ d.depth ≤ 8 ∧ d.shown.length ≤ 6000 := by
  cases h with
  | non => exact .inl rfl
  | bl => exact .inr (.inl ⟨_, rfl⟩)
  | int h => exact .inr (.inr (.inl ⟨_, rfl, itx_log h, Nat.le_trans (itx_len h) (by decide)⟩))
  | str h h2 => exact .inr (.inr (.inr (.inl ⟨_, rfl, by omega⟩)))
  | @lst a i e h =>
    have sh : (PyData.list [.int i]).showable = true := by simp [PyData.showable, PyData.showableAll]; exact itx_log h
    have dp : (PyData.list [.int i]).depth ≤ 8 := by simp [PyData.depth, PyData.depthAll]
    refine .inr (.inr (.inr (.inr ⟨a, .list [.int i], rfl, fun pins σ s u I r => ?_, sh, dp, ?_⟩)))
    · obtain ⟨as, rd⟩ := Dp.reads I (.list [.int i]) _ u (.lst (SqL.of e) (.cons (.int i) .nil)) r
      exact ⟨as, rd, fun z => by cases z⟩
    · show (listText [itx i]).length ≤ 6000
      have := (Vl.lst e h).len
      omega
  | @tup a i e h =>
    have sh : (PyData.tuple [.int i, .int 1]).showable = true := by simp [PyData.showable, PyData.showableAll]; exact ⟨itx_log h, by decide⟩
    have dp : (PyData.tuple [.int i, .int 1]).depth ≤ 8 := by simp [PyData.depth, PyData.depthAll]
    refine .inr (.inr (.inr (.inr ⟨a, .tuple [.int i, .int 1], rfl, fun pins σ s u I r => ?_, sh, dp, ?_⟩)))
    · obtain ⟨as, rd⟩ := Dp.reads I (.tuple [.int i, .int 1]) _ u (.tup (SqT.of e) (.cons (.int i) (.cons (.int 1) .nil))) r
      exact ⟨as, rd, fun z => by cases z⟩
    · show (tupleText [itx i, itx 1]).length ≤ 6000
      have := (Vl.tup e h).len
      omega
  | @nil a e =>
    refine .inr (.inr (.inr (.inr ⟨a, .tuple [], rfl, fun pins σ s u I r => ?_, rfl, by decide, by decide +kernel⟩)))
    obtain ⟨as, rd⟩ := Dp.reads I (.tuple []) _ u (.tup (SqT.of e) .nil) r
    exact ⟨as, rd, fun z => by cases z⟩
  | @d0 a e =>
    refine .inr (.inr (.inr (.inr ⟨a, .dict [], rfl, fun pins σ s u I r => ?_, rfl, by decide, by decide +kernel⟩)))
    cases r
    obtain ⟨_, other, vs, rv, o, es, n, there, exact_, data, _, pairs, _⟩ := (show ObjOk X.prog X.w H s.heap a (.dK []) from I.hok a _ e)
    cases rv
    have none_ : es.toList = [] := by
      generalize es.toList = l at pairs
      cases pairs
      rfl
    refine ⟨_, .dict there exact_.1 data (as := []) (bs := []) ?_ ?_, fun _ m => ?_⟩
    · rw [none_]; exact .nil
    · rw [none_]; exact .nil
    · rw [List.append_nil, List.mem_singleton] at m
      rw [m] at other
      exact absurd (beq_self_eq_true a) (by rw [other]; decide)
  | @da a i e h =>
    have sh : (PyData.dict [(.str "a", .int i)]).showable = true := by simp [PyData.showable, PyData.showableKv]; exact itx_log h
    have dp : (PyData.dict [(.str "a", .int i)]).depth ≤ 8 := by simp [PyData.depth, PyData.depthKv]
    refine .inr (.inr (.inr (.inr ⟨a, .dict [(.str "a", .int i)], rfl, fun pins σ s u I r => ?_, sh, dp, ?_⟩)))
    · cases r
      obtain ⟨_, other, vs, rv, o, es, n, there, exact_, data, _, pairs, _⟩ := (show ObjOk X.prog X.w H s.heap a (.dK [(.inr "a", .int i)]) from I.hok a _ e)
      have shape : ∃ t t2 hash, es.toList = [⟨hash, .str "a" t, .int i t2⟩] := by
        generalize es.toList = l at pairs
        cases rv with
        | @cons _ q _ _ r1 r2 =>
          cases r2
          cases pairs with
          | @cons en _ _ _ hk hv p2 =>
            cases p2
            obtain ⟨e1, t2, e2⟩ := r1
            have hk' : keyIs q.1 en.key = true := hk
            rw [← e1] at hk'
            rcases keyIs_shape hk' with ⟨j, t, z, _⟩ | ⟨x, t, z, e3⟩
            · cases z
            · cases z
              obtain ⟨hash, key, val⟩ := en
              dsimp only at hv e3
              exact ⟨t, t2, hash, by rw [hv, e2, e3]⟩
      obtain ⟨t, t2, hash, shape⟩ := shape
      refine ⟨_, .dict there exact_.1 data (as := []) (bs := []) ?_ ?_, fun _ m => ?_⟩
      · rw [shape]; exact .cons (as := []) (bs := []) (.str _ _) .nil
      · rw [shape]; exact .cons (as := []) (bs := []) (.int _ _) .nil
      · rw [List.append_nil, List.mem_singleton] at m
        rw [m] at other
        exact absurd (beq_self_eq_true a) (by rw [other]; decide)
    · show (dictText [reprText "a" ++ ": " ++ itx i]).length ≤ 6000
      have := (Vl.da e h).len
      omega
end S14

namespace S14
open PySem L2 GM
/-! ### an error as a value -/
def ErrAt (H : Hp) (a D : Addr) (fs : List (Str × V)) : Prop := ∃ (t : Addr) (m : Str), H t = some (.tup [.str m]) ∧ ((fs = [] ∧ H a = some (exq a D none t)) ∨ ∃ dx, H a = some (exq a D (some dx) t) ∧ H dx = some (exd dx fs))
theorem ErrAt.same {H G : Hp} {a D : Addr} {fs : List (Str × V)} (s : Same H G) (h : ErrAt H a D fs) : ErrAt G a D fs := by
  obtain ⟨t, m, et, h⟩ := h
  refine ⟨t, m, s _ _ et, h.imp (fun z => ⟨z.1, s _ _ z.2⟩) fun z => ?_⟩
  obtain ⟨dx, e1, e2⟩ := z
  exact ⟨dx, s _ _ e1, s _ _ e2⟩
section
variable {P : Program} {w : World} {K : PySem.W.Frag} {mg : Str → Option Value} {base : Heap}
/-! ### what the __init__ of an error keeps -/
def spE0 (D : Addr) : Sp := fun vs H Q _ => ∃ a : Addr, vs = [.ref a] ∧ H a = some (exo a D none) ∧ ∀ H', SameX a H H' → ErrAt H' a D [] → Q .non H'
def spE1 (D : Addr) (f : Str) : Sp := fun vs H Q _ => ∃ (a : Addr) (v : V) (t : Str), vs = [.ref a, v] ∧ H a = some (exo a D none) ∧ Vl H v t ∧ ∀ H', SameX a H H' → ErrAt H' a D [(f, v)] → Q .non H'
def spE2 (D : Addr) (f g : Str) : Sp := fun vs H Q _ => ∃ (a : Addr) (v u : V) (t t2 : Str), vs = [.ref a, v, u] ∧ H a = some (exo a D none) ∧ Vl H v t ∧ Vl H u t2 ∧ ∀ H', SameX a H H' → ErrAt H' a D [(g, u), (f, v)] → Q .non H'
/-- the ends of the __init__s -/
theorem end0 {H : Hp} {a D t : Addr} {m : Str} (ea : H a = some (exo a D none)) (nt : H t = none) (ne : t ≠ a) : SameX a H (upd (upd H t (.tup [.str m])) a (exq a D none t)) ∧ ErrAt (upd (upd H t (.tup [.str m])) a (exq a D none t)) a D [] := by
  refine ⟨fun b o nb e => by rw [upd_ne nb, upd_ne (ne_of_none e nt)]; exact e, t, m, ?_, .inl ⟨rfl, upd_same⟩⟩
  rw [upd_ne ne]
  exact upd_same
theorem end1 {H : Hp} {a D t dx : Addr} {m f : Str} {v : V} (nt : H t = none) (ne : t ≠ a) (nd : upd (upd H t (.tup [.str m])) a (exq a D none t) dx = none) (nda : dx ≠ a) :
    SameX a H (upd (upd (upd (upd H t (.tup [.str m])) a (exq a D none t)) dx (exd dx [(f, v)])) a (exq a D (some dx) t)) ∧ ErrAt (upd (upd (upd (upd H t (.tup [.str m])) a (exq a D none t)) dx (exd dx [(f, v)])) a (exq a D (some dx) t)) a D [(f, v)] := by
  have ndt : t ≠ dx := fun z => by
    rw [← z, upd_ne ne, upd_same] at nd
    cases nd
  have nd0 : H dx = none := by
    rw [upd_ne nda, upd_ne ndt.symm] at nd
    exact nd
  refine ⟨fun b o nb e => ?_, t, m, ?_, .inr ⟨dx, upd_same, ?_⟩⟩
  · rw [upd_ne nb, upd_ne (ne_of_none e nd0), upd_ne nb, upd_ne (ne_of_none e nt)]
    exact e
  · rw [upd_ne ne, upd_ne ndt, upd_ne ne]
    exact upd_same
  · rw [upd_ne nda]
    exact upd_same
theorem end2 {H G : Hp} {a D : Addr} {dx t : Addr} {fs : List (Str × V)} {g : Str} {u : V} (s : SameX a H G) (new : H dx = none) (nda : dx ≠ a) (e : ErrAt G a D fs) (ea : G a = some (exq a D (some dx) t)) (et : ∃ m, G t = some (.tup [.str m])) (ntd : t ≠ dx) :
    SameX a H (upd G dx (exd dx ((g, u) :: fs))) ∧ ErrAt (upd G dx (exd dx ((g, u) :: fs))) a D ((g, u) :: fs) := by
  obtain ⟨m, et⟩ := et
  refine ⟨fun b o nb e => by rw [upd_ne (ne_of_none e new)]; exact s b o nb e, t, m, ?_, .inr ⟨dx, ?_, upd_same⟩⟩
  · rw [upd_ne ntd]; exact et
  · rw [upd_ne nda.symm]; exact ea
/-- what is known of an error class: none, one or two fields -/
structure Er0 (P : Program) (w : World) (K : PySem.W.Frag) (mg : Str → Option Value) (base : Heap) (nm : Str) (D : Addr) : Prop where
  mgD : mg nm = some (.ref D)
  ex : ∃ g fd, ErrK K D g ∧ Binds K fd ["self"] [] ∧ FnG P w K mg base CX0 3 g fd ["self"] (spE0 D)
structure Er1 (P : Program) (w : World) (K : PySem.W.Frag) (mg : Str → Option Value) (base : Heap) (nm f : Str) (D : Addr) : Prop where
  mgD : mg nm = some (.ref D)
  no : PySem.W.findIn K (.ref D) f = some none
  ex : ∃ g fd, ErrK K D g ∧ Binds K fd ["self", f] [] ∧ (∀ (s : Shared) (self v : Value), BindsTo s fd ⟨[self], [(f, v)]⟩ [("self", self), (f, v)]) ∧ FnG P w K mg base CX0 3 g fd ["self", f] (spE1 D f)
structure Er2 (P : Program) (w : World) (K : PySem.W.Frag) (mg : Str → Option Value) (base : Heap) (nm f f2 : Str) (D : Addr) : Prop where
  mgD : mg nm = some (.ref D)
  no : PySem.W.findIn K (.ref D) f = some none
  no2 : PySem.W.findIn K (.ref D) f2 = some none
  ne : f ≠ f2
  ex : ∃ g fd, ErrK K D g ∧ Binds K fd ["self", f, f2] [] ∧ (∀ (s : Shared) (self v u : Value), BindsTo s fd ⟨[self], [(f2, u), (f, v)]⟩ [("self", self), (f, v), (f2, u)]) ∧ FnG P w K mg base CX0 3 g fd ["self", f, f2] (spE2 D f f2)
end
section
variable {X : Cx} {nm f f2 : Str} {D : Addr} {i j : Nat} {p pos p1 p2 : Pos}
theorem back {H1 H2 : Hp} {a D : Addr} (new : H1 a = none) (s : SameX a (upd H1 a (exo a D none)) H2) : Same H1 H2 := fun b o e => by
  have nb := ne_of_none e new
  exact s b o nb (by rw [upd_ne nb]; exact e)
theorem fresh_same {H H1 : Hp} {a : Addr} (s : Same H H1) (n : H1 a = none) : H a = none := by
  cases e : H a with
  | none => rfl
  | some o => rw [s _ _ e] at n; cases n
/-- C(x), x the local in slot i -/
def tE1 (D : Addr) (f : Str) (i : Nat) : TE := fun σ H Q => ∃ (v : V) (t : Str), σ[i]? = some (some v) ∧ Vl H v t ∧ ∀ H' a, Same H H' → H a = none → ErrAt H' a D [(f, v)] → Q (.ref a) H'
theorem pe_e1 {x : Str} (Z : Er1 X.prog X.w X.K X.mg X.base nm f D) (quiet : X.A.guards = some []) (room : Room 4 X.A) (gl : Gl X nm) (hv : PE X (.Name x p1) (tVar i)) (nd : (nm == ("__debug__" : Str)) = false := by decide)
    (st : starEach [.Name x p1] X.env = (false, eval (.Name x p1) X.env) :: starEach [] X.env := by rfl) : PE X (.Call (.Name nm p) [.Name x p1] [] pos) (tE1 D f i) := by
  obtain ⟨g, fd, EK, B, _, F⟩ := Z.ex
  refine PE.imp (pe_newE EK F quiet room B pass0 gl Z.mgD (pa_cons hv pa_nil) nd st rfl) fun σ H Q h => ?_
  obtain ⟨v, t, hσ, vl, q⟩ := h
  refine ⟨v, hσ, by show 1 ≤ 1000; decide, fun a na => ⟨a, v, t, rfl, upd_same, vl.same (sNew (Same.refl H) na), fun H' s e => ⟨rfl, q H' a (back na s) na e⟩⟩⟩
def tE2 (D : Addr) (f f2 : Str) (i j : Nat) : TE := fun σ H Q => ∃ (v u : V) (t t2 : Str), σ[i]? = some (some v) ∧ σ[j]? = some (some u) ∧ Vl H v t ∧ Vl H u t2 ∧ ∀ H' a, Same H H' → H a = none → ErrAt H' a D [(f2, u), (f, v)] → Q (.ref a) H'
theorem pe_e2 {x y : Str} (Z : Er2 X.prog X.w X.K X.mg X.base nm f f2 D) (quiet : X.A.guards = some []) (room : Room 4 X.A) (gl : Gl X nm) (hv : PE X (.Name x p1) (tVar i)) (hu : PE X (.Name y p2) (tVar j)) (nd : (nm == ("__debug__" : Str)) = false := by decide)
    (st : starEach [.Name x p1, .Name y p2] X.env = (false, eval (.Name x p1) X.env) :: starEach [.Name y p2] X.env := by rfl) (pl : (backTo pos (starEach [.Name y p2] X.env)).any (·.1) = false := by rfl) : PE X (.Call (.Name nm p) [.Name x p1, .Name y p2] [] pos) (tE2 D f f2 i j) := by
  obtain ⟨g, fd, EK, B, _, F⟩ := Z.ex
  refine PE.imp (pe_newE EK F quiet room B pass0 gl Z.mgD (pa_cons hv (pa_cons hu pa_nil)) nd st pl) fun σ H Q h => ?_
  obtain ⟨v, u, t, t2, hσ, hσ2, vl, vl2, q⟩ := h
  refine ⟨v, hσ, u, hσ2, by show 2 ≤ 1000; decide, fun a na => ⟨a, v, u, t, t2, rfl, upd_same, vl.same (sNew (Same.refl H) na), vl2.same (sNew (Same.refl H) na), fun H' s e => ⟨rfl, q H' a (back na s) na e⟩⟩⟩
def tE0 (D : Addr) : TE := fun σ H Q => ∀ H' a, Same H H' → H a = none → ErrAt H' a D [] → Q (.ref a) H'
theorem pe_e0 (Z : Er0 X.prog X.w X.K X.mg X.base nm D) (quiet : X.A.guards = some []) (room : Room 4 X.A) (gl : Gl X nm) (nd : (nm == ("__debug__" : Str)) = false := by decide) : PE X (.Call (.Name nm p) [] [] pos) (tE0 D) := by
  obtain ⟨g, fd, EK, B, F⟩ := Z.ex
  refine PE.imp (pe_newE0 EK F quiet room B pass0 gl Z.mgD nd) fun σ H Q q => ?_
  exact ⟨by show 0 ≤ 1000; decide, fun a na => ⟨a, rfl, upd_same, fun H' s e => ⟨rfl, q H' a (back na s) na e⟩⟩⟩
/-- C(f=x).f and C(f2=y, f=x).g -/
theorem pe_k1 {x : Str} (Z : Er1 X.prog X.w X.K X.mg X.base nm f D) (quiet : X.A.guards = some []) (room : Room 4 X.A) (gl : Gl X nm) (hv : PE X (.Name x p1) (tVar i)) {kws : List Keyword} (args : PK X kws (tCons (tVar i) tNil))
    (named : (backToKw pos (keywordEach kws X.env)).all (·.1.isSome) = true := by rfl) (names : (backToKw pos (keywordEach kws X.env)).filterMap (·.1) = [f] := by rfl) (nd : (nm == ("__debug__" : Str)) = false := by decide)
    (pl : ((backTo pos (starEach [] X.env)).any (·.1) || (backToKw pos (keywordEach kws X.env)).any (·.1.isNone)) = false := by rfl) : PE X (.Call (.Name nm p) [] kws pos) (tE1 D f i) := by
  obtain ⟨g, fd, EK, _, B, F⟩ := Z.ex
  refine PE.imp (pe_newEK (ks := [f]) (gg := id) (gv := id) EK F quiet room (fun s self ws _ hl => ?_) (fun r => r) pass0 gl Z.mgD args named names nd pl) fun σ H Q h => ?_
  · match ws, hl with
    | [v], _ => exact B s self v
  · obtain ⟨v, t, hσ, vl, q⟩ := h
    refine ⟨v, hσ, rfl, fun a na => ⟨a, v, t, rfl, upd_same, vl.same (sNew (Same.refl H) na), fun H' s e => ⟨rfl, q H' a (back na s) na e⟩⟩⟩
def rv2 : List Value → List Value
  | [u, v] => [v, u]
  | _ => []
def rv2V : List V → List V
  | [u, v] => [v, u]
  | _ => []
theorem rv2_rel {vs : List V} {us : List Value} (r : Vals vs us) : Vals (rv2V vs) (rv2 us) := by
  cases r with
  | nil => exact .nil
  | cons a r =>
    cases r with
    | nil => exact .nil
    | cons b r =>
      cases r with
      | nil => exact .cons b (.cons a .nil)
      | cons _ _ => exact .nil
theorem pe_k2 (Z : Er2 X.prog X.w X.K X.mg X.base nm f f2 D) (quiet : X.A.guards = some []) (room : Room 4 X.A) (gl : Gl X nm) {kws : List Keyword} (args : PK X kws (tCons (tVar j) (tCons (tVar i) tNil)))
    (named : (backToKw pos (keywordEach kws X.env)).all (·.1.isSome) = true := by rfl) (names : (backToKw pos (keywordEach kws X.env)).filterMap (·.1) = [f2, f] := by rfl) (nd : (nm == ("__debug__" : Str)) = false := by decide)
    (pl : ((backTo pos (starEach [] X.env)).any (·.1) || (backToKw pos (keywordEach kws X.env)).any (·.1.isNone)) = false := by rfl) : PE X (.Call (.Name nm p) [] kws pos) (tE2 D f f2 i j) := by
  obtain ⟨g, fd, EK, _, B, F⟩ := Z.ex
  refine PE.imp (pe_newEK (ks := [f2, f]) (gg := rv2) (gv := rv2V) EK F quiet room (fun s self ws _ hl => ?_) rv2_rel pass0 gl Z.mgD args named names nd pl) fun σ H Q h => ?_
  · match ws, hl with
    | [u, v], _ => exact B s self v u
  · obtain ⟨v, u, t, t2, hσ, hσ2, vl, vl2, q⟩ := h
    refine ⟨u, hσ2, v, hσ, rfl, fun a na => ⟨a, v, u, t, t2, rfl, upd_same, vl.same (sNew (Same.refl H) na), vl2.same (sNew (Same.refl H) na), fun H' s e => ⟨rfl, q H' a (back na s) na e⟩⟩⟩
/-- e.f of such an error -/
def tAt (K : PySem.W.Frag) (f : Str) (te : TE) : TE := fun σ H Q => te σ H fun x H1 => ∃ (a D : Addr) (fs : List (Str × V)) (v : V), x = .ref a ∧ XfC K D ∧ PySem.W.findIn K (.ref D) f = some none ∧ ErrAt H1 a D fs ∧ fs.lookup f = some v ∧ Q v H1
theorem pe_at {e : Expr} {te : TE} {pos : Pos} {n : Str} (mono : ∀ σ H Q R, te σ H Q → (∀ v H', Q v H' → R v H') → te σ H R) (he : PE X e te) (hb : attributeBase e n X.env (eval e X.env) = eval e X.env := by rfl) : PE X (.Attribute e n pos) (tAt X.K n te) := by
  refine PE.imp (pe_fldE he hb) fun σ H Q h => ?_
  refine mono _ _ _ _ h fun x H1 z => ?_
  obtain ⟨a, D, fs, v, rfl, xf, no, ⟨t, m, _, z⟩, l, q⟩ := z
  rcases z with ⟨rfl, _⟩ | ⟨dx, ea, ed⟩
  · cases l
  · exact ⟨a, D, t, dx, fs, v, rfl, xf, no, ea, ed, l, q⟩
theorem mono_var {i : Nat} : ∀ (σ : St) (H : Hp) (Q R : VK), tVar i σ H Q → (∀ v H', Q v H' → R v H') → tVar i σ H R := fun σ H Q R h z => by
  obtain ⟨v, e, q⟩ := h
  exact ⟨v, e, z _ _ q⟩
theorem mono_e1 {D : Addr} {f : Str} {i : Nat} : ∀ (σ : St) (H : Hp) (Q R : VK), tE1 D f i σ H Q → (∀ v H', Q v H' → R v H') → tE1 D f i σ H R := fun σ H Q R h z => by
  obtain ⟨v, t, e, vl, q⟩ := h
  exact ⟨v, t, e, vl, fun H' a s n er => z _ _ (q H' a s n er)⟩
theorem mono_e2 {D : Addr} {f f2 : Str} {i j : Nat} : ∀ (σ : St) (H : Hp) (Q R : VK), tE2 D f f2 i j σ H Q → (∀ v H', Q v H' → R v H') → tE2 D f f2 i j σ H R := fun σ H Q R h z => by
  obtain ⟨v, u, t, t2, e, e2, vl, vl2, q⟩ := h
  exact ⟨v, u, t, t2, e, e2, vl, vl2, fun H' a s n er => z _ _ (q H' a s n er)⟩
end
end S14

namespace S14
open PySem L2 GM
/-- a def with __class__ captured -/
abbrev fnC (name qual : Str) (params : Arguments) (body : List Stmt) (scope : Scope) (dV kV doc pm : Value) (an : Option Addr) (cdv ct : Value) (cc : Addr) : FuncData :=
  { name, qualname := qual, params, body := .stmts body, scope, globals := mainGlobals, closure := [(("__class__" : Str), cc)], defaults := dV, kwdefaults := kV, doc, pyModule := pm, annotations := an, code := cdv, closureTuple := ct, builtins := builtinsNs }
abbrev veTail : List Value := [.type "ValueError", .type "Exception", .type "BaseException", .type "object"]
def arOf (st : Stmt) : Arg := ((defArgs st).posonlyargs ++ (defArgs st).args).headD (Arg.mk "" none ⟨0, 0, 0, 0⟩)
theorem js1 {z : Str} (h : z.length ≤ 200) : (Str.empty ++ z).length ≤ sizeLine := by
  rw [strLen_append, sizeLine_eq]; have : Str.empty.length = 0 := rfl; omega
theorem js2 {z t : Str} (h : z.length ≤ 200) (h2 : t.length ≤ 6000) : (Str.empty ++ z ++ t).length ≤ sizeLine := by
  rw [strLen_append, strLen_append, sizeLine_eq]; have : Str.empty.length = 0 := rfl; omega
theorem js3 {z t y : Str} (h : z.length ≤ 200) (h2 : t.length ≤ 6000) (h3 : y.length ≤ 200) : (Str.empty ++ z ++ t ++ y).length ≤ sizeLine := by
  rw [strLen_append, strLen_append, strLen_append, sizeLine_eq]; have : Str.empty.length = 0 := rfl; omega
theorem js4 {z t y u : Str} (h : z.length ≤ 200) (h2 : t.length ≤ 6000) (h3 : y.length ≤ 200) (h4 : u.length ≤ 6000) : (Str.empty ++ z ++ t ++ y ++ u).length ≤ sizeLine := by
  rw [strLen_append, strLen_append, strLen_append, strLen_append, sizeLine_eq]; have : Str.empty.length = 0 := rfl; omega
section
variable {P : Program} {w : World} {K : PySem.W.Frag} {mg : Str → Option Value} {base : Heap} {f D cc : Addr} {cd1 : Option Addr} {sl1 : Array (Option Value)} {kV doc pm cdv ct : Value} {an : Option Addr}
theorem ok_i0 (hcd : PySem.W.codeIn K cdv "InvalidNumber.__init__" = true) (hcc : K.lookup cc = some ⟨.type "cell", cd1, .cell (some (.ref D)), sl1⟩) (T : SupK "ValueError" "ValueError.__new__" "ValueError.__init__" veTail P K mg D f (fnC "__init__" "InvalidNumber.__init__" (defArgs sI0) (defBody sI0) (defScope sI0) .none kV doc pm an cdv ct cc) (arOf sI0)) (O : EsC K D) (no0 : PySem.W.findIn K (.ref D) "value" = some none) :
    FnG P w K mg base CX0 3 f (fnC "__init__" "InvalidNumber.__init__" (defArgs sI0) (defBody sI0) (defScope sI0) .none kV doc pm an cdv ct cc) ["self", "value"] (spE1 D "value") := by
  refine fn_supT (k := 2) (N := ["self", "value"]) ⟨rfl, rfl, rfl, by decide, rfl, by show ∀ x ∈ [("self" : Str), "value"], (defScope sI0).names.lookup x = some .local; decide +kernel, by show ∀ y ∈ (defScope sI0).names, y.2 ≠ .cell; decide +kernel, by show ∀ y ∈ (defScope sI0).names, y.2 = .free → y.1 = ("__class__" : Str); decide +kernel, rfl, rfl, rfl, rfl, rfl⟩ hcc F.excBase_ValueError PySem.W.kxs_ValueError T rfl hcd rfl (fun vs H Q E h => ?_) (fun env => rfl) (fun env => rfl) (fun L => rfl) (fun L => rfl) (fun A outer s H vs Q E gd hr h => ?_)
  · obtain ⟨a, v, t, rfl, _⟩ := h
    rfl
  · obtain ⟨a, v, t, rfl, ha, vl, q⟩ := h
    refine ⟨a, _, _, rfl, ha, pa_cons (pe_joined (PJ.cons pe_str (PJ.cons (pe_fmtG (k := 2) (deeper_guards.trans gd) hr (pv 1)) PJ.nil))) pa_nil, pss_one (ps_est (pv 0) (pv 1)), ?_⟩
    have few : ("not a number: " : Str).length ≤ 200 := by decide +kernel
    have line : t.length ≤ 6000 := Nat.le_trans vl.len (by decide)
    refine ⟨_, rfl, js1 few, _, rfl, t, fun G => G = H, _, rfl, vl.sg.mono (by decide) (fun _ e => e), Nat.le_trans line (by rw [sizeLine_eq]; decide), fun G j => ?_⟩
    subst j
    refine ⟨_, rfl, js2 few line, by show 1 ≤ 1000; decide, ha, fun y ny ne => ?_⟩
    exact ⟨_, rfl, _, rfl, a, D, y, rfl, O, no0, .inl ⟨upd_same, fun dx nd nda => q _ (end1 ny ne nd nda).1 (end1 ny ne nd nda).2⟩⟩
theorem ok_i1 (hcd : PySem.W.codeIn K cdv "InvalidName.__init__" = true) (hcc : K.lookup cc = some ⟨.type "cell", cd1, .cell (some (.ref D)), sl1⟩) (T : SupK "ValueError" "ValueError.__new__" "ValueError.__init__" veTail P K mg D f (fnC "__init__" "InvalidName.__init__" (defArgs sI1) (defBody sI1) (defScope sI1) .none kV doc pm an cdv ct cc) (arOf sI1)) (O : EsC K D) (no0 : PySem.W.findIn K (.ref D) "value" = some none) :
    FnG P w K mg base CX0 3 f (fnC "__init__" "InvalidName.__init__" (defArgs sI1) (defBody sI1) (defScope sI1) .none kV doc pm an cdv ct cc) ["self", "value"] (spE1 D "value") := by
  refine fn_supT (k := 2) (N := ["self", "value"]) ⟨rfl, rfl, rfl, by decide, rfl, by show ∀ x ∈ [("self" : Str), "value"], (defScope sI1).names.lookup x = some .local; decide +kernel, by show ∀ y ∈ (defScope sI1).names, y.2 ≠ .cell; decide +kernel, by show ∀ y ∈ (defScope sI1).names, y.2 = .free → y.1 = ("__class__" : Str); decide +kernel, rfl, rfl, rfl, rfl, rfl⟩ hcc F.excBase_ValueError PySem.W.kxs_ValueError T rfl hcd rfl (fun vs H Q E h => ?_) (fun env => rfl) (fun env => rfl) (fun L => rfl) (fun L => rfl) (fun A outer s H vs Q E gd hr h => ?_)
  · obtain ⟨a, v, t, rfl, _⟩ := h
    rfl
  · obtain ⟨a, v, t, rfl, ha, vl, q⟩ := h
    refine ⟨a, _, _, rfl, ha, pa_cons (pe_joined (PJ.cons pe_str (PJ.cons (pe_fmtG (k := 2) (deeper_guards.trans gd) hr (pv 1)) PJ.nil))) pa_nil, pss_one (ps_est (pv 0) (pv 1)), ?_⟩
    have few : ("not a name: " : Str).length ≤ 200 := by decide +kernel
    have line : t.length ≤ 6000 := Nat.le_trans vl.len (by decide)
    refine ⟨_, rfl, js1 few, _, rfl, t, fun G => G = H, _, rfl, vl.sg.mono (by decide) (fun _ e => e), Nat.le_trans line (by rw [sizeLine_eq]; decide), fun G j => ?_⟩
    subst j
    refine ⟨_, rfl, js2 few line, by show 1 ≤ 1000; decide, ha, fun y ny ne => ?_⟩
    exact ⟨_, rfl, _, rfl, a, D, y, rfl, O, no0, .inl ⟨upd_same, fun dx nd nda => q _ (end1 ny ne nd nda).1 (end1 ny ne nd nda).2⟩⟩
theorem ok_i2 (hcd : PySem.W.codeIn K cdv "InvalidCount.__init__" = true) (hcc : K.lookup cc = some ⟨.type "cell", cd1, .cell (some (.ref D)), sl1⟩) (T : SupK "ValueError" "ValueError.__new__" "ValueError.__init__" veTail P K mg D f (fnC "__init__" "InvalidCount.__init__" (defArgs sI2) (defBody sI2) (defScope sI2) .none kV doc pm an cdv ct cc) (arOf sI2)) (O : EsC K D) (no0 : PySem.W.findIn K (.ref D) "value" = some none) :
    FnG P w K mg base CX0 3 f (fnC "__init__" "InvalidCount.__init__" (defArgs sI2) (defBody sI2) (defScope sI2) .none kV doc pm an cdv ct cc) ["self", "value"] (spE1 D "value") := by
  refine fn_supT (k := 2) (N := ["self", "value"]) ⟨rfl, rfl, rfl, by decide, rfl, by show ∀ x ∈ [("self" : Str), "value"], (defScope sI2).names.lookup x = some .local; decide +kernel, by show ∀ y ∈ (defScope sI2).names, y.2 ≠ .cell; decide +kernel, by show ∀ y ∈ (defScope sI2).names, y.2 = .free → y.1 = ("__class__" : Str); decide +kernel, rfl, rfl, rfl, rfl, rfl⟩ hcc F.excBase_ValueError PySem.W.kxs_ValueError T rfl hcd rfl (fun vs H Q E h => ?_) (fun env => rfl) (fun env => rfl) (fun L => rfl) (fun L => rfl) (fun A outer s H vs Q E gd hr h => ?_)
  · obtain ⟨a, v, t, rfl, _⟩ := h
    rfl
  · obtain ⟨a, v, t, rfl, ha, vl, q⟩ := h
    refine ⟨a, _, _, rfl, ha, pa_cons (pe_joined (PJ.cons pe_str (PJ.cons (pe_fmtG (k := 2) (deeper_guards.trans gd) hr (pv 1)) PJ.nil))) pa_nil, pss_one (ps_est (pv 0) (pv 1)), ?_⟩
    have few : ("not a count that is allowed here: " : Str).length ≤ 200 := by decide +kernel
    have line : t.length ≤ 6000 := Nat.le_trans vl.len (by decide)
    refine ⟨_, rfl, js1 few, _, rfl, t, fun G => G = H, _, rfl, vl.sg.mono (by decide) (fun _ e => e), Nat.le_trans line (by rw [sizeLine_eq]; decide), fun G j => ?_⟩
    subst j
    refine ⟨_, rfl, js2 few line, by show 1 ≤ 1000; decide, ha, fun y ny ne => ?_⟩
    exact ⟨_, rfl, _, rfl, a, D, y, rfl, O, no0, .inl ⟨upd_same, fun dx nd nda => q _ (end1 ny ne nd nda).1 (end1 ny ne nd nda).2⟩⟩
theorem ok_i3 (hcd : PySem.W.codeIn K cdv "InvalidSlots.__init__" = true) (hcc : K.lookup cc = some ⟨.type "cell", cd1, .cell (some (.ref D)), sl1⟩) (T : SupK "ValueError" "ValueError.__new__" "ValueError.__init__" veTail P K mg D f (fnC "__init__" "InvalidSlots.__init__" (defArgs sI3) (defBody sI3) (defScope sI3) .none kV doc pm an cdv ct cc) (arOf sI3)) (O : EsC K D) (no0 : PySem.W.findIn K (.ref D) "position" = some none) :
    FnG P w K mg base CX0 3 f (fnC "__init__" "InvalidSlots.__init__" (defArgs sI3) (defBody sI3) (defScope sI3) .none kV doc pm an cdv ct cc) ["self", "position"] (spE1 D "position") := by
  refine fn_supT (k := 2) (N := ["self", "position"]) ⟨rfl, rfl, rfl, by decide, rfl, by show ∀ x ∈ [("self" : Str), "position"], (defScope sI3).names.lookup x = some .local; decide +kernel, by show ∀ y ∈ (defScope sI3).names, y.2 ≠ .cell; decide +kernel, by show ∀ y ∈ (defScope sI3).names, y.2 = .free → y.1 = ("__class__" : Str); decide +kernel, rfl, rfl, rfl, rfl, rfl⟩ hcc F.excBase_ValueError PySem.W.kxs_ValueError T rfl hcd rfl (fun vs H Q E h => ?_) (fun env => rfl) (fun env => rfl) (fun L => rfl) (fun L => rfl) (fun A outer s H vs Q E gd hr h => ?_)
  · obtain ⟨a, v, t, rfl, _⟩ := h
    rfl
  · obtain ⟨a, v, t, rfl, ha, vl, q⟩ := h
    refine ⟨a, _, _, rfl, ha, pa_cons (pe_joined (PJ.cons pe_str (PJ.cons (pe_fmtG (k := 2) (deeper_guards.trans gd) hr (pv 1)) PJ.nil))) pa_nil, pss_one (ps_est (pv 0) (pv 1)), ?_⟩
    have few : ("not a list of one to four sorts, at position " : Str).length ≤ 200 := by decide +kernel
    have line : t.length ≤ 6000 := Nat.le_trans vl.len (by decide)
    refine ⟨_, rfl, js1 few, _, rfl, t, fun G => G = H, _, rfl, vl.sg.mono (by decide) (fun _ e => e), Nat.le_trans line (by rw [sizeLine_eq]; decide), fun G j => ?_⟩
    subst j
    refine ⟨_, rfl, js2 few line, by show 1 ≤ 1000; decide, ha, fun y ny ne => ?_⟩
    exact ⟨_, rfl, _, rfl, a, D, y, rfl, O, no0, .inl ⟨upd_same, fun dx nd nda => q _ (end1 ny ne nd nda).1 (end1 ny ne nd nda).2⟩⟩
theorem ok_i4 (hcd : PySem.W.codeIn K cdv "InvalidTurn.__init__" = true) (hcc : K.lookup cc = some ⟨.type "cell", cd1, .cell (some (.ref D)), sl1⟩) (T : SupK "ValueError" "ValueError.__new__" "ValueError.__init__" veTail P K mg D f (fnC "__init__" "InvalidTurn.__init__" (defArgs sI4) (defBody sI4) (defScope sI4) .none kV doc pm an cdv ct cc) (arOf sI4)) (O : EsC K D) (no0 : PySem.W.findIn K (.ref D) "position" = some none) :
    FnG P w K mg base CX0 3 f (fnC "__init__" "InvalidTurn.__init__" (defArgs sI4) (defBody sI4) (defScope sI4) .none kV doc pm an cdv ct cc) ["self", "position"] (spE1 D "position") := by
  refine fn_supT (k := 2) (N := ["self", "position"]) ⟨rfl, rfl, rfl, by decide, rfl, by show ∀ x ∈ [("self" : Str), "position"], (defScope sI4).names.lookup x = some .local; decide +kernel, by show ∀ y ∈ (defScope sI4).names, y.2 ≠ .cell; decide +kernel, by show ∀ y ∈ (defScope sI4).names, y.2 = .free → y.1 = ("__class__" : Str); decide +kernel, rfl, rfl, rfl, rfl, rfl⟩ hcc F.excBase_ValueError PySem.W.kxs_ValueError T rfl hcd rfl (fun vs H Q E h => ?_) (fun env => rfl) (fun env => rfl) (fun L => rfl) (fun L => rfl) (fun A outer s H vs Q E gd hr h => ?_)
  · obtain ⟨a, v, t, rfl, _⟩ := h
    rfl
  · obtain ⟨a, v, t, rfl, ha, vl, q⟩ := h
    refine ⟨a, _, _, rfl, ha, pa_cons (pe_joined (PJ.cons pe_str (PJ.cons (pe_fmtG (k := 2) (deeper_guards.trans gd) hr (pv 1)) PJ.nil))) pa_nil, pss_one (ps_est (pv 0) (pv 1)), ?_⟩
    have few : ("not a turn for the slots of the table, at position " : Str).length ≤ 200 := by decide +kernel
    have line : t.length ≤ 6000 := Nat.le_trans vl.len (by decide)
    refine ⟨_, rfl, js1 few, _, rfl, t, fun G => G = H, _, rfl, vl.sg.mono (by decide) (fun _ e => e), Nat.le_trans line (by rw [sizeLine_eq]; decide), fun G j => ?_⟩
    subst j
    refine ⟨_, rfl, js2 few line, by show 1 ≤ 1000; decide, ha, fun y ny ne => ?_⟩
    exact ⟨_, rfl, _, rfl, a, D, y, rfl, O, no0, .inl ⟨upd_same, fun dx nd nda => q _ (end1 ny ne nd nda).1 (end1 ny ne nd nda).2⟩⟩
theorem ok_i5 (hcd : PySem.W.codeIn K cdv "InvalidPlaces.__init__" = true) (hcc : K.lookup cc = some ⟨.type "cell", cd1, .cell (some (.ref D)), sl1⟩) (T : SupK "ValueError" "ValueError.__new__" "ValueError.__init__" veTail P K mg D f (fnC "__init__" "InvalidPlaces.__init__" (defArgs sI5) (defBody sI5) (defScope sI5) .none kV doc pm an cdv ct cc) (arOf sI5)) (O : EsC K D) (no0 : PySem.W.findIn K (.ref D) "value" = some none) :
    FnG P w K mg base CX0 3 f (fnC "__init__" "InvalidPlaces.__init__" (defArgs sI5) (defBody sI5) (defScope sI5) .none kV doc pm an cdv ct cc) ["self", "value"] (spE1 D "value") := by
  refine fn_supT (k := 2) (N := ["self", "value"]) ⟨rfl, rfl, rfl, by decide, rfl, by show ∀ x ∈ [("self" : Str), "value"], (defScope sI5).names.lookup x = some .local; decide +kernel, by show ∀ y ∈ (defScope sI5).names, y.2 ≠ .cell; decide +kernel, by show ∀ y ∈ (defScope sI5).names, y.2 = .free → y.1 = ("__class__" : Str); decide +kernel, rfl, rfl, rfl, rfl, rfl⟩ hcc F.excBase_ValueError PySem.W.kxs_ValueError T rfl hcd rfl (fun vs H Q E h => ?_) (fun env => rfl) (fun env => rfl) (fun L => rfl) (fun L => rfl) (fun A outer s H vs Q E gd hr h => ?_)
  · obtain ⟨a, v, t, rfl, _⟩ := h
    rfl
  · obtain ⟨a, v, t, rfl, ha, vl, q⟩ := h
    refine ⟨a, _, _, rfl, ha, pa_cons (pe_joined (PJ.cons pe_str (PJ.cons (pe_fmtG (k := 2) (deeper_guards.trans gd) hr (pv 1)) PJ.nil))) pa_nil, pss_one (ps_est (pv 0) (pv 1)), ?_⟩
    have few : ("not places that are allowed here: " : Str).length ≤ 200 := by decide +kernel
    have line : t.length ≤ 6000 := Nat.le_trans vl.len (by decide)
    refine ⟨_, rfl, js1 few, _, rfl, t, fun G => G = H, _, rfl, vl.sg.mono (by decide) (fun _ e => e), Nat.le_trans line (by rw [sizeLine_eq]; decide), fun G j => ?_⟩
    subst j
    refine ⟨_, rfl, js2 few line, by show 1 ≤ 1000; decide, ha, fun y ny ne => ?_⟩
    exact ⟨_, rfl, _, rfl, a, D, y, rfl, O, no0, .inl ⟨upd_same, fun dx nd nda => q _ (end1 ny ne nd nda).1 (end1 ny ne nd nda).2⟩⟩
theorem ok_i6 (hcd : PySem.W.codeIn K cdv "InvalidSizes.__init__" = true) (hcc : K.lookup cc = some ⟨.type "cell", cd1, .cell (some (.ref D)), sl1⟩) (T : SupK "ValueError" "ValueError.__new__" "ValueError.__init__" veTail P K mg D f (fnC "__init__" "InvalidSizes.__init__" (defArgs sI6) (defBody sI6) (defScope sI6) .none kV doc pm an cdv ct cc) (arOf sI6)) (O : EsC K D) (no0 : PySem.W.findIn K (.ref D) "value" = some none) :
    FnG P w K mg base CX0 3 f (fnC "__init__" "InvalidSizes.__init__" (defArgs sI6) (defBody sI6) (defScope sI6) .none kV doc pm an cdv ct cc) ["self", "value"] (spE1 D "value") := by
  refine fn_supT (k := 2) (N := ["self", "value"]) ⟨rfl, rfl, rfl, by decide, rfl, by show ∀ x ∈ [("self" : Str), "value"], (defScope sI6).names.lookup x = some .local; decide +kernel, by show ∀ y ∈ (defScope sI6).names, y.2 ≠ .cell; decide +kernel, by show ∀ y ∈ (defScope sI6).names, y.2 = .free → y.1 = ("__class__" : Str); decide +kernel, rfl, rfl, rfl, rfl, rfl⟩ hcc F.excBase_ValueError PySem.W.kxs_ValueError T rfl hcd rfl (fun vs H Q E h => ?_) (fun env => rfl) (fun env => rfl) (fun L => rfl) (fun L => rfl) (fun A outer s H vs Q E gd hr h => ?_)
  · obtain ⟨a, v, t, rfl, _⟩ := h
    rfl
  · obtain ⟨a, v, t, rfl, ha, vl, q⟩ := h
    refine ⟨a, _, _, rfl, ha, pa_cons (pe_joined (PJ.cons pe_str (PJ.cons (pe_fmtG (k := 2) (deeper_guards.trans gd) hr (pv 1)) PJ.nil))) pa_nil, pss_one (ps_est (pv 0) (pv 1)), ?_⟩
    have few : ("not a dict from sorts to sizes: " : Str).length ≤ 200 := by decide +kernel
    have line : t.length ≤ 6000 := Nat.le_trans vl.len (by decide)
    refine ⟨_, rfl, js1 few, _, rfl, t, fun G => G = H, _, rfl, vl.sg.mono (by decide) (fun _ e => e), Nat.le_trans line (by rw [sizeLine_eq]; decide), fun G j => ?_⟩
    subst j
    refine ⟨_, rfl, js2 few line, by show 1 ≤ 1000; decide, ha, fun y ny ne => ?_⟩
    exact ⟨_, rfl, _, rfl, a, D, y, rfl, O, no0, .inl ⟨upd_same, fun dx nd nda => q _ (end1 ny ne nd nda).1 (end1 ny ne nd nda).2⟩⟩
theorem ok_i7 (hcd : PySem.W.codeIn K cdv "InvalidContents.__init__" = true) (hcc : K.lookup cc = some ⟨.type "cell", cd1, .cell (some (.ref D)), sl1⟩) (T : SupK "ValueError" "ValueError.__new__" "ValueError.__init__" veTail P K mg D f (fnC "__init__" "InvalidContents.__init__" (defArgs sI7) (defBody sI7) (defScope sI7) .none kV doc pm an cdv ct cc) (arOf sI7)) (O : EsC K D) (no0 : PySem.W.findIn K (.ref D) "position" = some none) :
    FnG P w K mg base CX0 3 f (fnC "__init__" "InvalidContents.__init__" (defArgs sI7) (defBody sI7) (defScope sI7) .none kV doc pm an cdv ct cc) ["self", "position"] (spE1 D "position") := by
  refine fn_supT (k := 2) (N := ["self", "position"]) ⟨rfl, rfl, rfl, by decide, rfl, by show ∀ x ∈ [("self" : Str), "position"], (defScope sI7).names.lookup x = some .local; decide +kernel, by show ∀ y ∈ (defScope sI7).names, y.2 ≠ .cell; decide +kernel, by show ∀ y ∈ (defScope sI7).names, y.2 = .free → y.1 = ("__class__" : Str); decide +kernel, rfl, rfl, rfl, rfl, rfl⟩ hcc F.excBase_ValueError PySem.W.kxs_ValueError T rfl hcd rfl (fun vs H Q E h => ?_) (fun env => rfl) (fun env => rfl) (fun L => rfl) (fun L => rfl) (fun A outer s H vs Q E gd hr h => ?_)
  · obtain ⟨a, v, t, rfl, _⟩ := h
    rfl
  · obtain ⟨a, v, t, rfl, ha, vl, q⟩ := h
    refine ⟨a, _, _, rfl, ha, pa_cons (pe_joined (PJ.cons pe_str (PJ.cons (pe_fmtG (k := 2) (deeper_guards.trans gd) hr (pv 1)) PJ.nil))) pa_nil, pss_one (ps_est (pv 0) (pv 1)), ?_⟩
    have few : ("not a table with its entries, or the second table of a name, at position " : Str).length ≤ 200 := by decide +kernel
    have line : t.length ≤ 6000 := Nat.le_trans vl.len (by decide)
    refine ⟨_, rfl, js1 few, _, rfl, t, fun G => G = H, _, rfl, vl.sg.mono (by decide) (fun _ e => e), Nat.le_trans line (by rw [sizeLine_eq]; decide), fun G j => ?_⟩
    subst j
    refine ⟨_, rfl, js2 few line, by show 1 ≤ 1000; decide, ha, fun y ny ne => ?_⟩
    exact ⟨_, rfl, _, rfl, a, D, y, rfl, O, no0, .inl ⟨upd_same, fun dx nd nda => q _ (end1 ny ne nd nda).1 (end1 ny ne nd nda).2⟩⟩
theorem ok_i8 (hcd : PySem.W.codeIn K cdv "InvalidEntry.__init__" = true) (hcc : K.lookup cc = some ⟨.type "cell", cd1, .cell (some (.ref D)), sl1⟩) (T : SupK "ValueError" "ValueError.__new__" "ValueError.__init__" veTail P K mg D f (fnC "__init__" "InvalidEntry.__init__" (defArgs sI8) (defBody sI8) (defScope sI8) .none kV doc pm an cdv ct cc) (arOf sI8)) (O : EsC K D) (no0 : PySem.W.findIn K (.ref D) "position" = some none) (no1 : PySem.W.findIn K (.ref D) "places" = some none) :
    FnG P w K mg base CX0 3 f (fnC "__init__" "InvalidEntry.__init__" (defArgs sI8) (defBody sI8) (defScope sI8) .none kV doc pm an cdv ct cc) ["self", "position", "places"] (spE2 D "position" "places") := by
  refine fn_supT (k := 2) (N := ["self", "position", "places"]) ⟨rfl, rfl, rfl, by decide, rfl, by show ∀ x ∈ [("self" : Str), "position", "places"], (defScope sI8).names.lookup x = some .local; decide +kernel, by show ∀ y ∈ (defScope sI8).names, y.2 ≠ .cell; decide +kernel, by show ∀ y ∈ (defScope sI8).names, y.2 = .free → y.1 = ("__class__" : Str); decide +kernel, rfl, rfl, rfl, rfl, rfl⟩ hcc F.excBase_ValueError PySem.W.kxs_ValueError T rfl hcd rfl (fun vs H Q E h => ?_) (fun env => rfl) (fun env => rfl) (fun L => rfl) (fun L => rfl) (fun A outer s H vs Q E gd hr h => ?_)
  · obtain ⟨a, v, u, t, t2, rfl, _⟩ := h
    rfl
  · obtain ⟨a, v, u, t, t2, rfl, ha, vl, vl2, q⟩ := h
    refine ⟨a, _, _, rfl, ha, pa_cons (pe_joined (PJ.cons pe_str (PJ.cons (pe_fmtG (k := 2) (deeper_guards.trans gd) hr (pv 2)) (PJ.cons pe_str (PJ.cons (pe_fmtG (k := 2) (deeper_guards.trans gd) hr (pv 1)) PJ.nil))))) pa_nil, pss_cons (ps_est (pv 0) (pv 1)) (pss_one (ps_est (pv 0) (pv 2))), ?_⟩
    have few : ("the entry at " : Str).length ≤ 200 := by decide +kernel
    have few2 : (" is not possible, at position " : Str).length ≤ 200 := by decide +kernel
    have l1 : t.length ≤ 6000 := Nat.le_trans vl.len (by decide)
    have l2 : t2.length ≤ 6000 := Nat.le_trans vl2.len (by decide)
    refine ⟨_, rfl, js1 few, _, rfl, t2, fun G => G = H, _, rfl, vl2.sg.mono (by decide) (fun _ e => e), Nat.le_trans l2 (by rw [sizeLine_eq]; decide), fun G j => ?_⟩
    subst j
    refine ⟨_, rfl, js2 few l2, _, rfl, js3 few l2 few2, _, rfl, t, fun J => J = G, _, rfl, vl.sg.mono (by decide) (fun _ e => e), Nat.le_trans l1 (by rw [sizeLine_eq]; decide), fun J j => ?_⟩
    subst j
    refine ⟨_, rfl, js4 few l2 few2 l1, by show 1 ≤ 1000; decide, ha, fun y ny ne => ?_⟩
    refine ⟨_, rfl, _, rfl, a, D, y, rfl, O, no0, .inl ⟨upd_same, fun dx nd nda => ?_⟩⟩
    obtain ⟨x1, x2⟩ := end1 (f := "position") (v := v) ny ne nd nda
    have nyd : y ≠ dx := fun z => by rw [← z, upd_ne ne, upd_same] at nd; cases nd
    obtain ⟨y1, y2⟩ := end2 (g := "places") (u := u) (fs := [("position", v)]) x1 (by rw [upd_ne nda, upd_ne nyd.symm] at nd; exact nd) nda x2 upd_same ⟨_, by rw [upd_ne ne, upd_ne nyd, upd_ne ne]; exact upd_same⟩ nyd
    exact ⟨_, rfl, _, rfl, a, D, y, rfl, O, no1, .inr ⟨dx, _, upd_same, by rw [upd_ne nda]; exact upd_same, (by show 1 ≤ 900; decide), q _ y1 y2⟩⟩
theorem ok_i9 (hcd : PySem.W.codeIn K cdv "InvalidTold.__init__" = true) (hcc : K.lookup cc = some ⟨.type "cell", cd1, .cell (some (.ref D)), sl1⟩) (T : SupK "ValueError" "ValueError.__new__" "ValueError.__init__" veTail P K mg D f (fnC "__init__" "InvalidTold.__init__" (defArgs sI9) (defBody sI9) (defScope sI9) .none kV doc pm an cdv ct cc) (arOf sI9)) (O : EsC K D) (no0 : PySem.W.findIn K (.ref D) "position" = some none) :
    FnG P w K mg base CX0 3 f (fnC "__init__" "InvalidTold.__init__" (defArgs sI9) (defBody sI9) (defScope sI9) .none kV doc pm an cdv ct cc) ["self", "position"] (spE1 D "position") := by
  refine fn_supT (k := 2) (N := ["self", "position"]) ⟨rfl, rfl, rfl, by decide, rfl, by show ∀ x ∈ [("self" : Str), "position"], (defScope sI9).names.lookup x = some .local; decide +kernel, by show ∀ y ∈ (defScope sI9).names, y.2 ≠ .cell; decide +kernel, by show ∀ y ∈ (defScope sI9).names, y.2 = .free → y.1 = ("__class__" : Str); decide +kernel, rfl, rfl, rfl, rfl, rfl⟩ hcc F.excBase_ValueError PySem.W.kxs_ValueError T rfl hcd rfl (fun vs H Q E h => ?_) (fun env => rfl) (fun env => rfl) (fun L => rfl) (fun L => rfl) (fun A outer s H vs Q E gd hr h => ?_)
  · obtain ⟨a, v, t, rfl, _⟩ := h
    rfl
  · obtain ⟨a, v, t, rfl, ha, vl, q⟩ := h
    refine ⟨a, _, _, rfl, ha, pa_cons (pe_joined (PJ.cons pe_str (PJ.cons (pe_fmtG (k := 2) (deeper_guards.trans gd) hr (pv 1)) PJ.nil))) pa_nil, pss_one (ps_est (pv 0) (pv 1)), ?_⟩
    have few : ("not a told row, at position " : Str).length ≤ 200 := by decide +kernel
    have line : t.length ≤ 6000 := Nat.le_trans vl.len (by decide)
    refine ⟨_, rfl, js1 few, _, rfl, t, fun G => G = H, _, rfl, vl.sg.mono (by decide) (fun _ e => e), Nat.le_trans line (by rw [sizeLine_eq]; decide), fun G j => ?_⟩
    subst j
    refine ⟨_, rfl, js2 few line, by show 1 ≤ 1000; decide, ha, fun y ny ne => ?_⟩
    exact ⟨_, rfl, _, rfl, a, D, y, rfl, O, no0, .inl ⟨upd_same, fun dx nd nda => q _ (end1 ny ne nd nda).1 (end1 ny ne nd nda).2⟩⟩
theorem ok_i10 (hcd : PySem.W.codeIn K cdv "InvalidFactors.__init__" = true) (hcc : K.lookup cc = some ⟨.type "cell", cd1, .cell (some (.ref D)), sl1⟩) (T : SupK "ValueError" "ValueError.__new__" "ValueError.__init__" veTail P K mg D f (fnC "__init__" "InvalidFactors.__init__" (defArgs sI10) (defBody sI10) (defScope sI10) .none kV doc pm an cdv ct cc) (arOf sI10)) (O : EsC K D) (no0 : PySem.W.findIn K (.ref D) "position" = some none) :
    FnG P w K mg base CX0 3 f (fnC "__init__" "InvalidFactors.__init__" (defArgs sI10) (defBody sI10) (defScope sI10) .none kV doc pm an cdv ct cc) ["self", "position"] (spE1 D "position") := by
  refine fn_supT (k := 2) (N := ["self", "position"]) ⟨rfl, rfl, rfl, by decide, rfl, by show ∀ x ∈ [("self" : Str), "position"], (defScope sI10).names.lookup x = some .local; decide +kernel, by show ∀ y ∈ (defScope sI10).names, y.2 ≠ .cell; decide +kernel, by show ∀ y ∈ (defScope sI10).names, y.2 = .free → y.1 = ("__class__" : Str); decide +kernel, rfl, rfl, rfl, rfl, rfl⟩ hcc F.excBase_ValueError PySem.W.kxs_ValueError T rfl hcd rfl (fun vs H Q E h => ?_) (fun env => rfl) (fun env => rfl) (fun L => rfl) (fun L => rfl) (fun A outer s H vs Q E gd hr h => ?_)
  · obtain ⟨a, v, t, rfl, _⟩ := h
    rfl
  · obtain ⟨a, v, t, rfl, ha, vl, q⟩ := h
    refine ⟨a, _, _, rfl, ha, pa_cons (pe_joined (PJ.cons pe_str (PJ.cons (pe_fmtG (k := 2) (deeper_guards.trans gd) hr (pv 1)) PJ.nil))) pa_nil, pss_one (ps_est (pv 0) (pv 1)), ?_⟩
    have few : ("not a list of factors, at position " : Str).length ≤ 200 := by decide +kernel
    have line : t.length ≤ 6000 := Nat.le_trans vl.len (by decide)
    refine ⟨_, rfl, js1 few, _, rfl, t, fun G => G = H, _, rfl, vl.sg.mono (by decide) (fun _ e => e), Nat.le_trans line (by rw [sizeLine_eq]; decide), fun G j => ?_⟩
    subst j
    refine ⟨_, rfl, js2 few line, by show 1 ≤ 1000; decide, ha, fun y ny ne => ?_⟩
    exact ⟨_, rfl, _, rfl, a, D, y, rfl, O, no0, .inl ⟨upd_same, fun dx nd nda => q _ (end1 ny ne nd nda).1 (end1 ny ne nd nda).2⟩⟩
theorem ok_i11 (hcd : PySem.W.codeIn K cdv "InvalidSorts.__init__" = true) (hcc : K.lookup cc = some ⟨.type "cell", cd1, .cell (some (.ref D)), sl1⟩) (T : SupK "ValueError" "ValueError.__new__" "ValueError.__init__" veTail P K mg D f (fnC "__init__" "InvalidSorts.__init__" (defArgs sI11) (defBody sI11) (defScope sI11) .none kV doc pm an cdv ct cc) (arOf sI11)) (O : EsC K D) (no0 : PySem.W.findIn K (.ref D) "position" = some none) :
    FnG P w K mg base CX0 3 f (fnC "__init__" "InvalidSorts.__init__" (defArgs sI11) (defBody sI11) (defScope sI11) .none kV doc pm an cdv ct cc) ["self", "position"] (spE1 D "position") := by
  refine fn_supT (k := 2) (N := ["self", "position"]) ⟨rfl, rfl, rfl, by decide, rfl, by show ∀ x ∈ [("self" : Str), "position"], (defScope sI11).names.lookup x = some .local; decide +kernel, by show ∀ y ∈ (defScope sI11).names, y.2 ≠ .cell; decide +kernel, by show ∀ y ∈ (defScope sI11).names, y.2 = .free → y.1 = ("__class__" : Str); decide +kernel, rfl, rfl, rfl, rfl, rfl⟩ hcc F.excBase_ValueError PySem.W.kxs_ValueError T rfl hcd rfl (fun vs H Q E h => ?_) (fun env => rfl) (fun env => rfl) (fun L => rfl) (fun L => rfl) (fun A outer s H vs Q E gd hr h => ?_)
  · obtain ⟨a, v, t, rfl, _⟩ := h
    rfl
  · obtain ⟨a, v, t, rfl, ha, vl, q⟩ := h
    refine ⟨a, _, _, rfl, ha, pa_cons (pe_joined (PJ.cons pe_str (PJ.cons (pe_fmtG (k := 2) (deeper_guards.trans gd) hr (pv 1)) PJ.nil))) pa_nil, pss_one (ps_est (pv 0) (pv 1)), ?_⟩
    have few : ("not a list of sorts, at position " : Str).length ≤ 200 := by decide +kernel
    have line : t.length ≤ 6000 := Nat.le_trans vl.len (by decide)
    refine ⟨_, rfl, js1 few, _, rfl, t, fun G => G = H, _, rfl, vl.sg.mono (by decide) (fun _ e => e), Nat.le_trans line (by rw [sizeLine_eq]; decide), fun G j => ?_⟩
    subst j
    refine ⟨_, rfl, js2 few line, by show 1 ≤ 1000; decide, ha, fun y ny ne => ?_⟩
    exact ⟨_, rfl, _, rfl, a, D, y, rfl, O, no0, .inl ⟨upd_same, fun dx nd nda => q _ (end1 ny ne nd nda).1 (end1 ny ne nd nda).2⟩⟩
theorem ok_i12 (hcd : PySem.W.codeIn K cdv "InvalidTerms.__init__" = true) (hcc : K.lookup cc = some ⟨.type "cell", cd1, .cell (some (.ref D)), sl1⟩) (T : SupK "ValueError" "ValueError.__new__" "ValueError.__init__" veTail P K mg D f (fnC "__init__" "InvalidTerms.__init__" (defArgs sI12) (defBody sI12) (defScope sI12) .none kV doc pm an cdv ct cc) (arOf sI12)) (O : EsC K D) (no0 : PySem.W.findIn K (.ref D) "position" = some none) :
    FnG P w K mg base CX0 3 f (fnC "__init__" "InvalidTerms.__init__" (defArgs sI12) (defBody sI12) (defScope sI12) .none kV doc pm an cdv ct cc) ["self", "position"] (spE1 D "position") := by
  refine fn_supT (k := 2) (N := ["self", "position"]) ⟨rfl, rfl, rfl, by decide, rfl, by show ∀ x ∈ [("self" : Str), "position"], (defScope sI12).names.lookup x = some .local; decide +kernel, by show ∀ y ∈ (defScope sI12).names, y.2 ≠ .cell; decide +kernel, by show ∀ y ∈ (defScope sI12).names, y.2 = .free → y.1 = ("__class__" : Str); decide +kernel, rfl, rfl, rfl, rfl, rfl⟩ hcc F.excBase_ValueError PySem.W.kxs_ValueError T rfl hcd rfl (fun vs H Q E h => ?_) (fun env => rfl) (fun env => rfl) (fun L => rfl) (fun L => rfl) (fun A outer s H vs Q E gd hr h => ?_)
  · obtain ⟨a, v, t, rfl, _⟩ := h
    rfl
  · obtain ⟨a, v, t, rfl, ha, vl, q⟩ := h
    refine ⟨a, _, _, rfl, ha, pa_cons (pe_joined (PJ.cons pe_str (PJ.cons (pe_fmtG (k := 2) (deeper_guards.trans gd) hr (pv 1)) PJ.nil))) pa_nil, pss_one (ps_est (pv 0) (pv 1)), ?_⟩
    have few : ("not a list of terms, at position " : Str).length ≤ 200 := by decide +kernel
    have line : t.length ≤ 6000 := Nat.le_trans vl.len (by decide)
    refine ⟨_, rfl, js1 few, _, rfl, t, fun G => G = H, _, rfl, vl.sg.mono (by decide) (fun _ e => e), Nat.le_trans line (by rw [sizeLine_eq]; decide), fun G j => ?_⟩
    subst j
    refine ⟨_, rfl, js2 few line, by show 1 ≤ 1000; decide, ha, fun y ny ne => ?_⟩
    exact ⟨_, rfl, _, rfl, a, D, y, rfl, O, no0, .inl ⟨upd_same, fun dx nd nda => q _ (end1 ny ne nd nda).1 (end1 ny ne nd nda).2⟩⟩
theorem ok_i13 (hcd : PySem.W.codeIn K cdv "InvalidExpression.__init__" = true) (hcc : K.lookup cc = some ⟨.type "cell", cd1, .cell (some (.ref D)), sl1⟩) (T : SupK "ValueError" "ValueError.__new__" "ValueError.__init__" veTail P K mg D f (fnC "__init__" "InvalidExpression.__init__" (defArgs sI13) (defBody sI13) (defScope sI13) .none kV doc pm an cdv ct cc) (arOf sI13)) (O : EsC K D) (no0 : PySem.W.findIn K (.ref D) "value" = some none) :
    FnG P w K mg base CX0 3 f (fnC "__init__" "InvalidExpression.__init__" (defArgs sI13) (defBody sI13) (defScope sI13) .none kV doc pm an cdv ct cc) ["self", "value"] (spE1 D "value") := by
  refine fn_supT (k := 2) (N := ["self", "value"]) ⟨rfl, rfl, rfl, by decide, rfl, by show ∀ x ∈ [("self" : Str), "value"], (defScope sI13).names.lookup x = some .local; decide +kernel, by show ∀ y ∈ (defScope sI13).names, y.2 ≠ .cell; decide +kernel, by show ∀ y ∈ (defScope sI13).names, y.2 = .free → y.1 = ("__class__" : Str); decide +kernel, rfl, rfl, rfl, rfl, rfl⟩ hcc F.excBase_ValueError PySem.W.kxs_ValueError T rfl hcd rfl (fun vs H Q E h => ?_) (fun env => rfl) (fun env => rfl) (fun L => rfl) (fun L => rfl) (fun A outer s H vs Q E gd hr h => ?_)
  · obtain ⟨a, v, t, rfl, _⟩ := h
    rfl
  · obtain ⟨a, v, t, rfl, ha, vl, q⟩ := h
    refine ⟨a, _, _, rfl, ha, pa_cons (pe_joined (PJ.cons pe_str (PJ.cons (pe_fmtG (k := 2) (deeper_guards.trans gd) hr (pv 1)) PJ.nil))) pa_nil, pss_one (ps_est (pv 0) (pv 1)), ?_⟩
    have few : ("not an expression: " : Str).length ≤ 200 := by decide +kernel
    have line : t.length ≤ 6000 := Nat.le_trans vl.len (by decide)
    refine ⟨_, rfl, js1 few, _, rfl, t, fun G => G = H, _, rfl, vl.sg.mono (by decide) (fun _ e => e), Nat.le_trans line (by rw [sizeLine_eq]; decide), fun G j => ?_⟩
    subst j
    refine ⟨_, rfl, js2 few line, by show 1 ≤ 1000; decide, ha, fun y ny ne => ?_⟩
    exact ⟨_, rfl, _, rfl, a, D, y, rfl, O, no0, .inl ⟨upd_same, fun dx nd nda => q _ (end1 ny ne nd nda).1 (end1 ny ne nd nda).2⟩⟩
theorem ok_i14 (hcd : PySem.W.codeIn K cdv "InvalidHeld.__init__" = true) (hcc : K.lookup cc = some ⟨.type "cell", cd1, .cell (some (.ref D)), sl1⟩) (T : SupK "ValueError" "ValueError.__new__" "ValueError.__init__" veTail P K mg D f (fnC "__init__" "InvalidHeld.__init__" (defArgs sI14) (defBody sI14) (defScope sI14) .none kV doc pm an cdv ct cc) (arOf sI14)) (O : EsC K D) (no0 : PySem.W.findIn K (.ref D) "position" = some none) :
    FnG P w K mg base CX0 3 f (fnC "__init__" "InvalidHeld.__init__" (defArgs sI14) (defBody sI14) (defScope sI14) .none kV doc pm an cdv ct cc) ["self", "position"] (spE1 D "position") := by
  refine fn_supT (k := 2) (N := ["self", "position"]) ⟨rfl, rfl, rfl, by decide, rfl, by show ∀ x ∈ [("self" : Str), "position"], (defScope sI14).names.lookup x = some .local; decide +kernel, by show ∀ y ∈ (defScope sI14).names, y.2 ≠ .cell; decide +kernel, by show ∀ y ∈ (defScope sI14).names, y.2 = .free → y.1 = ("__class__" : Str); decide +kernel, rfl, rfl, rfl, rfl, rfl⟩ hcc F.excBase_ValueError PySem.W.kxs_ValueError T rfl hcd rfl (fun vs H Q E h => ?_) (fun env => rfl) (fun env => rfl) (fun L => rfl) (fun L => rfl) (fun A outer s H vs Q E gd hr h => ?_)
  · obtain ⟨a, v, t, rfl, _⟩ := h
    rfl
  · obtain ⟨a, v, t, rfl, ha, vl, q⟩ := h
    refine ⟨a, _, _, rfl, ha, pa_cons (pe_joined (PJ.cons pe_str (PJ.cons (pe_fmtG (k := 2) (deeper_guards.trans gd) hr (pv 1)) PJ.nil))) pa_nil, pss_one (ps_est (pv 0) (pv 1)), ?_⟩
    have few : ("not a list of held positions, at position " : Str).length ≤ 200 := by decide +kernel
    have line : t.length ≤ 6000 := Nat.le_trans vl.len (by decide)
    refine ⟨_, rfl, js1 few, _, rfl, t, fun G => G = H, _, rfl, vl.sg.mono (by decide) (fun _ e => e), Nat.le_trans line (by rw [sizeLine_eq]; decide), fun G j => ?_⟩
    subst j
    refine ⟨_, rfl, js2 few line, by show 1 ≤ 1000; decide, ha, fun y ny ne => ?_⟩
    exact ⟨_, rfl, _, rfl, a, D, y, rfl, O, no0, .inl ⟨upd_same, fun dx nd nda => q _ (end1 ny ne nd nda).1 (end1 ny ne nd nda).2⟩⟩
theorem ok_i15 (hcd : PySem.W.codeIn K cdv "InvalidPosition.__init__" = true) (hcc : K.lookup cc = some ⟨.type "cell", cd1, .cell (some (.ref D)), sl1⟩) (T : SupK "ValueError" "ValueError.__new__" "ValueError.__init__" veTail P K mg D f (fnC "__init__" "InvalidPosition.__init__" (defArgs sI15) (defBody sI15) (defScope sI15) .none kV doc pm an cdv ct cc) (arOf sI15)) (O : EsC K D) (no0 : PySem.W.findIn K (.ref D) "value" = some none) :
    FnG P w K mg base CX0 3 f (fnC "__init__" "InvalidPosition.__init__" (defArgs sI15) (defBody sI15) (defScope sI15) .none kV doc pm an cdv ct cc) ["self", "value"] (spE1 D "value") := by
  refine fn_supT (k := 2) (N := ["self", "value"]) ⟨rfl, rfl, rfl, by decide, rfl, by show ∀ x ∈ [("self" : Str), "value"], (defScope sI15).names.lookup x = some .local; decide +kernel, by show ∀ y ∈ (defScope sI15).names, y.2 ≠ .cell; decide +kernel, by show ∀ y ∈ (defScope sI15).names, y.2 = .free → y.1 = ("__class__" : Str); decide +kernel, rfl, rfl, rfl, rfl, rfl⟩ hcc F.excBase_ValueError PySem.W.kxs_ValueError T rfl hcd rfl (fun vs H Q E h => ?_) (fun env => rfl) (fun env => rfl) (fun L => rfl) (fun L => rfl) (fun A outer s H vs Q E gd hr h => ?_)
  · obtain ⟨a, v, t, rfl, _⟩ := h
    rfl
  · obtain ⟨a, v, t, rfl, ha, vl, q⟩ := h
    refine ⟨a, _, _, rfl, ha, pa_cons (pe_joined (PJ.cons pe_str (PJ.cons (pe_fmtG (k := 2) (deeper_guards.trans gd) hr (pv 1)) PJ.nil))) pa_nil, pss_one (ps_est (pv 0) (pv 1)), ?_⟩
    have few : ("not a told position that is allowed here: " : Str).length ≤ 200 := by decide +kernel
    have line : t.length ≤ 6000 := Nat.le_trans vl.len (by decide)
    refine ⟨_, rfl, js1 few, _, rfl, t, fun G => G = H, _, rfl, vl.sg.mono (by decide) (fun _ e => e), Nat.le_trans line (by rw [sizeLine_eq]; decide), fun G j => ?_⟩
    subst j
    refine ⟨_, rfl, js2 few line, by show 1 ≤ 1000; decide, ha, fun y ny ne => ?_⟩
    exact ⟨_, rfl, _, rfl, a, D, y, rfl, O, no0, .inl ⟨upd_same, fun dx nd nda => q _ (end1 ny ne nd nda).1 (end1 ny ne nd nda).2⟩⟩
theorem ok_i16 (hcd : PySem.W.codeIn K cdv "InvalidSum.__init__" = true) (hcc : K.lookup cc = some ⟨.type "cell", cd1, .cell (some (.ref D)), sl1⟩) (T : SupK "ValueError" "ValueError.__new__" "ValueError.__init__" veTail P K mg D f (fnC "__init__" "InvalidSum.__init__" (defArgs sI16) (defBody sI16) (defScope sI16) .none kV doc pm an cdv ct cc) (arOf sI16)) (O : EsC K D) (no0 : PySem.W.findIn K (.ref D) "position" = some none) :
    FnG P w K mg base CX0 3 f (fnC "__init__" "InvalidSum.__init__" (defArgs sI16) (defBody sI16) (defScope sI16) .none kV doc pm an cdv ct cc) ["self", "position"] (spE1 D "position") := by
  refine fn_supT (k := 2) (N := ["self", "position"]) ⟨rfl, rfl, rfl, by decide, rfl, by show ∀ x ∈ [("self" : Str), "position"], (defScope sI16).names.lookup x = some .local; decide +kernel, by show ∀ y ∈ (defScope sI16).names, y.2 ≠ .cell; decide +kernel, by show ∀ y ∈ (defScope sI16).names, y.2 = .free → y.1 = ("__class__" : Str); decide +kernel, rfl, rfl, rfl, rfl, rfl⟩ hcc F.excBase_ValueError PySem.W.kxs_ValueError T rfl hcd rfl (fun vs H Q E h => ?_) (fun env => rfl) (fun env => rfl) (fun L => rfl) (fun L => rfl) (fun A outer s H vs Q E gd hr h => ?_)
  · obtain ⟨a, v, t, rfl, _⟩ := h
    rfl
  · obtain ⟨a, v, t, rfl, ha, vl, q⟩ := h
    refine ⟨a, _, _, rfl, ha, pa_cons (pe_joined (PJ.cons pe_str (PJ.cons (pe_fmtG (k := 2) (deeper_guards.trans gd) hr (pv 1)) PJ.nil))) pa_nil, pss_one (ps_est (pv 0) (pv 1)), ?_⟩
    have few : ("a sum over a name that is in no factor, at position " : Str).length ≤ 200 := by decide +kernel
    have line : t.length ≤ 6000 := Nat.le_trans vl.len (by decide)
    refine ⟨_, rfl, js1 few, _, rfl, t, fun G => G = H, _, rfl, vl.sg.mono (by decide) (fun _ e => e), Nat.le_trans line (by rw [sizeLine_eq]; decide), fun G j => ?_⟩
    subst j
    refine ⟨_, rfl, js2 few line, by show 1 ≤ 1000; decide, ha, fun y ny ne => ?_⟩
    exact ⟨_, rfl, _, rfl, a, D, y, rfl, O, no0, .inl ⟨upd_same, fun dx nd nda => q _ (end1 ny ne nd nda).1 (end1 ny ne nd nda).2⟩⟩
theorem ok_i17 (hcd : PySem.W.codeIn K cdv "InvalidOrder.__init__" = true) (hcc : K.lookup cc = some ⟨.type "cell", cd1, .cell (some (.ref D)), sl1⟩) (T : SupK "ValueError" "ValueError.__new__" "ValueError.__init__" veTail P K mg D f (fnC "__init__" "InvalidOrder.__init__" (defArgs sI17) (defBody sI17) (defScope sI17) .none kV doc pm an cdv ct cc) (arOf sI17)) (O : EsC K D) (no0 : PySem.W.findIn K (.ref D) "value" = some none) :
    FnG P w K mg base CX0 3 f (fnC "__init__" "InvalidOrder.__init__" (defArgs sI17) (defBody sI17) (defScope sI17) .none kV doc pm an cdv ct cc) ["self", "value"] (spE1 D "value") := by
  refine fn_supT (k := 2) (N := ["self", "value"]) ⟨rfl, rfl, rfl, by decide, rfl, by show ∀ x ∈ [("self" : Str), "value"], (defScope sI17).names.lookup x = some .local; decide +kernel, by show ∀ y ∈ (defScope sI17).names, y.2 ≠ .cell; decide +kernel, by show ∀ y ∈ (defScope sI17).names, y.2 = .free → y.1 = ("__class__" : Str); decide +kernel, rfl, rfl, rfl, rfl, rfl⟩ hcc F.excBase_ValueError PySem.W.kxs_ValueError T rfl hcd rfl (fun vs H Q E h => ?_) (fun env => rfl) (fun env => rfl) (fun L => rfl) (fun L => rfl) (fun A outer s H vs Q E gd hr h => ?_)
  · obtain ⟨a, v, t, rfl, _⟩ := h
    rfl
  · obtain ⟨a, v, t, rfl, ha, vl, q⟩ := h
    refine ⟨a, _, _, rfl, ha, pa_cons (pe_joined (PJ.cons pe_str (PJ.cons (pe_fmtG (k := 2) (deeper_guards.trans gd) hr (pv 1)) PJ.nil))) pa_nil, pss_one (ps_est (pv 0) (pv 1)), ?_⟩
    have few : ("not a list of all positions: " : Str).length ≤ 200 := by decide +kernel
    have line : t.length ≤ 6000 := Nat.le_trans vl.len (by decide)
    refine ⟨_, rfl, js1 few, _, rfl, t, fun G => G = H, _, rfl, vl.sg.mono (by decide) (fun _ e => e), Nat.le_trans line (by rw [sizeLine_eq]; decide), fun G j => ?_⟩
    subst j
    refine ⟨_, rfl, js2 few line, by show 1 ≤ 1000; decide, ha, fun y ny ne => ?_⟩
    exact ⟨_, rfl, _, rfl, a, D, y, rfl, O, no0, .inl ⟨upd_same, fun dx nd nda => q _ (end1 ny ne nd nda).1 (end1 ny ne nd nda).2⟩⟩
theorem ok_i18 (hcd : PySem.W.codeIn K cdv "InvalidPartition.__init__" = true) (hcc : K.lookup cc = some ⟨.type "cell", cd1, .cell (some (.ref D)), sl1⟩) (T : SupK "ValueError" "ValueError.__new__" "ValueError.__init__" veTail P K mg D f (fnC "__init__" "InvalidPartition.__init__" (defArgs sI18) (defBody sI18) (defScope sI18) .none kV doc pm an cdv ct cc) (arOf sI18)) (O : EsC K D) (no0 : PySem.W.findIn K (.ref D) "value" = some none) :
    FnG P w K mg base CX0 3 f (fnC "__init__" "InvalidPartition.__init__" (defArgs sI18) (defBody sI18) (defScope sI18) .none kV doc pm an cdv ct cc) ["self", "value"] (spE1 D "value") := by
  refine fn_supT (k := 2) (N := ["self", "value"]) ⟨rfl, rfl, rfl, by decide, rfl, by show ∀ x ∈ [("self" : Str), "value"], (defScope sI18).names.lookup x = some .local; decide +kernel, by show ∀ y ∈ (defScope sI18).names, y.2 ≠ .cell; decide +kernel, by show ∀ y ∈ (defScope sI18).names, y.2 = .free → y.1 = ("__class__" : Str); decide +kernel, rfl, rfl, rfl, rfl, rfl⟩ hcc F.excBase_ValueError PySem.W.kxs_ValueError T rfl hcd rfl (fun vs H Q E h => ?_) (fun env => rfl) (fun env => rfl) (fun L => rfl) (fun L => rfl) (fun A outer s H vs Q E gd hr h => ?_)
  · obtain ⟨a, v, t, rfl, _⟩ := h
    rfl
  · obtain ⟨a, v, t, rfl, ha, vl, q⟩ := h
    refine ⟨a, _, _, rfl, ha, pa_cons (pe_joined (PJ.cons pe_str (PJ.cons (pe_fmtG (k := 2) (deeper_guards.trans gd) hr (pv 1)) PJ.nil))) pa_nil, pss_one (ps_est (pv 0) (pv 1)), ?_⟩
    have few : ("not a partition of the term: " : Str).length ≤ 200 := by decide +kernel
    have line : t.length ≤ 6000 := Nat.le_trans vl.len (by decide)
    refine ⟨_, rfl, js1 few, _, rfl, t, fun G => G = H, _, rfl, vl.sg.mono (by decide) (fun _ e => e), Nat.le_trans line (by rw [sizeLine_eq]; decide), fun G j => ?_⟩
    subst j
    refine ⟨_, rfl, js2 few line, by show 1 ≤ 1000; decide, ha, fun y ny ne => ?_⟩
    exact ⟨_, rfl, _, rfl, a, D, y, rfl, O, no0, .inl ⟨upd_same, fun dx nd nda => q _ (end1 ny ne nd nda).1 (end1 ny ne nd nda).2⟩⟩
theorem ok_i19 (hcd : PySem.W.codeIn K cdv "InvalidExpressions.__init__" = true) (hcc : K.lookup cc = some ⟨.type "cell", cd1, .cell (some (.ref D)), sl1⟩) (T : SupK "ValueError" "ValueError.__new__" "ValueError.__init__" veTail P K mg D f (fnC "__init__" "InvalidExpressions.__init__" (defArgs sI19) (defBody sI19) (defScope sI19) .none kV doc pm an cdv ct cc) (arOf sI19)) (O : EsC K D) (no0 : PySem.W.findIn K (.ref D) "position" = some none) :
    FnG P w K mg base CX0 3 f (fnC "__init__" "InvalidExpressions.__init__" (defArgs sI19) (defBody sI19) (defScope sI19) .none kV doc pm an cdv ct cc) ["self", "position"] (spE1 D "position") := by
  refine fn_supT (k := 2) (N := ["self", "position"]) ⟨rfl, rfl, rfl, by decide, rfl, by show ∀ x ∈ [("self" : Str), "position"], (defScope sI19).names.lookup x = some .local; decide +kernel, by show ∀ y ∈ (defScope sI19).names, y.2 ≠ .cell; decide +kernel, by show ∀ y ∈ (defScope sI19).names, y.2 = .free → y.1 = ("__class__" : Str); decide +kernel, rfl, rfl, rfl, rfl, rfl⟩ hcc F.excBase_ValueError PySem.W.kxs_ValueError T rfl hcd rfl (fun vs H Q E h => ?_) (fun env => rfl) (fun env => rfl) (fun L => rfl) (fun L => rfl) (fun A outer s H vs Q E gd hr h => ?_)
  · obtain ⟨a, v, t, rfl, _⟩ := h
    rfl
  · obtain ⟨a, v, t, rfl, ha, vl, q⟩ := h
    refine ⟨a, _, _, rfl, ha, pa_cons (pe_joined (PJ.cons pe_str (PJ.cons (pe_fmtG (k := 2) (deeper_guards.trans gd) hr (pv 1)) PJ.nil))) pa_nil, pss_one (ps_est (pv 0) (pv 1)), ?_⟩
    have few : ("not a list of expressions, at position " : Str).length ≤ 200 := by decide +kernel
    have line : t.length ≤ 6000 := Nat.le_trans vl.len (by decide)
    refine ⟨_, rfl, js1 few, _, rfl, t, fun G => G = H, _, rfl, vl.sg.mono (by decide) (fun _ e => e), Nat.le_trans line (by rw [sizeLine_eq]; decide), fun G j => ?_⟩
    subst j
    refine ⟨_, rfl, js2 few line, by show 1 ≤ 1000; decide, ha, fun y ny ne => ?_⟩
    exact ⟨_, rfl, _, rfl, a, D, y, rfl, O, no0, .inl ⟨upd_same, fun dx nd nda => q _ (end1 ny ne nd nda).1 (end1 ny ne nd nda).2⟩⟩
theorem ok_i20 (hcd : PySem.W.codeIn K cdv "InvalidPlan.__init__" = true) (hcc : K.lookup cc = some ⟨.type "cell", cd1, .cell (some (.ref D)), sl1⟩) (T : SupK "ValueError" "ValueError.__new__" "ValueError.__init__" veTail P K mg D f (fnC "__init__" "InvalidPlan.__init__" (defArgs sI20) (defBody sI20) (defScope sI20) .none kV doc pm an cdv ct cc) (arOf sI20)) (O : EsC K D) (no0 : PySem.W.findIn K (.ref D) "value" = some none) :
    FnG P w K mg base CX0 3 f (fnC "__init__" "InvalidPlan.__init__" (defArgs sI20) (defBody sI20) (defScope sI20) .none kV doc pm an cdv ct cc) ["self", "value"] (spE1 D "value") := by
  refine fn_supT (k := 2) (N := ["self", "value"]) ⟨rfl, rfl, rfl, by decide, rfl, by show ∀ x ∈ [("self" : Str), "value"], (defScope sI20).names.lookup x = some .local; decide +kernel, by show ∀ y ∈ (defScope sI20).names, y.2 ≠ .cell; decide +kernel, by show ∀ y ∈ (defScope sI20).names, y.2 = .free → y.1 = ("__class__" : Str); decide +kernel, rfl, rfl, rfl, rfl, rfl⟩ hcc F.excBase_ValueError PySem.W.kxs_ValueError T rfl hcd rfl (fun vs H Q E h => ?_) (fun env => rfl) (fun env => rfl) (fun L => rfl) (fun L => rfl) (fun A outer s H vs Q E gd hr h => ?_)
  · obtain ⟨a, v, t, rfl, _⟩ := h
    rfl
  · obtain ⟨a, v, t, rfl, ha, vl, q⟩ := h
    refine ⟨a, _, _, rfl, ha, pa_cons (pe_joined (PJ.cons pe_str (PJ.cons (pe_fmtG (k := 2) (deeper_guards.trans gd) hr (pv 1)) PJ.nil))) pa_nil, pss_one (ps_est (pv 0) (pv 1)), ?_⟩
    have few : ("not a plan of the term: " : Str).length ≤ 200 := by decide +kernel
    have line : t.length ≤ 6000 := Nat.le_trans vl.len (by decide)
    refine ⟨_, rfl, js1 few, _, rfl, t, fun G => G = H, _, rfl, vl.sg.mono (by decide) (fun _ e => e), Nat.le_trans line (by rw [sizeLine_eq]; decide), fun G j => ?_⟩
    subst j
    refine ⟨_, rfl, js2 few line, by show 1 ≤ 1000; decide, ha, fun y ny ne => ?_⟩
    exact ⟨_, rfl, _, rfl, a, D, y, rfl, O, no0, .inl ⟨upd_same, fun dx nd nda => q _ (end1 ny ne nd nda).1 (end1 ny ne nd nda).2⟩⟩
theorem ok_i21 (hcd : PySem.W.codeIn K cdv "InvalidNames.__init__" = true) (hcc : K.lookup cc = some ⟨.type "cell", cd1, .cell (some (.ref D)), sl1⟩) (T : SupK "ValueError" "ValueError.__new__" "ValueError.__init__" veTail P K mg D f (fnC "__init__" "InvalidNames.__init__" (defArgs sI21) (defBody sI21) (defScope sI21) .none kV doc pm an cdv ct cc) (arOf sI21)) (O : EsC K D) (no0 : PySem.W.findIn K (.ref D) "value" = some none) :
    FnG P w K mg base CX0 3 f (fnC "__init__" "InvalidNames.__init__" (defArgs sI21) (defBody sI21) (defScope sI21) .none kV doc pm an cdv ct cc) ["self", "value"] (spE1 D "value") := by
  refine fn_supT (k := 2) (N := ["self", "value"]) ⟨rfl, rfl, rfl, by decide, rfl, by show ∀ x ∈ [("self" : Str), "value"], (defScope sI21).names.lookup x = some .local; decide +kernel, by show ∀ y ∈ (defScope sI21).names, y.2 ≠ .cell; decide +kernel, by show ∀ y ∈ (defScope sI21).names, y.2 = .free → y.1 = ("__class__" : Str); decide +kernel, rfl, rfl, rfl, rfl, rfl⟩ hcc F.excBase_ValueError PySem.W.kxs_ValueError T rfl hcd rfl (fun vs H Q E h => ?_) (fun env => rfl) (fun env => rfl) (fun L => rfl) (fun L => rfl) (fun A outer s H vs Q E gd hr h => ?_)
  · obtain ⟨a, v, t, rfl, _⟩ := h
    rfl
  · obtain ⟨a, v, t, rfl, ha, vl, q⟩ := h
    refine ⟨a, _, _, rfl, ha, pa_cons (pe_joined (PJ.cons pe_str (PJ.cons (pe_fmtG (k := 2) (deeper_guards.trans gd) hr (pv 1)) PJ.nil))) pa_nil, pss_one (ps_est (pv 0) (pv 1)), ?_⟩
    have few : ("not a list of names that are allowed here: " : Str).length ≤ 200 := by decide +kernel
    have line : t.length ≤ 6000 := Nat.le_trans vl.len (by decide)
    refine ⟨_, rfl, js1 few, _, rfl, t, fun G => G = H, _, rfl, vl.sg.mono (by decide) (fun _ e => e), Nat.le_trans line (by rw [sizeLine_eq]; decide), fun G j => ?_⟩
    subst j
    refine ⟨_, rfl, js2 few line, by show 1 ≤ 1000; decide, ha, fun y ny ne => ?_⟩
    exact ⟨_, rfl, _, rfl, a, D, y, rfl, O, no0, .inl ⟨upd_same, fun dx nd nda => q _ (end1 ny ne nd nda).1 (end1 ny ne nd nda).2⟩⟩
theorem ok_i22 (hcd : PySem.W.codeIn K cdv "InvalidPolynomial.__init__" = true) (hcc : K.lookup cc = some ⟨.type "cell", cd1, .cell (some (.ref D)), sl1⟩) (T : SupK "ValueError" "ValueError.__new__" "ValueError.__init__" veTail P K mg D f (fnC "__init__" "InvalidPolynomial.__init__" (defArgs sI22) (defBody sI22) (defScope sI22) .none kV doc pm an cdv ct cc) (arOf sI22)) (O : EsC K D) (no0 : PySem.W.findIn K (.ref D) "value" = some none) :
    FnG P w K mg base CX0 3 f (fnC "__init__" "InvalidPolynomial.__init__" (defArgs sI22) (defBody sI22) (defScope sI22) .none kV doc pm an cdv ct cc) ["self", "value"] (spE1 D "value") := by
  refine fn_supT (k := 2) (N := ["self", "value"]) ⟨rfl, rfl, rfl, by decide, rfl, by show ∀ x ∈ [("self" : Str), "value"], (defScope sI22).names.lookup x = some .local; decide +kernel, by show ∀ y ∈ (defScope sI22).names, y.2 ≠ .cell; decide +kernel, by show ∀ y ∈ (defScope sI22).names, y.2 = .free → y.1 = ("__class__" : Str); decide +kernel, rfl, rfl, rfl, rfl, rfl⟩ hcc F.excBase_ValueError PySem.W.kxs_ValueError T rfl hcd rfl (fun vs H Q E h => ?_) (fun env => rfl) (fun env => rfl) (fun L => rfl) (fun L => rfl) (fun A outer s H vs Q E gd hr h => ?_)
  · obtain ⟨a, v, t, rfl, _⟩ := h
    rfl
  · obtain ⟨a, v, t, rfl, ha, vl, q⟩ := h
    refine ⟨a, _, _, rfl, ha, pa_cons (pe_joined (PJ.cons pe_str (PJ.cons (pe_fmtG (k := 2) (deeper_guards.trans gd) hr (pv 1)) PJ.nil))) pa_nil, pss_one (ps_est (pv 0) (pv 1)), ?_⟩
    have few : ("not a polynomial: " : Str).length ≤ 200 := by decide +kernel
    have line : t.length ≤ 6000 := Nat.le_trans vl.len (by decide)
    refine ⟨_, rfl, js1 few, _, rfl, t, fun G => G = H, _, rfl, vl.sg.mono (by decide) (fun _ e => e), Nat.le_trans line (by rw [sizeLine_eq]; decide), fun G j => ?_⟩
    subst j
    refine ⟨_, rfl, js2 few line, by show 1 ≤ 1000; decide, ha, fun y ny ne => ?_⟩
    exact ⟨_, rfl, _, rfl, a, D, y, rfl, O, no0, .inl ⟨upd_same, fun dx nd nda => q _ (end1 ny ne nd nda).1 (end1 ny ne nd nda).2⟩⟩
theorem ok_i23 (hcd : PySem.W.codeIn K cdv "InvalidGrowth.__init__" = true) (hcc : K.lookup cc = some ⟨.type "cell", cd1, .cell (some (.ref D)), sl1⟩) (T : SupK "ValueError" "ValueError.__new__" "ValueError.__init__" veTail P K mg D f (fnC "__init__" "InvalidGrowth.__init__" (defArgs sI23) (defBody sI23) (defScope sI23) .none kV doc pm an cdv ct cc) (arOf sI23)) (O : EsC K D) (no0 : PySem.W.findIn K (.ref D) "value" = some none) :
    FnG P w K mg base CX0 3 f (fnC "__init__" "InvalidGrowth.__init__" (defArgs sI23) (defBody sI23) (defScope sI23) .none kV doc pm an cdv ct cc) ["self", "value"] (spE1 D "value") := by
  refine fn_supT (k := 2) (N := ["self", "value"]) ⟨rfl, rfl, rfl, by decide, rfl, by show ∀ x ∈ [("self" : Str), "value"], (defScope sI23).names.lookup x = some .local; decide +kernel, by show ∀ y ∈ (defScope sI23).names, y.2 ≠ .cell; decide +kernel, by show ∀ y ∈ (defScope sI23).names, y.2 = .free → y.1 = ("__class__" : Str); decide +kernel, rfl, rfl, rfl, rfl, rfl⟩ hcc F.excBase_ValueError PySem.W.kxs_ValueError T rfl hcd rfl (fun vs H Q E h => ?_) (fun env => rfl) (fun env => rfl) (fun L => rfl) (fun L => rfl) (fun A outer s H vs Q E gd hr h => ?_)
  · obtain ⟨a, v, t, rfl, _⟩ := h
    rfl
  · obtain ⟨a, v, t, rfl, ha, vl, q⟩ := h
    refine ⟨a, _, _, rfl, ha, pa_cons (pe_joined (PJ.cons pe_str (PJ.cons (pe_fmtG (k := 2) (deeper_guards.trans gd) hr (pv 1)) PJ.nil))) pa_nil, pss_one (ps_est (pv 0) (pv 1)), ?_⟩
    have few : ("not a growth: " : Str).length ≤ 200 := by decide +kernel
    have line : t.length ≤ 6000 := Nat.le_trans vl.len (by decide)
    refine ⟨_, rfl, js1 few, _, rfl, t, fun G => G = H, _, rfl, vl.sg.mono (by decide) (fun _ e => e), Nat.le_trans line (by rw [sizeLine_eq]; decide), fun G j => ?_⟩
    subst j
    refine ⟨_, rfl, js2 few line, by show 1 ≤ 1000; decide, ha, fun y ny ne => ?_⟩
    exact ⟨_, rfl, _, rfl, a, D, y, rfl, O, no0, .inl ⟨upd_same, fun dx nd nda => q _ (end1 ny ne nd nda).1 (end1 ny ne nd nda).2⟩⟩
theorem ok_i24 (hcd : PySem.W.codeIn K cdv "InvalidChange.__init__" = true) (hcc : K.lookup cc = some ⟨.type "cell", cd1, .cell (some (.ref D)), sl1⟩) (T : SupK "ValueError" "ValueError.__new__" "ValueError.__init__" veTail P K mg D f (fnC "__init__" "InvalidChange.__init__" (defArgs sI24) (defBody sI24) (defScope sI24) .none kV doc pm an cdv ct cc) (arOf sI24)) (O : EsC K D) (no0 : PySem.W.findIn K (.ref D) "value" = some none) :
    FnG P w K mg base CX0 3 f (fnC "__init__" "InvalidChange.__init__" (defArgs sI24) (defBody sI24) (defScope sI24) .none kV doc pm an cdv ct cc) ["self", "value"] (spE1 D "value") := by
  refine fn_supT (k := 2) (N := ["self", "value"]) ⟨rfl, rfl, rfl, by decide, rfl, by show ∀ x ∈ [("self" : Str), "value"], (defScope sI24).names.lookup x = some .local; decide +kernel, by show ∀ y ∈ (defScope sI24).names, y.2 ≠ .cell; decide +kernel, by show ∀ y ∈ (defScope sI24).names, y.2 = .free → y.1 = ("__class__" : Str); decide +kernel, rfl, rfl, rfl, rfl, rfl⟩ hcc F.excBase_ValueError PySem.W.kxs_ValueError T rfl hcd rfl (fun vs H Q E h => ?_) (fun env => rfl) (fun env => rfl) (fun L => rfl) (fun L => rfl) (fun A outer s H vs Q E gd hr h => ?_)
  · obtain ⟨a, v, t, rfl, _⟩ := h
    rfl
  · obtain ⟨a, v, t, rfl, ha, vl, q⟩ := h
    refine ⟨a, _, _, rfl, ha, pa_cons (pe_joined (PJ.cons pe_str (PJ.cons (pe_fmtG (k := 2) (deeper_guards.trans gd) hr (pv 1)) PJ.nil))) pa_nil, pss_one (ps_est (pv 0) (pv 1)), ?_⟩
    have few : ("not a change of the table: " : Str).length ≤ 200 := by decide +kernel
    have line : t.length ≤ 6000 := Nat.le_trans vl.len (by decide)
    refine ⟨_, rfl, js1 few, _, rfl, t, fun G => G = H, _, rfl, vl.sg.mono (by decide) (fun _ e => e), Nat.le_trans line (by rw [sizeLine_eq]; decide), fun G j => ?_⟩
    subst j
    refine ⟨_, rfl, js2 few line, by show 1 ≤ 1000; decide, ha, fun y ny ne => ?_⟩
    exact ⟨_, rfl, _, rfl, a, D, y, rfl, O, no0, .inl ⟨upd_same, fun dx nd nda => q _ (end1 ny ne nd nda).1 (end1 ny ne nd nda).2⟩⟩
theorem ok_i25 (hcd : PySem.W.codeIn K cdv "InvalidWeights.__init__" = true) (hcc : K.lookup cc = some ⟨.type "cell", cd1, .cell (some (.ref D)), sl1⟩) (T : SupK "ValueError" "ValueError.__new__" "ValueError.__init__" veTail P K mg D f (fnC "__init__" "InvalidWeights.__init__" (defArgs sI25) (defBody sI25) (defScope sI25) .none kV doc pm an cdv ct cc) (arOf sI25)) (O : EsC K D) (no0 : PySem.W.findIn K (.ref D) "value" = some none) :
    FnG P w K mg base CX0 3 f (fnC "__init__" "InvalidWeights.__init__" (defArgs sI25) (defBody sI25) (defScope sI25) .none kV doc pm an cdv ct cc) ["self", "value"] (spE1 D "value") := by
  refine fn_supT (k := 2) (N := ["self", "value"]) ⟨rfl, rfl, rfl, by decide, rfl, by show ∀ x ∈ [("self" : Str), "value"], (defScope sI25).names.lookup x = some .local; decide +kernel, by show ∀ y ∈ (defScope sI25).names, y.2 ≠ .cell; decide +kernel, by show ∀ y ∈ (defScope sI25).names, y.2 = .free → y.1 = ("__class__" : Str); decide +kernel, rfl, rfl, rfl, rfl, rfl⟩ hcc F.excBase_ValueError PySem.W.kxs_ValueError T rfl hcd rfl (fun vs H Q E h => ?_) (fun env => rfl) (fun env => rfl) (fun L => rfl) (fun L => rfl) (fun A outer s H vs Q E gd hr h => ?_)
  · obtain ⟨a, v, t, rfl, _⟩ := h
    rfl
  · obtain ⟨a, v, t, rfl, ha, vl, q⟩ := h
    refine ⟨a, _, _, rfl, ha, pa_cons (pe_joined (PJ.cons pe_str (PJ.cons (pe_fmtG (k := 2) (deeper_guards.trans gd) hr (pv 1)) PJ.nil))) pa_nil, pss_one (ps_est (pv 0) (pv 1)), ?_⟩
    have few : ("not weights for the told places: " : Str).length ≤ 200 := by decide +kernel
    have line : t.length ≤ 6000 := Nat.le_trans vl.len (by decide)
    refine ⟨_, rfl, js1 few, _, rfl, t, fun G => G = H, _, rfl, vl.sg.mono (by decide) (fun _ e => e), Nat.le_trans line (by rw [sizeLine_eq]; decide), fun G j => ?_⟩
    subst j
    refine ⟨_, rfl, js2 few line, by show 1 ≤ 1000; decide, ha, fun y ny ne => ?_⟩
    exact ⟨_, rfl, _, rfl, a, D, y, rfl, O, no0, .inl ⟨upd_same, fun dx nd nda => q _ (end1 ny ne nd nda).1 (end1 ny ne nd nda).2⟩⟩
theorem ok_i26 (hcd : PySem.W.codeIn K cdv "InvalidPatterns.__init__" = true) (hcc : K.lookup cc = some ⟨.type "cell", cd1, .cell (some (.ref D)), sl1⟩) (T : SupK "ValueError" "ValueError.__new__" "ValueError.__init__" veTail P K mg D f (fnC "__init__" "InvalidPatterns.__init__" (defArgs sI26) (defBody sI26) (defScope sI26) .none kV doc pm an cdv ct cc) (arOf sI26)) (O : EsC K D) (no0 : PySem.W.findIn K (.ref D) "position" = some none) :
    FnG P w K mg base CX0 3 f (fnC "__init__" "InvalidPatterns.__init__" (defArgs sI26) (defBody sI26) (defScope sI26) .none kV doc pm an cdv ct cc) ["self", "position"] (spE1 D "position") := by
  refine fn_supT (k := 2) (N := ["self", "position"]) ⟨rfl, rfl, rfl, by decide, rfl, by show ∀ x ∈ [("self" : Str), "position"], (defScope sI26).names.lookup x = some .local; decide +kernel, by show ∀ y ∈ (defScope sI26).names, y.2 ≠ .cell; decide +kernel, by show ∀ y ∈ (defScope sI26).names, y.2 = .free → y.1 = ("__class__" : Str); decide +kernel, rfl, rfl, rfl, rfl, rfl⟩ hcc F.excBase_ValueError PySem.W.kxs_ValueError T rfl hcd rfl (fun vs H Q E h => ?_) (fun env => rfl) (fun env => rfl) (fun L => rfl) (fun L => rfl) (fun A outer s H vs Q E gd hr h => ?_)
  · obtain ⟨a, v, t, rfl, _⟩ := h
    rfl
  · obtain ⟨a, v, t, rfl, ha, vl, q⟩ := h
    refine ⟨a, _, _, rfl, ha, pa_cons (pe_joined (PJ.cons pe_str (PJ.cons (pe_fmtG (k := 2) (deeper_guards.trans gd) hr (pv 1)) PJ.nil))) pa_nil, pss_one (ps_est (pv 0) (pv 1)), ?_⟩
    have few : ("not a list of patterns, at position " : Str).length ≤ 200 := by decide +kernel
    have line : t.length ≤ 6000 := Nat.le_trans vl.len (by decide)
    refine ⟨_, rfl, js1 few, _, rfl, t, fun G => G = H, _, rfl, vl.sg.mono (by decide) (fun _ e => e), Nat.le_trans line (by rw [sizeLine_eq]; decide), fun G j => ?_⟩
    subst j
    refine ⟨_, rfl, js2 few line, by show 1 ≤ 1000; decide, ha, fun y ny ne => ?_⟩
    exact ⟨_, rfl, _, rfl, a, D, y, rfl, O, no0, .inl ⟨upd_same, fun dx nd nda => q _ (end1 ny ne nd nda).1 (end1 ny ne nd nda).2⟩⟩
theorem ok_i27 (hcd : PySem.W.codeIn K cdv "EmptyEntry.__init__" = true) (hcc : K.lookup cc = some ⟨.type "cell", cd1, .cell (some (.ref D)), sl1⟩) (T : SupK "ValueError" "ValueError.__new__" "ValueError.__init__" veTail P K mg D f (fnC "__init__" "EmptyEntry.__init__" (defArgs sI27) (defBody sI27) (defScope sI27) .none kV doc pm an cdv ct cc) (arOf sI27)) (O : EsC K D) (no0 : PySem.W.findIn K (.ref D) "position" = some none) (no1 : PySem.W.findIn K (.ref D) "places" = some none) :
    FnG P w K mg base CX0 3 f (fnC "__init__" "EmptyEntry.__init__" (defArgs sI27) (defBody sI27) (defScope sI27) .none kV doc pm an cdv ct cc) ["self", "position", "places"] (spE2 D "position" "places") := by
  refine fn_supT (k := 2) (N := ["self", "position", "places"]) ⟨rfl, rfl, rfl, by decide, rfl, by show ∀ x ∈ [("self" : Str), "position", "places"], (defScope sI27).names.lookup x = some .local; decide +kernel, by show ∀ y ∈ (defScope sI27).names, y.2 ≠ .cell; decide +kernel, by show ∀ y ∈ (defScope sI27).names, y.2 = .free → y.1 = ("__class__" : Str); decide +kernel, rfl, rfl, rfl, rfl, rfl⟩ hcc F.excBase_ValueError PySem.W.kxs_ValueError T rfl hcd rfl (fun vs H Q E h => ?_) (fun env => rfl) (fun env => rfl) (fun L => rfl) (fun L => rfl) (fun A outer s H vs Q E gd hr h => ?_)
  · obtain ⟨a, v, u, t, t2, rfl, _⟩ := h
    rfl
  · obtain ⟨a, v, u, t, t2, rfl, ha, vl, vl2, q⟩ := h
    refine ⟨a, _, _, rfl, ha, pa_cons (pe_joined (PJ.cons pe_str (PJ.cons (pe_fmtG (k := 2) (deeper_guards.trans gd) hr (pv 2)) (PJ.cons pe_str (PJ.cons (pe_fmtG (k := 2) (deeper_guards.trans gd) hr (pv 1)) PJ.nil))))) pa_nil, pss_cons (ps_est (pv 0) (pv 1)) (pss_one (ps_est (pv 0) (pv 2))), ?_⟩
    have few : ("the places " : Str).length ≤ 200 := by decide +kernel
    have few2 : (" are of an empty class, at position " : Str).length ≤ 200 := by decide +kernel
    have l1 : t.length ≤ 6000 := Nat.le_trans vl.len (by decide)
    have l2 : t2.length ≤ 6000 := Nat.le_trans vl2.len (by decide)
    refine ⟨_, rfl, js1 few, _, rfl, t2, fun G => G = H, _, rfl, vl2.sg.mono (by decide) (fun _ e => e), Nat.le_trans l2 (by rw [sizeLine_eq]; decide), fun G j => ?_⟩
    subst j
    refine ⟨_, rfl, js2 few l2, _, rfl, js3 few l2 few2, _, rfl, t, fun J => J = G, _, rfl, vl.sg.mono (by decide) (fun _ e => e), Nat.le_trans l1 (by rw [sizeLine_eq]; decide), fun J j => ?_⟩
    subst j
    refine ⟨_, rfl, js4 few l2 few2 l1, by show 1 ≤ 1000; decide, ha, fun y ny ne => ?_⟩
    refine ⟨_, rfl, _, rfl, a, D, y, rfl, O, no0, .inl ⟨upd_same, fun dx nd nda => ?_⟩⟩
    obtain ⟨x1, x2⟩ := end1 (f := "position") (v := v) ny ne nd nda
    have nyd : y ≠ dx := fun z => by rw [← z, upd_ne ne, upd_same] at nd; cases nd
    obtain ⟨y1, y2⟩ := end2 (g := "places") (u := u) (fs := [("position", v)]) x1 (by rw [upd_ne nda, upd_ne nyd.symm] at nd; exact nd) nda x2 upd_same ⟨_, by rw [upd_ne ne, upd_ne nyd, upd_ne ne]; exact upd_same⟩ nyd
    exact ⟨_, rfl, _, rfl, a, D, y, rfl, O, no1, .inr ⟨dx, _, upd_same, by rw [upd_ne nda]; exact upd_same, (by show 1 ≤ 900; decide), q _ y1 y2⟩⟩
theorem ok_i28 (hcd : PySem.W.codeIn K cdv "InvalidText.__init__" = true) (hcc : K.lookup cc = some ⟨.type "cell", cd1, .cell (some (.ref D)), sl1⟩) (T : SupK "ValueError" "ValueError.__new__" "ValueError.__init__" veTail P K mg D f (fnC "__init__" "InvalidText.__init__" (defArgs sI28) (defBody sI28) (defScope sI28) .none kV doc pm an cdv ct cc) (arOf sI28)) (O : EsC K D) (no0 : PySem.W.findIn K (.ref D) "line" = some none) :
    FnG P w K mg base CX0 3 f (fnC "__init__" "InvalidText.__init__" (defArgs sI28) (defBody sI28) (defScope sI28) .none kV doc pm an cdv ct cc) ["self", "line"] (spE1 D "line") := by
  refine fn_supT (k := 2) (N := ["self", "line"]) ⟨rfl, rfl, rfl, by decide, rfl, by show ∀ x ∈ [("self" : Str), "line"], (defScope sI28).names.lookup x = some .local; decide +kernel, by show ∀ y ∈ (defScope sI28).names, y.2 ≠ .cell; decide +kernel, by show ∀ y ∈ (defScope sI28).names, y.2 = .free → y.1 = ("__class__" : Str); decide +kernel, rfl, rfl, rfl, rfl, rfl⟩ hcc F.excBase_ValueError PySem.W.kxs_ValueError T rfl hcd rfl (fun vs H Q E h => ?_) (fun env => rfl) (fun env => rfl) (fun L => rfl) (fun L => rfl) (fun A outer s H vs Q E gd hr h => ?_)
  · obtain ⟨a, v, t, rfl, _⟩ := h
    rfl
  · obtain ⟨a, v, t, rfl, ha, vl, q⟩ := h
    refine ⟨a, _, _, rfl, ha, pa_cons (pe_joined (PJ.cons pe_str (PJ.cons (pe_fmtG (k := 2) (deeper_guards.trans gd) hr (pv 1)) PJ.nil))) pa_nil, pss_one (ps_est (pv 0) (pv 1)), ?_⟩
    have few : ("the text cannot be read, at line " : Str).length ≤ 200 := by decide +kernel
    have line : t.length ≤ 6000 := Nat.le_trans vl.len (by decide)
    refine ⟨_, rfl, js1 few, _, rfl, t, fun G => G = H, _, rfl, vl.sg.mono (by decide) (fun _ e => e), Nat.le_trans line (by rw [sizeLine_eq]; decide), fun G j => ?_⟩
    subst j
    refine ⟨_, rfl, js2 few line, by show 1 ≤ 1000; decide, ha, fun y ny ne => ?_⟩
    exact ⟨_, rfl, _, rfl, a, D, y, rfl, O, no0, .inl ⟨upd_same, fun dx nd nda => q _ (end1 ny ne nd nda).1 (end1 ny ne nd nda).2⟩⟩
theorem ok_i29 (hcd : PySem.W.codeIn K cdv "InvalidDefinitions.__init__" = true) (hcc : K.lookup cc = some ⟨.type "cell", cd1, .cell (some (.ref D)), sl1⟩) (T : SupK "ValueError" "ValueError.__new__" "ValueError.__init__" veTail P K mg D f (fnC "__init__" "InvalidDefinitions.__init__" (defArgs sI29) (defBody sI29) (defScope sI29) .none kV doc pm an cdv ct cc) (arOf sI29)) (O : EsC K D) (no0 : PySem.W.findIn K (.ref D) "position" = some none) :
    FnG P w K mg base CX0 3 f (fnC "__init__" "InvalidDefinitions.__init__" (defArgs sI29) (defBody sI29) (defScope sI29) .none kV doc pm an cdv ct cc) ["self", "position"] (spE1 D "position") := by
  refine fn_supT (k := 2) (N := ["self", "position"]) ⟨rfl, rfl, rfl, by decide, rfl, by show ∀ x ∈ [("self" : Str), "position"], (defScope sI29).names.lookup x = some .local; decide +kernel, by show ∀ y ∈ (defScope sI29).names, y.2 ≠ .cell; decide +kernel, by show ∀ y ∈ (defScope sI29).names, y.2 = .free → y.1 = ("__class__" : Str); decide +kernel, rfl, rfl, rfl, rfl, rfl⟩ hcc F.excBase_ValueError PySem.W.kxs_ValueError T rfl hcd rfl (fun vs H Q E h => ?_) (fun env => rfl) (fun env => rfl) (fun L => rfl) (fun L => rfl) (fun A outer s H vs Q E gd hr h => ?_)
  · obtain ⟨a, v, t, rfl, _⟩ := h
    rfl
  · obtain ⟨a, v, t, rfl, ha, vl, q⟩ := h
    refine ⟨a, _, _, rfl, ha, pa_cons (pe_joined (PJ.cons pe_str (PJ.cons (pe_fmtG (k := 2) (deeper_guards.trans gd) hr (pv 1)) PJ.nil))) pa_nil, pss_one (ps_est (pv 0) (pv 1)), ?_⟩
    have few : ("not a list of definitions, at position " : Str).length ≤ 200 := by decide +kernel
    have line : t.length ≤ 6000 := Nat.le_trans vl.len (by decide)
    refine ⟨_, rfl, js1 few, _, rfl, t, fun G => G = H, _, rfl, vl.sg.mono (by decide) (fun _ e => e), Nat.le_trans line (by rw [sizeLine_eq]; decide), fun G j => ?_⟩
    subst j
    refine ⟨_, rfl, js2 few line, by show 1 ≤ 1000; decide, ha, fun y ny ne => ?_⟩
    exact ⟨_, rfl, _, rfl, a, D, y, rfl, O, no0, .inl ⟨upd_same, fun dx nd nda => q _ (end1 ny ne nd nda).1 (end1 ny ne nd nda).2⟩⟩
theorem ok_i30 (hcd : PySem.W.codeIn K cdv "InvalidClaim.__init__" = true) (hcc : K.lookup cc = some ⟨.type "cell", cd1, .cell (some (.ref D)), sl1⟩) (T : SupK "ValueError" "ValueError.__new__" "ValueError.__init__" veTail P K mg D f (fnC "__init__" "InvalidClaim.__init__" (defArgs sI30) (defBody sI30) (defScope sI30) .none kV doc pm an cdv ct cc) (arOf sI30)) (O : EsC K D) (no0 : PySem.W.findIn K (.ref D) "value" = some none) :
    FnG P w K mg base CX0 3 f (fnC "__init__" "InvalidClaim.__init__" (defArgs sI30) (defBody sI30) (defScope sI30) .none kV doc pm an cdv ct cc) ["self", "value"] (spE1 D "value") := by
  refine fn_supT (k := 2) (N := ["self", "value"]) ⟨rfl, rfl, rfl, by decide, rfl, by show ∀ x ∈ [("self" : Str), "value"], (defScope sI30).names.lookup x = some .local; decide +kernel, by show ∀ y ∈ (defScope sI30).names, y.2 ≠ .cell; decide +kernel, by show ∀ y ∈ (defScope sI30).names, y.2 = .free → y.1 = ("__class__" : Str); decide +kernel, rfl, rfl, rfl, rfl, rfl⟩ hcc F.excBase_ValueError PySem.W.kxs_ValueError T rfl hcd rfl (fun vs H Q E h => ?_) (fun env => rfl) (fun env => rfl) (fun L => rfl) (fun L => rfl) (fun A outer s H vs Q E gd hr h => ?_)
  · obtain ⟨a, v, t, rfl, _⟩ := h
    rfl
  · obtain ⟨a, v, t, rfl, ha, vl, q⟩ := h
    refine ⟨a, _, _, rfl, ha, pa_cons (pe_joined (PJ.cons pe_str (PJ.cons (pe_fmtG (k := 2) (deeper_guards.trans gd) hr (pv 1)) PJ.nil))) pa_nil, pss_one (ps_est (pv 0) (pv 1)), ?_⟩
    have few : ("not a claim: " : Str).length ≤ 200 := by decide +kernel
    have line : t.length ≤ 6000 := Nat.le_trans vl.len (by decide)
    refine ⟨_, rfl, js1 few, _, rfl, t, fun G => G = H, _, rfl, vl.sg.mono (by decide) (fun _ e => e), Nat.le_trans line (by rw [sizeLine_eq]; decide), fun G j => ?_⟩
    subst j
    refine ⟨_, rfl, js2 few line, by show 1 ≤ 1000; decide, ha, fun y ny ne => ?_⟩
    exact ⟨_, rfl, _, rfl, a, D, y, rfl, O, no0, .inl ⟨upd_same, fun dx nd nda => q _ (end1 ny ne nd nda).1 (end1 ny ne nd nda).2⟩⟩
theorem ok_i31 (hcd : PySem.W.codeIn K cdv "InvalidCommand.__init__" = true) (hcc : K.lookup cc = some ⟨.type "cell", cd1, .cell (some (.ref D)), sl1⟩) (T : SupK "ValueError" "ValueError.__new__" "ValueError.__init__" veTail P K mg D f (fnC "__init__" "InvalidCommand.__init__" (defArgs sI31) (defBody sI31) (defScope sI31) .none kV doc pm an cdv ct cc) (arOf sI31)) (O : EsC K D) (no0 : PySem.W.findIn K (.ref D) "value" = some none) :
    FnG P w K mg base CX0 3 f (fnC "__init__" "InvalidCommand.__init__" (defArgs sI31) (defBody sI31) (defScope sI31) .none kV doc pm an cdv ct cc) ["self", "value"] (spE1 D "value") := by
  refine fn_supT (k := 2) (N := ["self", "value"]) ⟨rfl, rfl, rfl, by decide, rfl, by show ∀ x ∈ [("self" : Str), "value"], (defScope sI31).names.lookup x = some .local; decide +kernel, by show ∀ y ∈ (defScope sI31).names, y.2 ≠ .cell; decide +kernel, by show ∀ y ∈ (defScope sI31).names, y.2 = .free → y.1 = ("__class__" : Str); decide +kernel, rfl, rfl, rfl, rfl, rfl⟩ hcc F.excBase_ValueError PySem.W.kxs_ValueError T rfl hcd rfl (fun vs H Q E h => ?_) (fun env => rfl) (fun env => rfl) (fun L => rfl) (fun L => rfl) (fun A outer s H vs Q E gd hr h => ?_)
  · obtain ⟨a, v, t, rfl, _⟩ := h
    rfl
  · obtain ⟨a, v, t, rfl, ha, vl, q⟩ := h
    refine ⟨a, _, _, rfl, ha, pa_cons (pe_joined (PJ.cons pe_str (PJ.cons (pe_fmtG (k := 2) (deeper_guards.trans gd) hr (pv 1)) PJ.nil))) pa_nil, pss_one (ps_est (pv 0) (pv 1)), ?_⟩
    have few : ("not a command: " : Str).length ≤ 200 := by decide +kernel
    have line : t.length ≤ 6000 := Nat.le_trans vl.len (by decide)
    refine ⟨_, rfl, js1 few, _, rfl, t, fun G => G = H, _, rfl, vl.sg.mono (by decide) (fun _ e => e), Nat.le_trans line (by rw [sizeLine_eq]; decide), fun G j => ?_⟩
    subst j
    refine ⟨_, rfl, js2 few line, by show 1 ≤ 1000; decide, ha, fun y ny ne => ?_⟩
    exact ⟨_, rfl, _, rfl, a, D, y, rfl, O, no0, .inl ⟨upd_same, fun dx nd nda => q _ (end1 ny ne nd nda).1 (end1 ny ne nd nda).2⟩⟩
theorem ok_i32 (hcd : PySem.W.codeIn K cdv "OtherSort.__init__" = true) (hcc : K.lookup cc = some ⟨.type "cell", cd1, .cell (some (.ref D)), sl1⟩) (T : SupK "ValueError" "ValueError.__new__" "ValueError.__init__" veTail P K mg D f (fnC "__init__" "OtherSort.__init__" (defArgs sI32) (defBody sI32) (defScope sI32) .none kV doc pm an cdv ct cc) (arOf sI32)) (O : EsC K D) (no0 : PySem.W.findIn K (.ref D) "name" = some none) :
    FnG P w K mg base CX0 3 f (fnC "__init__" "OtherSort.__init__" (defArgs sI32) (defBody sI32) (defScope sI32) .none kV doc pm an cdv ct cc) ["self", "name"] (spE1 D "name") := by
  refine fn_supT (k := 2) (N := ["self", "name"]) ⟨rfl, rfl, rfl, by decide, rfl, by show ∀ x ∈ [("self" : Str), "name"], (defScope sI32).names.lookup x = some .local; decide +kernel, by show ∀ y ∈ (defScope sI32).names, y.2 ≠ .cell; decide +kernel, by show ∀ y ∈ (defScope sI32).names, y.2 = .free → y.1 = ("__class__" : Str); decide +kernel, rfl, rfl, rfl, rfl, rfl⟩ hcc F.excBase_ValueError PySem.W.kxs_ValueError T rfl hcd rfl (fun vs H Q E h => ?_) (fun env => rfl) (fun env => rfl) (fun L => rfl) (fun L => rfl) (fun A outer s H vs Q E gd hr h => ?_)
  · obtain ⟨a, v, t, rfl, _⟩ := h
    rfl
  · obtain ⟨a, v, t, rfl, ha, vl, q⟩ := h
    refine ⟨a, _, _, rfl, ha, pa_cons (pe_joined (PJ.cons pe_str (PJ.cons (pe_fmtG (k := 2) (deeper_guards.trans gd) hr (pv 1)) PJ.nil))) pa_nil, pss_one (ps_est (pv 0) (pv 1)), ?_⟩
    have few : ("the name has two sorts: " : Str).length ≤ 200 := by decide +kernel
    have line : t.length ≤ 6000 := Nat.le_trans vl.len (by decide)
    refine ⟨_, rfl, js1 few, _, rfl, t, fun G => G = H, _, rfl, vl.sg.mono (by decide) (fun _ e => e), Nat.le_trans line (by rw [sizeLine_eq]; decide), fun G j => ?_⟩
    subst j
    refine ⟨_, rfl, js2 few line, by show 1 ≤ 1000; decide, ha, fun y ny ne => ?_⟩
    exact ⟨_, rfl, _, rfl, a, D, y, rfl, O, no0, .inl ⟨upd_same, fun dx nd nda => q _ (end1 ny ne nd nda).1 (end1 ny ne nd nda).2⟩⟩
theorem ok_i33 (hcd : PySem.W.codeIn K cdv "OtherSorts.__init__" = true) (hcc : K.lookup cc = some ⟨.type "cell", cd1, .cell (some (.ref D)), sl1⟩) (T : SupK "ValueError" "ValueError.__new__" "ValueError.__init__" veTail P K mg D f (fnC "__init__" "OtherSorts.__init__" (defArgs sI33) (defBody sI33) (defScope sI33) .none kV doc pm an cdv ct cc) (arOf sI33)) (O : EsC K D) (no0 : PySem.W.findIn K (.ref D) "position" = some none) :
    FnG P w K mg base CX0 3 f (fnC "__init__" "OtherSorts.__init__" (defArgs sI33) (defBody sI33) (defScope sI33) .none kV doc pm an cdv ct cc) ["self", "position"] (spE1 D "position") := by
  refine fn_supT (k := 2) (N := ["self", "position"]) ⟨rfl, rfl, rfl, by decide, rfl, by show ∀ x ∈ [("self" : Str), "position"], (defScope sI33).names.lookup x = some .local; decide +kernel, by show ∀ y ∈ (defScope sI33).names, y.2 ≠ .cell; decide +kernel, by show ∀ y ∈ (defScope sI33).names, y.2 = .free → y.1 = ("__class__" : Str); decide +kernel, rfl, rfl, rfl, rfl, rfl⟩ hcc F.excBase_ValueError PySem.W.kxs_ValueError T rfl hcd rfl (fun vs H Q E h => ?_) (fun env => rfl) (fun env => rfl) (fun L => rfl) (fun L => rfl) (fun A outer s H vs Q E gd hr h => ?_)
  · obtain ⟨a, v, t, rfl, _⟩ := h
    rfl
  · obtain ⟨a, v, t, rfl, ha, vl, q⟩ := h
    refine ⟨a, _, _, rfl, ha, pa_cons (pe_joined (PJ.cons pe_str (PJ.cons (pe_fmtG (k := 2) (deeper_guards.trans gd) hr (pv 1)) PJ.nil))) pa_nil, pss_one (ps_est (pv 0) (pv 1)), ?_⟩
    have few : ("the told sorts differ, at position " : Str).length ≤ 200 := by decide +kernel
    have line : t.length ≤ 6000 := Nat.le_trans vl.len (by decide)
    refine ⟨_, rfl, js1 few, _, rfl, t, fun G => G = H, _, rfl, vl.sg.mono (by decide) (fun _ e => e), Nat.le_trans line (by rw [sizeLine_eq]; decide), fun G j => ?_⟩
    subst j
    refine ⟨_, rfl, js2 few line, by show 1 ≤ 1000; decide, ha, fun y ny ne => ?_⟩
    exact ⟨_, rfl, _, rfl, a, D, y, rfl, O, no0, .inl ⟨upd_same, fun dx nd nda => q _ (end1 ny ne nd nda).1 (end1 ny ne nd nda).2⟩⟩
theorem ok_i34 (hcd : PySem.W.codeIn K cdv "OtherTable.__init__" = true) (hcc : K.lookup cc = some ⟨.type "cell", cd1, .cell (some (.ref D)), sl1⟩) (T : SupK "ValueError" "ValueError.__new__" "ValueError.__init__" veTail P K mg D f (fnC "__init__" "OtherTable.__init__" (defArgs sI34) (defBody sI34) (defScope sI34) .none kV doc pm an cdv ct cc) (arOf sI34)) (O : EsC K D) (no0 : PySem.W.findIn K (.ref D) "name" = some none) :
    FnG P w K mg base CX0 3 f (fnC "__init__" "OtherTable.__init__" (defArgs sI34) (defBody sI34) (defScope sI34) .none kV doc pm an cdv ct cc) ["self", "name"] (spE1 D "name") := by
  refine fn_supT (k := 2) (N := ["self", "name"]) ⟨rfl, rfl, rfl, by decide, rfl, by show ∀ x ∈ [("self" : Str), "name"], (defScope sI34).names.lookup x = some .local; decide +kernel, by show ∀ y ∈ (defScope sI34).names, y.2 ≠ .cell; decide +kernel, by show ∀ y ∈ (defScope sI34).names, y.2 = .free → y.1 = ("__class__" : Str); decide +kernel, rfl, rfl, rfl, rfl, rfl⟩ hcc F.excBase_ValueError PySem.W.kxs_ValueError T rfl hcd rfl (fun vs H Q E h => ?_) (fun env => rfl) (fun env => rfl) (fun L => rfl) (fun L => rfl) (fun A outer s H vs Q E gd hr h => ?_)
  · obtain ⟨a, v, t, rfl, _⟩ := h
    rfl
  · obtain ⟨a, v, t, rfl, ha, vl, q⟩ := h
    refine ⟨a, _, _, rfl, ha, pa_cons (pe_joined (PJ.cons pe_str (PJ.cons (pe_fmtG (k := 2) (deeper_guards.trans gd) hr (pv 1)) PJ.nil))) pa_nil, pss_one (ps_est (pv 0) (pv 1)), ?_⟩
    have few : ("two unequal tables have the name " : Str).length ≤ 200 := by decide +kernel
    have line : t.length ≤ 6000 := Nat.le_trans vl.len (by decide)
    refine ⟨_, rfl, js1 few, _, rfl, t, fun G => G = H, _, rfl, vl.sg.mono (by decide) (fun _ e => e), Nat.le_trans line (by rw [sizeLine_eq]; decide), fun G j => ?_⟩
    subst j
    refine ⟨_, rfl, js2 few line, by show 1 ≤ 1000; decide, ha, fun y ny ne => ?_⟩
    exact ⟨_, rfl, _, rfl, a, D, y, rfl, O, no0, .inl ⟨upd_same, fun dx nd nda => q _ (end1 ny ne nd nda).1 (end1 ny ne nd nda).2⟩⟩
theorem ok_i35 (hcd : PySem.W.codeIn K cdv "OtherNames.__init__" = true) (hcc : K.lookup cc = some ⟨.type "cell", cd1, .cell (some (.ref D)), sl1⟩) (T : SupK "ValueError" "ValueError.__new__" "ValueError.__init__" veTail P K mg D f (fnC "__init__" "OtherNames.__init__" (defArgs sI35) (defBody sI35) (defScope sI35) .none kV doc pm an cdv ct cc) (arOf sI35)) (O : EsC K D) (no0 : PySem.W.findIn K (.ref D) "name" = some none) :
    FnG P w K mg base CX0 3 f (fnC "__init__" "OtherNames.__init__" (defArgs sI35) (defBody sI35) (defScope sI35) .none kV doc pm an cdv ct cc) ["self", "name"] (spE1 D "name") := by
  refine fn_supT (k := 2) (N := ["self", "name"]) ⟨rfl, rfl, rfl, by decide, rfl, by show ∀ x ∈ [("self" : Str), "name"], (defScope sI35).names.lookup x = some .local; decide +kernel, by show ∀ y ∈ (defScope sI35).names, y.2 ≠ .cell; decide +kernel, by show ∀ y ∈ (defScope sI35).names, y.2 = .free → y.1 = ("__class__" : Str); decide +kernel, rfl, rfl, rfl, rfl, rfl⟩ hcc F.excBase_ValueError PySem.W.kxs_ValueError T rfl hcd rfl (fun vs H Q E h => ?_) (fun env => rfl) (fun env => rfl) (fun L => rfl) (fun L => rfl) (fun A outer s H vs Q E gd hr h => ?_)
  · obtain ⟨a, v, t, rfl, _⟩ := h
    rfl
  · obtain ⟨a, v, t, rfl, ha, vl, q⟩ := h
    refine ⟨a, _, _, rfl, ha, pa_cons (pe_joined (PJ.cons pe_str (PJ.cons (pe_fmtG (k := 2) (deeper_guards.trans gd) hr (pv 1)) PJ.nil))) pa_nil, pss_one (ps_est (pv 0) (pv 1)), ?_⟩
    have few : ("only one of the programs defines the name " : Str).length ≤ 200 := by decide +kernel
    have line : t.length ≤ 6000 := Nat.le_trans vl.len (by decide)
    refine ⟨_, rfl, js1 few, _, rfl, t, fun G => G = H, _, rfl, vl.sg.mono (by decide) (fun _ e => e), Nat.le_trans line (by rw [sizeLine_eq]; decide), fun G j => ?_⟩
    subst j
    refine ⟨_, rfl, js2 few line, by show 1 ≤ 1000; decide, ha, fun y ny ne => ?_⟩
    exact ⟨_, rfl, _, rfl, a, D, y, rfl, O, no0, .inl ⟨upd_same, fun dx nd nda => q _ (end1 ny ne nd nda).1 (end1 ny ne nd nda).2⟩⟩
theorem ok_i36 (hcd : PySem.W.codeIn K cdv "Vanishing.__init__" = true) (hcc : K.lookup cc = some ⟨.type "cell", cd1, .cell (some (.ref D)), sl1⟩) (T : SupK "ValueError" "ValueError.__new__" "ValueError.__init__" veTail P K mg D f (fnC "__init__" "Vanishing.__init__" (defArgs sI36) (defBody sI36) (defScope sI36) .none kV doc pm an cdv ct cc) (arOf sI36)) (O : EsC K D) (no0 : PySem.W.findIn K (.ref D) "name" = some none) :
    FnG P w K mg base CX0 3 f (fnC "__init__" "Vanishing.__init__" (defArgs sI36) (defBody sI36) (defScope sI36) .none kV doc pm an cdv ct cc) ["self", "name"] (spE1 D "name") := by
  refine fn_supT (k := 2) (N := ["self", "name"]) ⟨rfl, rfl, rfl, by decide, rfl, by show ∀ x ∈ [("self" : Str), "name"], (defScope sI36).names.lookup x = some .local; decide +kernel, by show ∀ y ∈ (defScope sI36).names, y.2 ≠ .cell; decide +kernel, by show ∀ y ∈ (defScope sI36).names, y.2 = .free → y.1 = ("__class__" : Str); decide +kernel, rfl, rfl, rfl, rfl, rfl⟩ hcc F.excBase_ValueError PySem.W.kxs_ValueError T rfl hcd rfl (fun vs H Q E h => ?_) (fun env => rfl) (fun env => rfl) (fun L => rfl) (fun L => rfl) (fun A outer s H vs Q E gd hr h => ?_)
  · obtain ⟨a, v, t, rfl, _⟩ := h
    rfl
  · obtain ⟨a, v, t, rfl, ha, vl, q⟩ := h
    refine ⟨a, _, _, rfl, ha, pa_cons (pe_joined (PJ.cons pe_str (PJ.cons (pe_fmtG (k := 2) (deeper_guards.trans gd) hr (pv 1)) PJ.nil))) pa_nil, pss_one (ps_est (pv 0) (pv 1)), ?_⟩
    have few : ("all entries of the table would be 0: " : Str).length ≤ 200 := by decide +kernel
    have line : t.length ≤ 6000 := Nat.le_trans vl.len (by decide)
    refine ⟨_, rfl, js1 few, _, rfl, t, fun G => G = H, _, rfl, vl.sg.mono (by decide) (fun _ e => e), Nat.le_trans line (by rw [sizeLine_eq]; decide), fun G j => ?_⟩
    subst j
    refine ⟨_, rfl, js2 few line, by show 1 ≤ 1000; decide, ha, fun y ny ne => ?_⟩
    exact ⟨_, rfl, _, rfl, a, D, y, rfl, O, no0, .inl ⟨upd_same, fun dx nd nda => q _ (end1 ny ne nd nda).1 (end1 ny ne nd nda).2⟩⟩
theorem ok_i37 (hcd : PySem.W.codeIn K cdv "ChangesSign.__init__" = true) (hcc : K.lookup cc = some ⟨.type "cell", cd1, .cell (some (.ref D)), sl1⟩) (T : SupK "ValueError" "ValueError.__new__" "ValueError.__init__" veTail P K mg D f (fnC "__init__" "ChangesSign.__init__" (defArgs sI37) (defBody sI37) (defScope sI37) .none kV doc pm an cdv ct cc) (arOf sI37)) (O : EsC K D) (no0 : PySem.W.findIn K (.ref D) "name" = some none) :
    FnG P w K mg base CX0 3 f (fnC "__init__" "ChangesSign.__init__" (defArgs sI37) (defBody sI37) (defScope sI37) .none kV doc pm an cdv ct cc) ["self", "name"] (spE1 D "name") := by
  refine fn_supT (k := 2) (N := ["self", "name"]) ⟨rfl, rfl, rfl, by decide, rfl, by show ∀ x ∈ [("self" : Str), "name"], (defScope sI37).names.lookup x = some .local; decide +kernel, by show ∀ y ∈ (defScope sI37).names, y.2 ≠ .cell; decide +kernel, by show ∀ y ∈ (defScope sI37).names, y.2 = .free → y.1 = ("__class__" : Str); decide +kernel, rfl, rfl, rfl, rfl, rfl⟩ hcc F.excBase_ValueError PySem.W.kxs_ValueError T rfl hcd rfl (fun vs H Q E h => ?_) (fun env => rfl) (fun env => rfl) (fun L => rfl) (fun L => rfl) (fun A outer s H vs Q E gd hr h => ?_)
  · obtain ⟨a, v, t, rfl, _⟩ := h
    rfl
  · obtain ⟨a, v, t, rfl, ha, vl, q⟩ := h
    refine ⟨a, _, _, rfl, ha, pa_cons (pe_joined (PJ.cons pe_str (PJ.cons (pe_fmtG (k := 2) (deeper_guards.trans gd) hr (pv 1)) PJ.nil))) pa_nil, pss_one (ps_est (pv 0) (pv 1)), ?_⟩
    have few : ("a turn of the table has the sign -1: " : Str).length ≤ 200 := by decide +kernel
    have line : t.length ≤ 6000 := Nat.le_trans vl.len (by decide)
    refine ⟨_, rfl, js1 few, _, rfl, t, fun G => G = H, _, rfl, vl.sg.mono (by decide) (fun _ e => e), Nat.le_trans line (by rw [sizeLine_eq]; decide), fun G j => ?_⟩
    subst j
    refine ⟨_, rfl, js2 few line, by show 1 ≤ 1000; decide, ha, fun y ny ne => ?_⟩
    exact ⟨_, rfl, _, rfl, a, D, y, rfl, O, no0, .inl ⟨upd_same, fun dx nd nda => q _ (end1 ny ne nd nda).1 (end1 ny ne nd nda).2⟩⟩
theorem ok_i38 (hcd : PySem.W.codeIn K cdv "NoFactors.__init__" = true) (hcc : K.lookup cc = some ⟨.type "cell", cd1, .cell (some (.ref D)), sl1⟩) (T : SupK "ValueError" "ValueError.__new__" "ValueError.__init__" veTail P K mg D f (fnC "__init__" "NoFactors.__init__" (defArgs sI38) (defBody sI38) (defScope sI38) .none kV doc pm an cdv ct cc) (arOf sI38)) (O : EsC K D) :
    FnG P w K mg base CX0 3 f (fnC "__init__" "NoFactors.__init__" (defArgs sI38) (defBody sI38) (defScope sI38) .none kV doc pm an cdv ct cc) ["self"] (spE0 D) := by
  refine fn_supT (k := 2) (N := ["self"]) ⟨rfl, rfl, rfl, by decide, rfl, by show ∀ x ∈ [("self" : Str)], (defScope sI38).names.lookup x = some .local; decide +kernel, by show ∀ y ∈ (defScope sI38).names, y.2 ≠ .cell; decide +kernel, by show ∀ y ∈ (defScope sI38).names, y.2 = .free → y.1 = ("__class__" : Str); decide +kernel, rfl, rfl, rfl, rfl, rfl⟩ hcc F.excBase_ValueError PySem.W.kxs_ValueError T rfl hcd rfl (fun vs H Q E h => ?_) (fun env => rfl) (fun env => rfl) (fun L => rfl) (fun L => rfl) (fun A outer s H vs Q E gd hr h => ?_)
  · obtain ⟨a, rfl, _⟩ := h
    rfl
  · obtain ⟨a, rfl, ha, q⟩ := h
    refine ⟨a, _, _, rfl, ha, pa_cons pe_str pa_nil, pss_nil, ?_⟩
    exact ⟨by show 1 ≤ 1000; decide, ha, fun t nt ne => q _ (end0 ha nt ne).1 (end0 ha nt ne).2⟩
theorem ok_i39 (hcd : PySem.W.codeIn K cdv "TooMany.__init__" = true) (hcc : K.lookup cc = some ⟨.type "cell", cd1, .cell (some (.ref D)), sl1⟩) (T : SupK "ValueError" "ValueError.__new__" "ValueError.__init__" veTail P K mg D f (fnC "__init__" "TooMany.__init__" (defArgs sI39) (defBody sI39) (defScope sI39) .none kV doc pm an cdv ct cc) (arOf sI39)) (O : EsC K D) (no0 : PySem.W.findIn K (.ref D) "kind" = some none) (no1 : PySem.W.findIn K (.ref D) "limit" = some none) :
    FnG P w K mg base CX0 3 f (fnC "__init__" "TooMany.__init__" (defArgs sI39) (defBody sI39) (defScope sI39) .none kV doc pm an cdv ct cc) ["self", "kind", "limit"] (spE2 D "kind" "limit") := by
  refine fn_supT (k := 2) (N := ["self", "kind", "limit"]) ⟨rfl, rfl, rfl, by decide, rfl, by show ∀ x ∈ [("self" : Str), "kind", "limit"], (defScope sI39).names.lookup x = some .local; decide +kernel, by show ∀ y ∈ (defScope sI39).names, y.2 ≠ .cell; decide +kernel, by show ∀ y ∈ (defScope sI39).names, y.2 = .free → y.1 = ("__class__" : Str); decide +kernel, rfl, rfl, rfl, rfl, rfl⟩ hcc F.excBase_ValueError PySem.W.kxs_ValueError T rfl hcd rfl (fun vs H Q E h => ?_) (fun env => rfl) (fun env => rfl) (fun L => rfl) (fun L => rfl) (fun A outer s H vs Q E gd hr h => ?_)
  · obtain ⟨a, v, u, t, t2, rfl, _⟩ := h
    rfl
  · obtain ⟨a, v, u, t, t2, rfl, ha, vl, vl2, q⟩ := h
    refine ⟨a, _, _, rfl, ha, pa_cons (pe_joined (PJ.cons pe_str (PJ.cons (pe_fmtP (n := 6000) (deeper_guards.trans gd) hr (by decide) (by rw [sizeLine_eq]; decide) (pv 1)) (PJ.cons pe_str (PJ.cons (pe_fmtG (k := 2) (deeper_guards.trans gd) hr (pv 2)) PJ.nil))))) pa_nil, pss_cons (ps_est (pv 0) (pv 1)) (pss_one (ps_est (pv 0) (pv 2))), ?_⟩
    have few : ("too many " : Str).length ≤ 200 := by decide +kernel
    have few2 : (": more than " : Str).length ≤ 200 := by decide +kernel
    have l1 : t.length ≤ 6000 := Nat.le_trans vl.len (by decide)
    have l2 : t2.length ≤ 6000 := Nat.le_trans vl2.len (by decide)
    refine ⟨_, rfl, js1 few, _, rfl, vl.fmt, fun m lm => ?_⟩
    refine ⟨_, rfl, js2 few lm, _, rfl, js3 few lm few2, _, rfl, t2, fun G => G = H, _, rfl, vl2.sg.mono (by decide) (fun _ e => e), Nat.le_trans l2 (by rw [sizeLine_eq]; decide), fun G j => ?_⟩
    subst j
    refine ⟨_, rfl, js4 few lm few2 l2, by show 1 ≤ 1000; decide, ha, fun y ny ne => ?_⟩
    refine ⟨_, rfl, _, rfl, a, D, y, rfl, O, no0, .inl ⟨upd_same, fun dx nd nda => ?_⟩⟩
    obtain ⟨x1, x2⟩ := end1 (f := "kind") (v := v) ny ne nd nda
    have nyd : y ≠ dx := fun z => by rw [← z, upd_ne ne, upd_same] at nd; cases nd
    obtain ⟨y1, y2⟩ := end2 (g := "limit") (u := u) (fs := [("kind", v)]) x1 (by rw [upd_ne nda, upd_ne nyd.symm] at nd; exact nd) nda x2 upd_same ⟨_, by rw [upd_ne ne, upd_ne nyd, upd_ne ne]; exact upd_same⟩ nyd
    exact ⟨_, rfl, _, rfl, a, D, y, rfl, O, no1, .inr ⟨dx, _, upd_same, by rw [upd_ne nda]; exact upd_same, (by show 1 ≤ 900; decide), q _ y1 y2⟩⟩
theorem ok_i40 (hcd : PySem.W.codeIn K cdv "UnknownSort.__init__" = true) (hcc : K.lookup cc = some ⟨.type "cell", cd1, .cell (some (.ref D)), sl1⟩) (T : SupK "LookupError" "LookupError.__new__" "LookupError.__init__" leTail P K mg D f (fnC "__init__" "UnknownSort.__init__" (defArgs sI40) (defBody sI40) (defScope sI40) .none kV doc pm an cdv ct cc) (arOf sI40)) (O : EsC K D) (no0 : PySem.W.findIn K (.ref D) "name" = some none) :
    FnG P w K mg base CX0 3 f (fnC "__init__" "UnknownSort.__init__" (defArgs sI40) (defBody sI40) (defScope sI40) .none kV doc pm an cdv ct cc) ["self", "name"] (spE1 D "name") := by
  refine fn_supT (k := 2) (N := ["self", "name"]) ⟨rfl, rfl, rfl, by decide, rfl, by show ∀ x ∈ [("self" : Str), "name"], (defScope sI40).names.lookup x = some .local; decide +kernel, by show ∀ y ∈ (defScope sI40).names, y.2 ≠ .cell; decide +kernel, by show ∀ y ∈ (defScope sI40).names, y.2 = .free → y.1 = ("__class__" : Str); decide +kernel, rfl, rfl, rfl, rfl, rfl⟩ hcc F.excBase_LookupError PySem.W.kxs_LookupError T rfl hcd rfl (fun vs H Q E h => ?_) (fun env => rfl) (fun env => rfl) (fun L => rfl) (fun L => rfl) (fun A outer s H vs Q E gd hr h => ?_)
  · obtain ⟨a, v, t, rfl, _⟩ := h
    rfl
  · obtain ⟨a, v, t, rfl, ha, vl, q⟩ := h
    refine ⟨a, _, _, rfl, ha, pa_cons (pe_joined (PJ.cons pe_str (PJ.cons (pe_fmtG (k := 2) (deeper_guards.trans gd) hr (pv 1)) PJ.nil))) pa_nil, pss_one (ps_est (pv 0) (pv 1)), ?_⟩
    have few : ("the sort has no size: " : Str).length ≤ 200 := by decide +kernel
    have line : t.length ≤ 6000 := Nat.le_trans vl.len (by decide)
    refine ⟨_, rfl, js1 few, _, rfl, t, fun G => G = H, _, rfl, vl.sg.mono (by decide) (fun _ e => e), Nat.le_trans line (by rw [sizeLine_eq]; decide), fun G j => ?_⟩
    subst j
    refine ⟨_, rfl, js2 few line, by show 1 ≤ 1000; decide, ha, fun y ny ne => ?_⟩
    exact ⟨_, rfl, _, rfl, a, D, y, rfl, O, no0, .inl ⟨upd_same, fun dx nd nda => q _ (end1 ny ne nd nda).1 (end1 ny ne nd nda).2⟩⟩
theorem ok_i41 (hcd : PySem.W.codeIn K cdv "UnknownName.__init__" = true) (hcc : K.lookup cc = some ⟨.type "cell", cd1, .cell (some (.ref D)), sl1⟩) (T : SupK "LookupError" "LookupError.__new__" "LookupError.__init__" leTail P K mg D f (fnC "__init__" "UnknownName.__init__" (defArgs sI41) (defBody sI41) (defScope sI41) .none kV doc pm an cdv ct cc) (arOf sI41)) (O : EsC K D) (no0 : PySem.W.findIn K (.ref D) "value" = some none) :
    FnG P w K mg base CX0 3 f (fnC "__init__" "UnknownName.__init__" (defArgs sI41) (defBody sI41) (defScope sI41) .none kV doc pm an cdv ct cc) ["self", "value"] (spE1 D "value") := by
  refine fn_supT (k := 2) (N := ["self", "value"]) ⟨rfl, rfl, rfl, by decide, rfl, by show ∀ x ∈ [("self" : Str), "value"], (defScope sI41).names.lookup x = some .local; decide +kernel, by show ∀ y ∈ (defScope sI41).names, y.2 ≠ .cell; decide +kernel, by show ∀ y ∈ (defScope sI41).names, y.2 = .free → y.1 = ("__class__" : Str); decide +kernel, rfl, rfl, rfl, rfl, rfl⟩ hcc F.excBase_LookupError PySem.W.kxs_LookupError T rfl hcd rfl (fun vs H Q E h => ?_) (fun env => rfl) (fun env => rfl) (fun L => rfl) (fun L => rfl) (fun A outer s H vs Q E gd hr h => ?_)
  · obtain ⟨a, v, t, rfl, _⟩ := h
    rfl
  · obtain ⟨a, v, t, rfl, ha, vl, q⟩ := h
    refine ⟨a, _, _, rfl, ha, pa_cons (pe_joined (PJ.cons pe_str (PJ.cons (pe_fmtG (k := 2) (deeper_guards.trans gd) hr (pv 1)) PJ.nil))) pa_nil, pss_one (ps_est (pv 0) (pv 1)), ?_⟩
    have few : ("the name is not known here: " : Str).length ≤ 200 := by decide +kernel
    have line : t.length ≤ 6000 := Nat.le_trans vl.len (by decide)
    refine ⟨_, rfl, js1 few, _, rfl, t, fun G => G = H, _, rfl, vl.sg.mono (by decide) (fun _ e => e), Nat.le_trans line (by rw [sizeLine_eq]; decide), fun G j => ?_⟩
    subst j
    refine ⟨_, rfl, js2 few line, by show 1 ≤ 1000; decide, ha, fun y ny ne => ?_⟩
    exact ⟨_, rfl, _, rfl, a, D, y, rfl, O, no0, .inl ⟨upd_same, fun dx nd nda => q _ (end1 ny ne nd nda).1 (end1 ny ne nd nda).2⟩⟩
theorem ok_i42 (hcd : PySem.W.codeIn K cdv "NameTaken.__init__" = true) (hcc : K.lookup cc = some ⟨.type "cell", cd1, .cell (some (.ref D)), sl1⟩) (T : SupK "RuntimeError" "RuntimeError.__new__" "RuntimeError.__init__" reTail P K mg D f (fnC "__init__" "NameTaken.__init__" (defArgs sI42) (defBody sI42) (defScope sI42) .none kV doc pm an cdv ct cc) (arOf sI42)) (O : EsC K D) (no0 : PySem.W.findIn K (.ref D) "name" = some none) :
    FnG P w K mg base CX0 3 f (fnC "__init__" "NameTaken.__init__" (defArgs sI42) (defBody sI42) (defScope sI42) .none kV doc pm an cdv ct cc) ["self", "name"] (spE1 D "name") := by
  refine fn_supT (k := 2) (N := ["self", "name"]) ⟨rfl, rfl, rfl, by decide, rfl, by show ∀ x ∈ [("self" : Str), "name"], (defScope sI42).names.lookup x = some .local; decide +kernel, by show ∀ y ∈ (defScope sI42).names, y.2 ≠ .cell; decide +kernel, by show ∀ y ∈ (defScope sI42).names, y.2 = .free → y.1 = ("__class__" : Str); decide +kernel, rfl, rfl, rfl, rfl, rfl⟩ hcc F.excBase_RuntimeError PySem.W.kxs_RuntimeError T rfl hcd rfl (fun vs H Q E h => ?_) (fun env => rfl) (fun env => rfl) (fun L => rfl) (fun L => rfl) (fun A outer s H vs Q E gd hr h => ?_)
  · obtain ⟨a, v, t, rfl, _⟩ := h
    rfl
  · obtain ⟨a, v, t, rfl, ha, vl, q⟩ := h
    refine ⟨a, _, _, rfl, ha, pa_cons (pe_joined (PJ.cons pe_str (PJ.cons (pe_fmtG (k := 2) (deeper_guards.trans gd) hr (pv 1)) PJ.nil))) pa_nil, pss_one (ps_est (pv 0) (pv 1)), ?_⟩
    have few : ("the name is used already: " : Str).length ≤ 200 := by decide +kernel
    have line : t.length ≤ 6000 := Nat.le_trans vl.len (by decide)
    refine ⟨_, rfl, js1 few, _, rfl, t, fun G => G = H, _, rfl, vl.sg.mono (by decide) (fun _ e => e), Nat.le_trans line (by rw [sizeLine_eq]; decide), fun G j => ?_⟩
    subst j
    refine ⟨_, rfl, js2 few line, by show 1 ≤ 1000; decide, ha, fun y ny ne => ?_⟩
    exact ⟨_, rfl, _, rfl, a, D, y, rfl, O, no0, .inl ⟨upd_same, fun dx nd nda => q _ (end1 ny ne nd nda).1 (end1 ny ne nd nda).2⟩⟩
theorem ok_i43 (hcd : PySem.W.codeIn K cdv "NothingToUndo.__init__" = true) (hcc : K.lookup cc = some ⟨.type "cell", cd1, .cell (some (.ref D)), sl1⟩) (T : SupK "RuntimeError" "RuntimeError.__new__" "RuntimeError.__init__" reTail P K mg D f (fnC "__init__" "NothingToUndo.__init__" (defArgs sI43) (defBody sI43) (defScope sI43) .none kV doc pm an cdv ct cc) (arOf sI43)) (O : EsC K D) :
    FnG P w K mg base CX0 3 f (fnC "__init__" "NothingToUndo.__init__" (defArgs sI43) (defBody sI43) (defScope sI43) .none kV doc pm an cdv ct cc) ["self"] (spE0 D) := by
  refine fn_supT (k := 2) (N := ["self"]) ⟨rfl, rfl, rfl, by decide, rfl, by show ∀ x ∈ [("self" : Str)], (defScope sI43).names.lookup x = some .local; decide +kernel, by show ∀ y ∈ (defScope sI43).names, y.2 ≠ .cell; decide +kernel, by show ∀ y ∈ (defScope sI43).names, y.2 = .free → y.1 = ("__class__" : Str); decide +kernel, rfl, rfl, rfl, rfl, rfl⟩ hcc F.excBase_RuntimeError PySem.W.kxs_RuntimeError T rfl hcd rfl (fun vs H Q E h => ?_) (fun env => rfl) (fun env => rfl) (fun L => rfl) (fun L => rfl) (fun A outer s H vs Q E gd hr h => ?_)
  · obtain ⟨a, rfl, _⟩ := h
    rfl
  · obtain ⟨a, rfl, ha, q⟩ := h
    refine ⟨a, _, _, rfl, ha, pa_cons pe_str pa_nil, pss_nil, ?_⟩
    exact ⟨by show 1 ≤ 1000; decide, ha, fun t nt ne => q _ (end0 ha nt ne).1 (end0 ha nt ne).2⟩
theorem ok_i44 (hcd : PySem.W.codeIn K cdv "DividedByZero.__init__" = true) (hcc : K.lookup cc = some ⟨.type "cell", cd1, .cell (some (.ref D)), sl1⟩) (T : SupK "RuntimeError" "RuntimeError.__new__" "RuntimeError.__init__" reTail P K mg D f (fnC "__init__" "DividedByZero.__init__" (defArgs sI44) (defBody sI44) (defScope sI44) .none kV doc pm an cdv ct cc) (arOf sI44)) (O : EsC K D) :
    FnG P w K mg base CX0 3 f (fnC "__init__" "DividedByZero.__init__" (defArgs sI44) (defBody sI44) (defScope sI44) .none kV doc pm an cdv ct cc) ["self"] (spE0 D) := by
  refine fn_supT (k := 2) (N := ["self"]) ⟨rfl, rfl, rfl, by decide, rfl, by show ∀ x ∈ [("self" : Str)], (defScope sI44).names.lookup x = some .local; decide +kernel, by show ∀ y ∈ (defScope sI44).names, y.2 ≠ .cell; decide +kernel, by show ∀ y ∈ (defScope sI44).names, y.2 = .free → y.1 = ("__class__" : Str); decide +kernel, rfl, rfl, rfl, rfl, rfl⟩ hcc F.excBase_RuntimeError PySem.W.kxs_RuntimeError T rfl hcd rfl (fun vs H Q E h => ?_) (fun env => rfl) (fun env => rfl) (fun L => rfl) (fun L => rfl) (fun A outer s H vs Q E gd hr h => ?_)
  · obtain ⟨a, rfl, _⟩ := h
    rfl
  · obtain ⟨a, rfl, ha, q⟩ := h
    refine ⟨a, _, _, rfl, ha, pa_cons pe_str pa_nil, pss_nil, ?_⟩
    exact ⟨by show 1 ≤ 1000; decide, ha, fun t nt ne => q _ (end0 ha nt ne).1 (end0 ha nt ne).2⟩
end
end S14

namespace S14
open PySem L2 GM
def bs (k : Nat) : Nat := if k < 40 then 0 else if k < 42 then 1 else 2
def tn (j : Nat) : String := if j = 0 then "ValueError" else if j = 1 then "LookupError" else "RuntimeError"
/-- what is known of the error classes: D k the k-th one, S j the j-th base -/
structure Errs (P : Program) (w : World) (K : PySem.W.Frag) (mg : Str → Option Value) (base : Heap) (D S : Nat → Addr) : Prop where
  e0 : Er1 P w K mg base "InvalidNumber" "value" (D 0)
  e1 : Er1 P w K mg base "InvalidName" "value" (D 1)
  e2 : Er1 P w K mg base "InvalidCount" "value" (D 2)
  e3 : Er1 P w K mg base "InvalidSlots" "position" (D 3)
  e4 : Er1 P w K mg base "InvalidTurn" "position" (D 4)
  e5 : Er1 P w K mg base "InvalidPlaces" "value" (D 5)
  e6 : Er1 P w K mg base "InvalidSizes" "value" (D 6)
  e7 : Er1 P w K mg base "InvalidContents" "position" (D 7)
  e8 : Er2 P w K mg base "InvalidEntry" "position" "places" (D 8)
  e9 : Er1 P w K mg base "InvalidTold" "position" (D 9)
  e10 : Er1 P w K mg base "InvalidFactors" "position" (D 10)
  e11 : Er1 P w K mg base "InvalidSorts" "position" (D 11)
  e12 : Er1 P w K mg base "InvalidTerms" "position" (D 12)
  e13 : Er1 P w K mg base "InvalidExpression" "value" (D 13)
  e14 : Er1 P w K mg base "InvalidHeld" "position" (D 14)
  e15 : Er1 P w K mg base "InvalidPosition" "value" (D 15)
  e16 : Er1 P w K mg base "InvalidSum" "position" (D 16)
  e17 : Er1 P w K mg base "InvalidOrder" "value" (D 17)
  e18 : Er1 P w K mg base "InvalidPartition" "value" (D 18)
  e19 : Er1 P w K mg base "InvalidExpressions" "position" (D 19)
  e20 : Er1 P w K mg base "InvalidPlan" "value" (D 20)
  e21 : Er1 P w K mg base "InvalidNames" "value" (D 21)
  e22 : Er1 P w K mg base "InvalidPolynomial" "value" (D 22)
  e23 : Er1 P w K mg base "InvalidGrowth" "value" (D 23)
  e24 : Er1 P w K mg base "InvalidChange" "value" (D 24)
  e25 : Er1 P w K mg base "InvalidWeights" "value" (D 25)
  e26 : Er1 P w K mg base "InvalidPatterns" "position" (D 26)
  e27 : Er2 P w K mg base "EmptyEntry" "position" "places" (D 27)
  e28 : Er1 P w K mg base "InvalidText" "line" (D 28)
  e29 : Er1 P w K mg base "InvalidDefinitions" "position" (D 29)
  e30 : Er1 P w K mg base "InvalidClaim" "value" (D 30)
  e31 : Er1 P w K mg base "InvalidCommand" "value" (D 31)
  e32 : Er1 P w K mg base "OtherSort" "name" (D 32)
  e33 : Er1 P w K mg base "OtherSorts" "position" (D 33)
  e34 : Er1 P w K mg base "OtherTable" "name" (D 34)
  e35 : Er1 P w K mg base "OtherNames" "name" (D 35)
  e36 : Er1 P w K mg base "Vanishing" "name" (D 36)
  e37 : Er1 P w K mg base "ChangesSign" "name" (D 37)
  e38 : Er0 P w K mg base "NoFactors" (D 38)
  e39 : Er2 P w K mg base "TooMany" "kind" "limit" (D 39)
  e40 : Er1 P w K mg base "UnknownSort" "name" (D 40)
  e41 : Er1 P w K mg base "UnknownName" "value" (D 41)
  e42 : Er1 P w K mg base "NameTaken" "name" (D 42)
  e43 : Er0 P w K mg base "NothingToUndo" (D 43)
  e44 : Er0 P w K mg base "DividedByZero" (D 44)
  ec : ∀ k < 45, ExcC K (D k)
  str : ∀ k < 45, PySem.W.findIn K (.ref (D k)) "__str__" = some (some (.builtin "BaseException.__str__"))
  kit : ∀ k < 45, ∀ j < 45, PySem.W.kitOne K (.ref (D k)) (.ref (D j)) = some (decide (k = j))
  kb : ∀ k < 45, ∀ j < 3, PySem.W.kitOne K (.ref (D k)) (.ref (S j)) = some (decide (bs k = j))
  kt : ∀ k < 45, ∀ j < 3, PySem.W.kitOne K (.ref (D k)) (.type (tn j)) = some (decide (bs k = j))
  s0 : mg "SlotsumsError" = some (.ref (S 0))
  s1 : mg "MissingError" = some (.ref (S 1))
  s2 : mg "StateError" = some (.ref (S 2))
  ve : mg "ValueError" = none
  le : mg "LookupError" = none
  re : mg "RuntimeError" = none
/-- isinstance(e, C) -/
def tIsE (D : Nat → Addr) (b : Nat → Bool) : TE := fun σ H Q => ∃ (a : Addr) (k : Nat) (fs : List (Str × V)), σ[0]? = some (some (.ref a)) ∧ k < 45 ∧ ErrAt H a (D k) fs ∧ Q (.bl (b k)) H
section
variable {X : Cx} {D S : Nat → Addr} {p pos p1 p2 : Pos}
theorem pe_isC {x nm : Str} {b : Nat → Bool} {c : V} {cv : Value} (T : Bn X.mg) (ec : ∀ k < 45, ExcC X.K (D k)) (gi : Gl X "isinstance") (hx : PE X (.Name x p1) (tVar 0)) (hc : PE X (.Name nm p2) (tC c)) (rel : ∀ u, RelV c u → u = cv) (kit : ∀ k < 45, PySem.W.kitOne X.K (.ref (D k)) cv = some (b k))
    (st : starEach [.Name x p1, .Name nm p2] X.env = (false, eval (.Name x p1) X.env) :: starEach [.Name nm p2] X.env := by rfl) (pl : (backTo pos (starEach [.Name nm p2] X.env)).any (·.1) = false := by rfl) :
    PE X (.Call (.Name "isinstance" p) [.Name x p1, .Name nm p2] [] pos) (tIsE D b) := by
  refine PE.imp (pe_callB call_isQ gi T.isi (by decide +kernel) (pa_cons hx (pa_cons hc pa_nil)) (he := st) (hpl := pl)) fun σ H Q h => ?_
  obtain ⟨a, k, fs, hσ, hk, ⟨t, m, _, e⟩, q⟩ := h
  refine ⟨_, hσ, ?_⟩
  rcases e with ⟨_, ea⟩ | ⟨dx, ea, ed⟩
  · exact ⟨a, D k, t, none, c, cv, b k, rfl, ec k hk, ea, .inl rfl, rel, kit k hk, q⟩
  · exact ⟨a, D k, t, some dx, c, cv, b k, rfl, ec k hk, ea, .inr ⟨dx, fs, rfl, ed⟩, rel, kit k hk, q⟩
end
section
variable {P : Program} {w : World} {K : PySem.W.Frag} {mg : Str → Option Value} {base : Heap} {D S : Nat → Addr}
/-- a list of answers -/
def spBits (D : Nat → Addr) (bits : Nat → List Bool) : Sp := fun vs H Q _ => ∃ (a : Addr) (k : Nat) (fs : List (Str × V)), vs = [.ref a] ∧ k < 45 ∧ ErrAt H a (D k) fs ∧ ∀ H' r, Same H H' → H r = none → H' r = some (.lst ((bits k).map V.bl)) → Q (.ref r) H'
abbrev nFirst : List Str := ["_law_e", "_law_found"]
theorem scFirst : FnScope nFirst ["_law_e"] (defScope sFirst) := ⟨rfl, rfl, rfl, by decide +kernel, rfl, by decide +kernel, by decide +kernel⟩
theorem ok_first {f : Addr} {fd : FuncData} (F : Fun K "_law_first_half" "_law_first_half" sFirst f fd) (T : Bn mg) (Z : Errs P w K mg base D S) : FnOk P w K mg base CX0 1 f fd ["_law_e"] (spBits D fun k => [(decide (k = 0)), (decide (k = 1)), (decide (k = 2)), (decide (k = 3)), (decide (k = 4)), (decide (k = 5)), (decide (k = 6)), (decide (k = 7)), (decide (k = 8)), (decide (k = 9)), (decide (k = 10)), (decide (k = 11)), (decide (k = 12)), (decide (k = 13)), (decide (k = 14)), (decide (k = 15)), (decide (k = 16)), (decide (k = 17)), (decide (k = 18)), (decide (k = 19)), (decide (k = 20)), (decide (k = 21)), (decide (k = 22)), (decide (k = 23))]) := by
  refine F.ok scFirst (fun vs H Q E h => ?_) (fun cdv A outer s H vs Q E hr h => ?_)
  · obtain ⟨a, k, fs, rfl, _⟩ := h
    rfl
  · obtain ⟨a, k, fs, rfl, hk, ea, q⟩ := h
    refine ⟨_, (pss_cons (ps_set (i := 1) scFirst.nd rfl (Or.inl rfl) (pe_lst (pa_cons (pe_isC (nm := "InvalidNumber") (b := fun k => decide (k = 0)) (c := .ref (D 0)) (cv := .ref (D 0)) T Z.ec (by rfl) (pv 0) (pe_glob (by rfl) Z.e0.mgD rfl) (fun _ z => z) (fun k hk => Z.kit k hk 0 (by decide))) (pa_cons (pe_isC (nm := "InvalidName") (b := fun k => decide (k = 1)) (c := .ref (D 1)) (cv := .ref (D 1)) T Z.ec (by rfl) (pv 0) (pe_glob (by rfl) Z.e1.mgD rfl) (fun _ z => z) (fun k hk => Z.kit k hk 1 (by decide))) (pa_cons (pe_isC (nm := "InvalidCount") (b := fun k => decide (k = 2)) (c := .ref (D 2)) (cv := .ref (D 2)) T Z.ec (by rfl) (pv 0) (pe_glob (by rfl) Z.e2.mgD rfl) (fun _ z => z) (fun k hk => Z.kit k hk 2 (by decide))) pa_nil)))))
      (pss_cons (ps_set (i := 1) scFirst.nd rfl (Or.inl rfl) (pe_op op_cat (pv 1) (pe_lst (pa_cons (pe_isC (nm := "InvalidSlots") (b := fun k => decide (k = 3)) (c := .ref (D 3)) (cv := .ref (D 3)) T Z.ec (by rfl) (pv 0) (pe_glob (by rfl) Z.e3.mgD rfl) (fun _ z => z) (fun k hk => Z.kit k hk 3 (by decide))) (pa_cons (pe_isC (nm := "InvalidTurn") (b := fun k => decide (k = 4)) (c := .ref (D 4)) (cv := .ref (D 4)) T Z.ec (by rfl) (pv 0) (pe_glob (by rfl) Z.e4.mgD rfl) (fun _ z => z) (fun k hk => Z.kit k hk 4 (by decide))) (pa_cons (pe_isC (nm := "InvalidPlaces") (b := fun k => decide (k = 5)) (c := .ref (D 5)) (cv := .ref (D 5)) T Z.ec (by rfl) (pv 0) (pe_glob (by rfl) Z.e5.mgD rfl) (fun _ z => z) (fun k hk => Z.kit k hk 5 (by decide))) pa_nil))))))
      (pss_cons (ps_set (i := 1) scFirst.nd rfl (Or.inl rfl) (pe_op op_cat (pv 1) (pe_lst (pa_cons (pe_isC (nm := "InvalidSizes") (b := fun k => decide (k = 6)) (c := .ref (D 6)) (cv := .ref (D 6)) T Z.ec (by rfl) (pv 0) (pe_glob (by rfl) Z.e6.mgD rfl) (fun _ z => z) (fun k hk => Z.kit k hk 6 (by decide))) (pa_cons (pe_isC (nm := "InvalidContents") (b := fun k => decide (k = 7)) (c := .ref (D 7)) (cv := .ref (D 7)) T Z.ec (by rfl) (pv 0) (pe_glob (by rfl) Z.e7.mgD rfl) (fun _ z => z) (fun k hk => Z.kit k hk 7 (by decide))) (pa_cons (pe_isC (nm := "InvalidEntry") (b := fun k => decide (k = 8)) (c := .ref (D 8)) (cv := .ref (D 8)) T Z.ec (by rfl) (pv 0) (pe_glob (by rfl) Z.e8.mgD rfl) (fun _ z => z) (fun k hk => Z.kit k hk 8 (by decide))) pa_nil))))))
      (pss_cons (ps_set (i := 1) scFirst.nd rfl (Or.inl rfl) (pe_op op_cat (pv 1) (pe_lst (pa_cons (pe_isC (nm := "InvalidTold") (b := fun k => decide (k = 9)) (c := .ref (D 9)) (cv := .ref (D 9)) T Z.ec (by rfl) (pv 0) (pe_glob (by rfl) Z.e9.mgD rfl) (fun _ z => z) (fun k hk => Z.kit k hk 9 (by decide))) (pa_cons (pe_isC (nm := "InvalidFactors") (b := fun k => decide (k = 10)) (c := .ref (D 10)) (cv := .ref (D 10)) T Z.ec (by rfl) (pv 0) (pe_glob (by rfl) Z.e10.mgD rfl) (fun _ z => z) (fun k hk => Z.kit k hk 10 (by decide))) (pa_cons (pe_isC (nm := "InvalidSorts") (b := fun k => decide (k = 11)) (c := .ref (D 11)) (cv := .ref (D 11)) T Z.ec (by rfl) (pv 0) (pe_glob (by rfl) Z.e11.mgD rfl) (fun _ z => z) (fun k hk => Z.kit k hk 11 (by decide))) pa_nil))))))
      (pss_cons (ps_set (i := 1) scFirst.nd rfl (Or.inl rfl) (pe_op op_cat (pv 1) (pe_lst (pa_cons (pe_isC (nm := "InvalidTerms") (b := fun k => decide (k = 12)) (c := .ref (D 12)) (cv := .ref (D 12)) T Z.ec (by rfl) (pv 0) (pe_glob (by rfl) Z.e12.mgD rfl) (fun _ z => z) (fun k hk => Z.kit k hk 12 (by decide))) (pa_cons (pe_isC (nm := "InvalidExpression") (b := fun k => decide (k = 13)) (c := .ref (D 13)) (cv := .ref (D 13)) T Z.ec (by rfl) (pv 0) (pe_glob (by rfl) Z.e13.mgD rfl) (fun _ z => z) (fun k hk => Z.kit k hk 13 (by decide))) (pa_cons (pe_isC (nm := "InvalidHeld") (b := fun k => decide (k = 14)) (c := .ref (D 14)) (cv := .ref (D 14)) T Z.ec (by rfl) (pv 0) (pe_glob (by rfl) Z.e14.mgD rfl) (fun _ z => z) (fun k hk => Z.kit k hk 14 (by decide))) pa_nil))))))
      (pss_cons (ps_set (i := 1) scFirst.nd rfl (Or.inl rfl) (pe_op op_cat (pv 1) (pe_lst (pa_cons (pe_isC (nm := "InvalidPosition") (b := fun k => decide (k = 15)) (c := .ref (D 15)) (cv := .ref (D 15)) T Z.ec (by rfl) (pv 0) (pe_glob (by rfl) Z.e15.mgD rfl) (fun _ z => z) (fun k hk => Z.kit k hk 15 (by decide))) (pa_cons (pe_isC (nm := "InvalidSum") (b := fun k => decide (k = 16)) (c := .ref (D 16)) (cv := .ref (D 16)) T Z.ec (by rfl) (pv 0) (pe_glob (by rfl) Z.e16.mgD rfl) (fun _ z => z) (fun k hk => Z.kit k hk 16 (by decide))) (pa_cons (pe_isC (nm := "InvalidOrder") (b := fun k => decide (k = 17)) (c := .ref (D 17)) (cv := .ref (D 17)) T Z.ec (by rfl) (pv 0) (pe_glob (by rfl) Z.e17.mgD rfl) (fun _ z => z) (fun k hk => Z.kit k hk 17 (by decide))) pa_nil))))))
      (pss_cons (ps_set (i := 1) scFirst.nd rfl (Or.inl rfl) (pe_op op_cat (pv 1) (pe_lst (pa_cons (pe_isC (nm := "InvalidPartition") (b := fun k => decide (k = 18)) (c := .ref (D 18)) (cv := .ref (D 18)) T Z.ec (by rfl) (pv 0) (pe_glob (by rfl) Z.e18.mgD rfl) (fun _ z => z) (fun k hk => Z.kit k hk 18 (by decide))) (pa_cons (pe_isC (nm := "InvalidExpressions") (b := fun k => decide (k = 19)) (c := .ref (D 19)) (cv := .ref (D 19)) T Z.ec (by rfl) (pv 0) (pe_glob (by rfl) Z.e19.mgD rfl) (fun _ z => z) (fun k hk => Z.kit k hk 19 (by decide))) (pa_cons (pe_isC (nm := "InvalidPlan") (b := fun k => decide (k = 20)) (c := .ref (D 20)) (cv := .ref (D 20)) T Z.ec (by rfl) (pv 0) (pe_glob (by rfl) Z.e20.mgD rfl) (fun _ z => z) (fun k hk => Z.kit k hk 20 (by decide))) pa_nil))))))
      (pss_one (ps_ret (pe_op op_cat (pv 1) (pe_lst (pa_cons (pe_isC (nm := "InvalidNames") (b := fun k => decide (k = 21)) (c := .ref (D 21)) (cv := .ref (D 21)) T Z.ec (by rfl) (pv 0) (pe_glob (by rfl) Z.e21.mgD rfl) (fun _ z => z) (fun k hk => Z.kit k hk 21 (by decide))) (pa_cons (pe_isC (nm := "InvalidPolynomial") (b := fun k => decide (k = 22)) (c := .ref (D 22)) (cv := .ref (D 22)) T Z.ec (by rfl) (pv 0) (pe_glob (by rfl) Z.e22.mgD rfl) (fun _ z => z) (fun k hk => Z.kit k hk 22 (by decide))) (pa_cons (pe_isC (nm := "InvalidGrowth") (b := fun k => decide (k = 23)) (c := .ref (D 23)) (cv := .ref (D 23)) T Z.ec (by rfl) (pv 0) (pe_glob (by rfl) Z.e23.mgD rfl) (fun _ z => z) (fun k hk => Z.kit k hk 23 (by decide))) pa_nil)))))))))))))), ?_⟩
    have s0 := Same.refl H
    have e0 := ea
    refine ⟨a, k, fs, rfl, hk, e0, a, k, fs, rfl, hk, e0, a, k, fs, rfl, hk, e0, (by show 3 ≤ sizeLine; decide), fun l0 hl0 => ?_⟩
    have s1 := sNew (o := .lst [.bl (decide (k = 0)), .bl (decide (k = 1)), .bl (decide (k = 2))]) s0 hl0
    have a0 := upd_same (H := H) (a := l0) (o := .lst [.bl (decide (k = 0)), .bl (decide (k = 1)), .bl (decide (k = 2))])
    generalize hG0 : upd H l0 (.lst [.bl (decide (k = 0)), .bl (decide (k = 1)), .bl (decide (k = 2))]) = H1 at s1 a0 ⊢
    have e1 := ea.same s1
    have r0_at := a0
    have new0 := hl0
    clear hG0
    skip
    obtain ⟨r0, hr0⟩ : ∃ r, r = l0 := ⟨_, rfl⟩
    rw [← hr0] at r0_at ⊢ hl0
    refine ⟨_, rfl, a, k, fs, rfl, hk, e1, a, k, fs, rfl, hk, e1, a, k, fs, rfl, hk, e1, (by show 3 ≤ sizeLine; decide), fun l1 hl1 => ?_⟩
    have s2 := sNew (o := .lst [.bl (decide (k = 3)), .bl (decide (k = 4)), .bl (decide (k = 5))]) s1 hl1
    have a1 := upd_same (H := H1) (a := l1) (o := .lst [.bl (decide (k = 3)), .bl (decide (k = 4)), .bl (decide (k = 5))])
    generalize hG1 : upd H1 l1 (.lst [.bl (decide (k = 3)), .bl (decide (k = 4)), .bl (decide (k = 5))]) = H2 at s2 a1 ⊢
    have r0' : H2 r0 = some (.lst [.bl (decide (k = 0)), .bl (decide (k = 1)), .bl (decide (k = 2))]) := by rw [← hG1]; exact old r0_at hl1
    have e2 := ea.same s2
    refine ⟨r0, l1, _, _, rfl, rfl, r0', a1, (by show 6 ≤ sizeLine; decide), fun r1 hr1 => ?_⟩
    have s3 := sNew (o := .lst ([.bl (decide (k = 0)), .bl (decide (k = 1)), .bl (decide (k = 2))] ++ [.bl (decide (k = 3)), .bl (decide (k = 4)), .bl (decide (k = 5))])) s2 hr1
    have r1_at := upd_same (H := H2) (a := r1) (o := .lst ([.bl (decide (k = 0)), .bl (decide (k = 1)), .bl (decide (k = 2))] ++ [.bl (decide (k = 3)), .bl (decide (k = 4)), .bl (decide (k = 5))]))
    skip
    generalize hG2 : upd H2 r1 (.lst ([.bl (decide (k = 0)), .bl (decide (k = 1)), .bl (decide (k = 2))] ++ [.bl (decide (k = 3)), .bl (decide (k = 4)), .bl (decide (k = 5))])) = H3 at s3 r1_at ⊢
    clear hG2
    have r1_at : H3 r1 = some (.lst [.bl (decide (k = 0)), .bl (decide (k = 1)), .bl (decide (k = 2)), .bl (decide (k = 3)), .bl (decide (k = 4)), .bl (decide (k = 5))]) := r1_at
    have e3 := ea.same s3
    refine ⟨_, rfl, a, k, fs, rfl, hk, e3, a, k, fs, rfl, hk, e3, a, k, fs, rfl, hk, e3, (by show 3 ≤ sizeLine; decide), fun l2 hl2 => ?_⟩
    have s4 := sNew (o := .lst [.bl (decide (k = 6)), .bl (decide (k = 7)), .bl (decide (k = 8))]) s3 hl2
    have a2 := upd_same (H := H3) (a := l2) (o := .lst [.bl (decide (k = 6)), .bl (decide (k = 7)), .bl (decide (k = 8))])
    generalize hG3 : upd H3 l2 (.lst [.bl (decide (k = 6)), .bl (decide (k = 7)), .bl (decide (k = 8))]) = H4 at s4 a2 ⊢
    have r1' : H4 r1 = some (.lst [.bl (decide (k = 0)), .bl (decide (k = 1)), .bl (decide (k = 2)), .bl (decide (k = 3)), .bl (decide (k = 4)), .bl (decide (k = 5))]) := by rw [← hG3]; exact old r1_at hl2
    have e4 := ea.same s4
    refine ⟨r1, l2, _, _, rfl, rfl, r1', a2, (by show 9 ≤ sizeLine; decide), fun r2 hr2 => ?_⟩
    have s5 := sNew (o := .lst ([.bl (decide (k = 0)), .bl (decide (k = 1)), .bl (decide (k = 2)), .bl (decide (k = 3)), .bl (decide (k = 4)), .bl (decide (k = 5))] ++ [.bl (decide (k = 6)), .bl (decide (k = 7)), .bl (decide (k = 8))])) s4 hr2
    have r2_at := upd_same (H := H4) (a := r2) (o := .lst ([.bl (decide (k = 0)), .bl (decide (k = 1)), .bl (decide (k = 2)), .bl (decide (k = 3)), .bl (decide (k = 4)), .bl (decide (k = 5))] ++ [.bl (decide (k = 6)), .bl (decide (k = 7)), .bl (decide (k = 8))]))
    skip
    generalize hG4 : upd H4 r2 (.lst ([.bl (decide (k = 0)), .bl (decide (k = 1)), .bl (decide (k = 2)), .bl (decide (k = 3)), .bl (decide (k = 4)), .bl (decide (k = 5))] ++ [.bl (decide (k = 6)), .bl (decide (k = 7)), .bl (decide (k = 8))])) = H5 at s5 r2_at ⊢
    clear hG4
    have r2_at : H5 r2 = some (.lst [.bl (decide (k = 0)), .bl (decide (k = 1)), .bl (decide (k = 2)), .bl (decide (k = 3)), .bl (decide (k = 4)), .bl (decide (k = 5)), .bl (decide (k = 6)), .bl (decide (k = 7)), .bl (decide (k = 8))]) := r2_at
    have e5 := ea.same s5
    refine ⟨_, rfl, a, k, fs, rfl, hk, e5, a, k, fs, rfl, hk, e5, a, k, fs, rfl, hk, e5, (by show 3 ≤ sizeLine; decide), fun l3 hl3 => ?_⟩
    have s6 := sNew (o := .lst [.bl (decide (k = 9)), .bl (decide (k = 10)), .bl (decide (k = 11))]) s5 hl3
    have a3 := upd_same (H := H5) (a := l3) (o := .lst [.bl (decide (k = 9)), .bl (decide (k = 10)), .bl (decide (k = 11))])
    generalize hG5 : upd H5 l3 (.lst [.bl (decide (k = 9)), .bl (decide (k = 10)), .bl (decide (k = 11))]) = H6 at s6 a3 ⊢
    have r2' : H6 r2 = some (.lst [.bl (decide (k = 0)), .bl (decide (k = 1)), .bl (decide (k = 2)), .bl (decide (k = 3)), .bl (decide (k = 4)), .bl (decide (k = 5)), .bl (decide (k = 6)), .bl (decide (k = 7)), .bl (decide (k = 8))]) := by rw [← hG5]; exact old r2_at hl3
    have e6 := ea.same s6
    refine ⟨r2, l3, _, _, rfl, rfl, r2', a3, (by show 12 ≤ sizeLine; decide), fun r3 hr3 => ?_⟩
    have s7 := sNew (o := .lst ([.bl (decide (k = 0)), .bl (decide (k = 1)), .bl (decide (k = 2)), .bl (decide (k = 3)), .bl (decide (k = 4)), .bl (decide (k = 5)), .bl (decide (k = 6)), .bl (decide (k = 7)), .bl (decide (k = 8))] ++ [.bl (decide (k = 9)), .bl (decide (k = 10)), .bl (decide (k = 11))])) s6 hr3
    have r3_at := upd_same (H := H6) (a := r3) (o := .lst ([.bl (decide (k = 0)), .bl (decide (k = 1)), .bl (decide (k = 2)), .bl (decide (k = 3)), .bl (decide (k = 4)), .bl (decide (k = 5)), .bl (decide (k = 6)), .bl (decide (k = 7)), .bl (decide (k = 8))] ++ [.bl (decide (k = 9)), .bl (decide (k = 10)), .bl (decide (k = 11))]))
    skip
    generalize hG6 : upd H6 r3 (.lst ([.bl (decide (k = 0)), .bl (decide (k = 1)), .bl (decide (k = 2)), .bl (decide (k = 3)), .bl (decide (k = 4)), .bl (decide (k = 5)), .bl (decide (k = 6)), .bl (decide (k = 7)), .bl (decide (k = 8))] ++ [.bl (decide (k = 9)), .bl (decide (k = 10)), .bl (decide (k = 11))])) = H7 at s7 r3_at ⊢
    clear hG6
    have r3_at : H7 r3 = some (.lst [.bl (decide (k = 0)), .bl (decide (k = 1)), .bl (decide (k = 2)), .bl (decide (k = 3)), .bl (decide (k = 4)), .bl (decide (k = 5)), .bl (decide (k = 6)), .bl (decide (k = 7)), .bl (decide (k = 8)), .bl (decide (k = 9)), .bl (decide (k = 10)), .bl (decide (k = 11))]) := r3_at
    have e7 := ea.same s7
    refine ⟨_, rfl, a, k, fs, rfl, hk, e7, a, k, fs, rfl, hk, e7, a, k, fs, rfl, hk, e7, (by show 3 ≤ sizeLine; decide), fun l4 hl4 => ?_⟩
    have s8 := sNew (o := .lst [.bl (decide (k = 12)), .bl (decide (k = 13)), .bl (decide (k = 14))]) s7 hl4
    have a4 := upd_same (H := H7) (a := l4) (o := .lst [.bl (decide (k = 12)), .bl (decide (k = 13)), .bl (decide (k = 14))])
    generalize hG7 : upd H7 l4 (.lst [.bl (decide (k = 12)), .bl (decide (k = 13)), .bl (decide (k = 14))]) = H8 at s8 a4 ⊢
    have r3' : H8 r3 = some (.lst [.bl (decide (k = 0)), .bl (decide (k = 1)), .bl (decide (k = 2)), .bl (decide (k = 3)), .bl (decide (k = 4)), .bl (decide (k = 5)), .bl (decide (k = 6)), .bl (decide (k = 7)), .bl (decide (k = 8)), .bl (decide (k = 9)), .bl (decide (k = 10)), .bl (decide (k = 11))]) := by rw [← hG7]; exact old r3_at hl4
    have e8 := ea.same s8
    refine ⟨r3, l4, _, _, rfl, rfl, r3', a4, (by show 15 ≤ sizeLine; decide), fun r4 hr4 => ?_⟩
    have s9 := sNew (o := .lst ([.bl (decide (k = 0)), .bl (decide (k = 1)), .bl (decide (k = 2)), .bl (decide (k = 3)), .bl (decide (k = 4)), .bl (decide (k = 5)), .bl (decide (k = 6)), .bl (decide (k = 7)), .bl (decide (k = 8)), .bl (decide (k = 9)), .bl (decide (k = 10)), .bl (decide (k = 11))] ++ [.bl (decide (k = 12)), .bl (decide (k = 13)), .bl (decide (k = 14))])) s8 hr4
    have r4_at := upd_same (H := H8) (a := r4) (o := .lst ([.bl (decide (k = 0)), .bl (decide (k = 1)), .bl (decide (k = 2)), .bl (decide (k = 3)), .bl (decide (k = 4)), .bl (decide (k = 5)), .bl (decide (k = 6)), .bl (decide (k = 7)), .bl (decide (k = 8)), .bl (decide (k = 9)), .bl (decide (k = 10)), .bl (decide (k = 11))] ++ [.bl (decide (k = 12)), .bl (decide (k = 13)), .bl (decide (k = 14))]))
    skip
    generalize hG8 : upd H8 r4 (.lst ([.bl (decide (k = 0)), .bl (decide (k = 1)), .bl (decide (k = 2)), .bl (decide (k = 3)), .bl (decide (k = 4)), .bl (decide (k = 5)), .bl (decide (k = 6)), .bl (decide (k = 7)), .bl (decide (k = 8)), .bl (decide (k = 9)), .bl (decide (k = 10)), .bl (decide (k = 11))] ++ [.bl (decide (k = 12)), .bl (decide (k = 13)), .bl (decide (k = 14))])) = H9 at s9 r4_at ⊢
    clear hG8
    have r4_at : H9 r4 = some (.lst [.bl (decide (k = 0)), .bl (decide (k = 1)), .bl (decide (k = 2)), .bl (decide (k = 3)), .bl (decide (k = 4)), .bl (decide (k = 5)), .bl (decide (k = 6)), .bl (decide (k = 7)), .bl (decide (k = 8)), .bl (decide (k = 9)), .bl (decide (k = 10)), .bl (decide (k = 11)), .bl (decide (k = 12)), .bl (decide (k = 13)), .bl (decide (k = 14))]) := r4_at
    have e9 := ea.same s9
    refine ⟨_, rfl, a, k, fs, rfl, hk, e9, a, k, fs, rfl, hk, e9, a, k, fs, rfl, hk, e9, (by show 3 ≤ sizeLine; decide), fun l5 hl5 => ?_⟩
    have s10 := sNew (o := .lst [.bl (decide (k = 15)), .bl (decide (k = 16)), .bl (decide (k = 17))]) s9 hl5
    have a5 := upd_same (H := H9) (a := l5) (o := .lst [.bl (decide (k = 15)), .bl (decide (k = 16)), .bl (decide (k = 17))])
    generalize hG9 : upd H9 l5 (.lst [.bl (decide (k = 15)), .bl (decide (k = 16)), .bl (decide (k = 17))]) = H10 at s10 a5 ⊢
    have r4' : H10 r4 = some (.lst [.bl (decide (k = 0)), .bl (decide (k = 1)), .bl (decide (k = 2)), .bl (decide (k = 3)), .bl (decide (k = 4)), .bl (decide (k = 5)), .bl (decide (k = 6)), .bl (decide (k = 7)), .bl (decide (k = 8)), .bl (decide (k = 9)), .bl (decide (k = 10)), .bl (decide (k = 11)), .bl (decide (k = 12)), .bl (decide (k = 13)), .bl (decide (k = 14))]) := by rw [← hG9]; exact old r4_at hl5
    have e10 := ea.same s10
    refine ⟨r4, l5, _, _, rfl, rfl, r4', a5, (by show 18 ≤ sizeLine; decide), fun r5 hr5 => ?_⟩
    have s11 := sNew (o := .lst ([.bl (decide (k = 0)), .bl (decide (k = 1)), .bl (decide (k = 2)), .bl (decide (k = 3)), .bl (decide (k = 4)), .bl (decide (k = 5)), .bl (decide (k = 6)), .bl (decide (k = 7)), .bl (decide (k = 8)), .bl (decide (k = 9)), .bl (decide (k = 10)), .bl (decide (k = 11)), .bl (decide (k = 12)), .bl (decide (k = 13)), .bl (decide (k = 14))] ++ [.bl (decide (k = 15)), .bl (decide (k = 16)), .bl (decide (k = 17))])) s10 hr5
    have r5_at := upd_same (H := H10) (a := r5) (o := .lst ([.bl (decide (k = 0)), .bl (decide (k = 1)), .bl (decide (k = 2)), .bl (decide (k = 3)), .bl (decide (k = 4)), .bl (decide (k = 5)), .bl (decide (k = 6)), .bl (decide (k = 7)), .bl (decide (k = 8)), .bl (decide (k = 9)), .bl (decide (k = 10)), .bl (decide (k = 11)), .bl (decide (k = 12)), .bl (decide (k = 13)), .bl (decide (k = 14))] ++ [.bl (decide (k = 15)), .bl (decide (k = 16)), .bl (decide (k = 17))]))
    skip
    generalize hG10 : upd H10 r5 (.lst ([.bl (decide (k = 0)), .bl (decide (k = 1)), .bl (decide (k = 2)), .bl (decide (k = 3)), .bl (decide (k = 4)), .bl (decide (k = 5)), .bl (decide (k = 6)), .bl (decide (k = 7)), .bl (decide (k = 8)), .bl (decide (k = 9)), .bl (decide (k = 10)), .bl (decide (k = 11)), .bl (decide (k = 12)), .bl (decide (k = 13)), .bl (decide (k = 14))] ++ [.bl (decide (k = 15)), .bl (decide (k = 16)), .bl (decide (k = 17))])) = H11 at s11 r5_at ⊢
    clear hG10
    have r5_at : H11 r5 = some (.lst [.bl (decide (k = 0)), .bl (decide (k = 1)), .bl (decide (k = 2)), .bl (decide (k = 3)), .bl (decide (k = 4)), .bl (decide (k = 5)), .bl (decide (k = 6)), .bl (decide (k = 7)), .bl (decide (k = 8)), .bl (decide (k = 9)), .bl (decide (k = 10)), .bl (decide (k = 11)), .bl (decide (k = 12)), .bl (decide (k = 13)), .bl (decide (k = 14)), .bl (decide (k = 15)), .bl (decide (k = 16)), .bl (decide (k = 17))]) := r5_at
    have e11 := ea.same s11
    refine ⟨_, rfl, a, k, fs, rfl, hk, e11, a, k, fs, rfl, hk, e11, a, k, fs, rfl, hk, e11, (by show 3 ≤ sizeLine; decide), fun l6 hl6 => ?_⟩
    have s12 := sNew (o := .lst [.bl (decide (k = 18)), .bl (decide (k = 19)), .bl (decide (k = 20))]) s11 hl6
    have a6 := upd_same (H := H11) (a := l6) (o := .lst [.bl (decide (k = 18)), .bl (decide (k = 19)), .bl (decide (k = 20))])
    generalize hG11 : upd H11 l6 (.lst [.bl (decide (k = 18)), .bl (decide (k = 19)), .bl (decide (k = 20))]) = H12 at s12 a6 ⊢
    have r5' : H12 r5 = some (.lst [.bl (decide (k = 0)), .bl (decide (k = 1)), .bl (decide (k = 2)), .bl (decide (k = 3)), .bl (decide (k = 4)), .bl (decide (k = 5)), .bl (decide (k = 6)), .bl (decide (k = 7)), .bl (decide (k = 8)), .bl (decide (k = 9)), .bl (decide (k = 10)), .bl (decide (k = 11)), .bl (decide (k = 12)), .bl (decide (k = 13)), .bl (decide (k = 14)), .bl (decide (k = 15)), .bl (decide (k = 16)), .bl (decide (k = 17))]) := by rw [← hG11]; exact old r5_at hl6
    have e12 := ea.same s12
    refine ⟨r5, l6, _, _, rfl, rfl, r5', a6, (by show 21 ≤ sizeLine; decide), fun r6 hr6 => ?_⟩
    have s13 := sNew (o := .lst ([.bl (decide (k = 0)), .bl (decide (k = 1)), .bl (decide (k = 2)), .bl (decide (k = 3)), .bl (decide (k = 4)), .bl (decide (k = 5)), .bl (decide (k = 6)), .bl (decide (k = 7)), .bl (decide (k = 8)), .bl (decide (k = 9)), .bl (decide (k = 10)), .bl (decide (k = 11)), .bl (decide (k = 12)), .bl (decide (k = 13)), .bl (decide (k = 14)), .bl (decide (k = 15)), .bl (decide (k = 16)), .bl (decide (k = 17))] ++ [.bl (decide (k = 18)), .bl (decide (k = 19)), .bl (decide (k = 20))])) s12 hr6
    have r6_at := upd_same (H := H12) (a := r6) (o := .lst ([.bl (decide (k = 0)), .bl (decide (k = 1)), .bl (decide (k = 2)), .bl (decide (k = 3)), .bl (decide (k = 4)), .bl (decide (k = 5)), .bl (decide (k = 6)), .bl (decide (k = 7)), .bl (decide (k = 8)), .bl (decide (k = 9)), .bl (decide (k = 10)), .bl (decide (k = 11)), .bl (decide (k = 12)), .bl (decide (k = 13)), .bl (decide (k = 14)), .bl (decide (k = 15)), .bl (decide (k = 16)), .bl (decide (k = 17))] ++ [.bl (decide (k = 18)), .bl (decide (k = 19)), .bl (decide (k = 20))]))
    skip
    generalize hG12 : upd H12 r6 (.lst ([.bl (decide (k = 0)), .bl (decide (k = 1)), .bl (decide (k = 2)), .bl (decide (k = 3)), .bl (decide (k = 4)), .bl (decide (k = 5)), .bl (decide (k = 6)), .bl (decide (k = 7)), .bl (decide (k = 8)), .bl (decide (k = 9)), .bl (decide (k = 10)), .bl (decide (k = 11)), .bl (decide (k = 12)), .bl (decide (k = 13)), .bl (decide (k = 14)), .bl (decide (k = 15)), .bl (decide (k = 16)), .bl (decide (k = 17))] ++ [.bl (decide (k = 18)), .bl (decide (k = 19)), .bl (decide (k = 20))])) = H13 at s13 r6_at ⊢
    clear hG12
    have r6_at : H13 r6 = some (.lst [.bl (decide (k = 0)), .bl (decide (k = 1)), .bl (decide (k = 2)), .bl (decide (k = 3)), .bl (decide (k = 4)), .bl (decide (k = 5)), .bl (decide (k = 6)), .bl (decide (k = 7)), .bl (decide (k = 8)), .bl (decide (k = 9)), .bl (decide (k = 10)), .bl (decide (k = 11)), .bl (decide (k = 12)), .bl (decide (k = 13)), .bl (decide (k = 14)), .bl (decide (k = 15)), .bl (decide (k = 16)), .bl (decide (k = 17)), .bl (decide (k = 18)), .bl (decide (k = 19)), .bl (decide (k = 20))]) := r6_at
    have e13 := ea.same s13
    refine ⟨_, rfl, a, k, fs, rfl, hk, e13, a, k, fs, rfl, hk, e13, a, k, fs, rfl, hk, e13, (by show 3 ≤ sizeLine; decide), fun l7 hl7 => ?_⟩
    have s14 := sNew (o := .lst [.bl (decide (k = 21)), .bl (decide (k = 22)), .bl (decide (k = 23))]) s13 hl7
    have a7 := upd_same (H := H13) (a := l7) (o := .lst [.bl (decide (k = 21)), .bl (decide (k = 22)), .bl (decide (k = 23))])
    generalize hG13 : upd H13 l7 (.lst [.bl (decide (k = 21)), .bl (decide (k = 22)), .bl (decide (k = 23))]) = H14 at s14 a7 ⊢
    have r6' : H14 r6 = some (.lst [.bl (decide (k = 0)), .bl (decide (k = 1)), .bl (decide (k = 2)), .bl (decide (k = 3)), .bl (decide (k = 4)), .bl (decide (k = 5)), .bl (decide (k = 6)), .bl (decide (k = 7)), .bl (decide (k = 8)), .bl (decide (k = 9)), .bl (decide (k = 10)), .bl (decide (k = 11)), .bl (decide (k = 12)), .bl (decide (k = 13)), .bl (decide (k = 14)), .bl (decide (k = 15)), .bl (decide (k = 16)), .bl (decide (k = 17)), .bl (decide (k = 18)), .bl (decide (k = 19)), .bl (decide (k = 20))]) := by rw [← hG13]; exact old r6_at hl7
    have e14 := ea.same s14
    refine ⟨r6, l7, _, _, rfl, rfl, r6', a7, (by show 24 ≤ sizeLine; decide), fun r7 hr7 => ?_⟩
    have s15 := sNew (o := .lst ([.bl (decide (k = 0)), .bl (decide (k = 1)), .bl (decide (k = 2)), .bl (decide (k = 3)), .bl (decide (k = 4)), .bl (decide (k = 5)), .bl (decide (k = 6)), .bl (decide (k = 7)), .bl (decide (k = 8)), .bl (decide (k = 9)), .bl (decide (k = 10)), .bl (decide (k = 11)), .bl (decide (k = 12)), .bl (decide (k = 13)), .bl (decide (k = 14)), .bl (decide (k = 15)), .bl (decide (k = 16)), .bl (decide (k = 17)), .bl (decide (k = 18)), .bl (decide (k = 19)), .bl (decide (k = 20))] ++ [.bl (decide (k = 21)), .bl (decide (k = 22)), .bl (decide (k = 23))])) s14 hr7
    have r7_at := upd_same (H := H14) (a := r7) (o := .lst ([.bl (decide (k = 0)), .bl (decide (k = 1)), .bl (decide (k = 2)), .bl (decide (k = 3)), .bl (decide (k = 4)), .bl (decide (k = 5)), .bl (decide (k = 6)), .bl (decide (k = 7)), .bl (decide (k = 8)), .bl (decide (k = 9)), .bl (decide (k = 10)), .bl (decide (k = 11)), .bl (decide (k = 12)), .bl (decide (k = 13)), .bl (decide (k = 14)), .bl (decide (k = 15)), .bl (decide (k = 16)), .bl (decide (k = 17)), .bl (decide (k = 18)), .bl (decide (k = 19)), .bl (decide (k = 20))] ++ [.bl (decide (k = 21)), .bl (decide (k = 22)), .bl (decide (k = 23))]))
    exact q _ r7 s15 (fresh_same s14 hr7) r7_at
abbrev nSecond : List Str := ["_law_e", "_law_found"]
theorem scSecond : FnScope nSecond ["_law_e"] (defScope sSecond) := ⟨rfl, rfl, rfl, by decide +kernel, rfl, by decide +kernel, by decide +kernel⟩
theorem ok_second {f : Addr} {fd : FuncData} (F : Fun K "_law_second_half" "_law_second_half" sSecond f fd) (T : Bn mg) (Z : Errs P w K mg base D S) : FnOk P w K mg base CX0 1 f fd ["_law_e"] (spBits D fun k => [(decide (k = 24)), (decide (k = 25)), (decide (k = 26)), (decide (k = 27)), (decide (k = 28)), (decide (k = 29)), (decide (k = 30)), (decide (k = 31)), (decide (k = 32)), (decide (k = 33)), (decide (k = 34)), (decide (k = 35)), (decide (k = 36)), (decide (k = 37)), (decide (k = 38)), (decide (k = 39)), (decide (k = 40)), (decide (k = 41)), (decide (k = 42)), (decide (k = 43)), (decide (k = 44))]) := by
  refine F.ok scSecond (fun vs H Q E h => ?_) (fun cdv A outer s H vs Q E hr h => ?_)
  · obtain ⟨a, k, fs, rfl, _⟩ := h
    rfl
  · obtain ⟨a, k, fs, rfl, hk, ea, q⟩ := h
    refine ⟨_, (pss_cons (ps_set (i := 1) scSecond.nd rfl (Or.inl rfl) (pe_lst (pa_cons (pe_isC (nm := "InvalidChange") (b := fun k => decide (k = 24)) (c := .ref (D 24)) (cv := .ref (D 24)) T Z.ec (by rfl) (pv 0) (pe_glob (by rfl) Z.e24.mgD rfl) (fun _ z => z) (fun k hk => Z.kit k hk 24 (by decide))) (pa_cons (pe_isC (nm := "InvalidWeights") (b := fun k => decide (k = 25)) (c := .ref (D 25)) (cv := .ref (D 25)) T Z.ec (by rfl) (pv 0) (pe_glob (by rfl) Z.e25.mgD rfl) (fun _ z => z) (fun k hk => Z.kit k hk 25 (by decide))) (pa_cons (pe_isC (nm := "InvalidPatterns") (b := fun k => decide (k = 26)) (c := .ref (D 26)) (cv := .ref (D 26)) T Z.ec (by rfl) (pv 0) (pe_glob (by rfl) Z.e26.mgD rfl) (fun _ z => z) (fun k hk => Z.kit k hk 26 (by decide))) pa_nil)))))
      (pss_cons (ps_set (i := 1) scSecond.nd rfl (Or.inl rfl) (pe_op op_cat (pv 1) (pe_lst (pa_cons (pe_isC (nm := "EmptyEntry") (b := fun k => decide (k = 27)) (c := .ref (D 27)) (cv := .ref (D 27)) T Z.ec (by rfl) (pv 0) (pe_glob (by rfl) Z.e27.mgD rfl) (fun _ z => z) (fun k hk => Z.kit k hk 27 (by decide))) (pa_cons (pe_isC (nm := "InvalidText") (b := fun k => decide (k = 28)) (c := .ref (D 28)) (cv := .ref (D 28)) T Z.ec (by rfl) (pv 0) (pe_glob (by rfl) Z.e28.mgD rfl) (fun _ z => z) (fun k hk => Z.kit k hk 28 (by decide))) (pa_cons (pe_isC (nm := "InvalidDefinitions") (b := fun k => decide (k = 29)) (c := .ref (D 29)) (cv := .ref (D 29)) T Z.ec (by rfl) (pv 0) (pe_glob (by rfl) Z.e29.mgD rfl) (fun _ z => z) (fun k hk => Z.kit k hk 29 (by decide))) pa_nil))))))
      (pss_cons (ps_set (i := 1) scSecond.nd rfl (Or.inl rfl) (pe_op op_cat (pv 1) (pe_lst (pa_cons (pe_isC (nm := "InvalidClaim") (b := fun k => decide (k = 30)) (c := .ref (D 30)) (cv := .ref (D 30)) T Z.ec (by rfl) (pv 0) (pe_glob (by rfl) Z.e30.mgD rfl) (fun _ z => z) (fun k hk => Z.kit k hk 30 (by decide))) (pa_cons (pe_isC (nm := "InvalidCommand") (b := fun k => decide (k = 31)) (c := .ref (D 31)) (cv := .ref (D 31)) T Z.ec (by rfl) (pv 0) (pe_glob (by rfl) Z.e31.mgD rfl) (fun _ z => z) (fun k hk => Z.kit k hk 31 (by decide))) (pa_cons (pe_isC (nm := "OtherSort") (b := fun k => decide (k = 32)) (c := .ref (D 32)) (cv := .ref (D 32)) T Z.ec (by rfl) (pv 0) (pe_glob (by rfl) Z.e32.mgD rfl) (fun _ z => z) (fun k hk => Z.kit k hk 32 (by decide))) pa_nil))))))
      (pss_cons (ps_set (i := 1) scSecond.nd rfl (Or.inl rfl) (pe_op op_cat (pv 1) (pe_lst (pa_cons (pe_isC (nm := "OtherSorts") (b := fun k => decide (k = 33)) (c := .ref (D 33)) (cv := .ref (D 33)) T Z.ec (by rfl) (pv 0) (pe_glob (by rfl) Z.e33.mgD rfl) (fun _ z => z) (fun k hk => Z.kit k hk 33 (by decide))) (pa_cons (pe_isC (nm := "OtherTable") (b := fun k => decide (k = 34)) (c := .ref (D 34)) (cv := .ref (D 34)) T Z.ec (by rfl) (pv 0) (pe_glob (by rfl) Z.e34.mgD rfl) (fun _ z => z) (fun k hk => Z.kit k hk 34 (by decide))) (pa_cons (pe_isC (nm := "OtherNames") (b := fun k => decide (k = 35)) (c := .ref (D 35)) (cv := .ref (D 35)) T Z.ec (by rfl) (pv 0) (pe_glob (by rfl) Z.e35.mgD rfl) (fun _ z => z) (fun k hk => Z.kit k hk 35 (by decide))) pa_nil))))))
      (pss_cons (ps_set (i := 1) scSecond.nd rfl (Or.inl rfl) (pe_op op_cat (pv 1) (pe_lst (pa_cons (pe_isC (nm := "Vanishing") (b := fun k => decide (k = 36)) (c := .ref (D 36)) (cv := .ref (D 36)) T Z.ec (by rfl) (pv 0) (pe_glob (by rfl) Z.e36.mgD rfl) (fun _ z => z) (fun k hk => Z.kit k hk 36 (by decide))) (pa_cons (pe_isC (nm := "ChangesSign") (b := fun k => decide (k = 37)) (c := .ref (D 37)) (cv := .ref (D 37)) T Z.ec (by rfl) (pv 0) (pe_glob (by rfl) Z.e37.mgD rfl) (fun _ z => z) (fun k hk => Z.kit k hk 37 (by decide))) (pa_cons (pe_isC (nm := "NoFactors") (b := fun k => decide (k = 38)) (c := .ref (D 38)) (cv := .ref (D 38)) T Z.ec (by rfl) (pv 0) (pe_glob (by rfl) Z.e38.mgD rfl) (fun _ z => z) (fun k hk => Z.kit k hk 38 (by decide))) pa_nil))))))
      (pss_cons (ps_set (i := 1) scSecond.nd rfl (Or.inl rfl) (pe_op op_cat (pv 1) (pe_lst (pa_cons (pe_isC (nm := "TooMany") (b := fun k => decide (k = 39)) (c := .ref (D 39)) (cv := .ref (D 39)) T Z.ec (by rfl) (pv 0) (pe_glob (by rfl) Z.e39.mgD rfl) (fun _ z => z) (fun k hk => Z.kit k hk 39 (by decide))) (pa_cons (pe_isC (nm := "UnknownSort") (b := fun k => decide (k = 40)) (c := .ref (D 40)) (cv := .ref (D 40)) T Z.ec (by rfl) (pv 0) (pe_glob (by rfl) Z.e40.mgD rfl) (fun _ z => z) (fun k hk => Z.kit k hk 40 (by decide))) (pa_cons (pe_isC (nm := "UnknownName") (b := fun k => decide (k = 41)) (c := .ref (D 41)) (cv := .ref (D 41)) T Z.ec (by rfl) (pv 0) (pe_glob (by rfl) Z.e41.mgD rfl) (fun _ z => z) (fun k hk => Z.kit k hk 41 (by decide))) pa_nil))))))
      (pss_one (ps_ret (pe_op op_cat (pv 1) (pe_lst (pa_cons (pe_isC (nm := "NameTaken") (b := fun k => decide (k = 42)) (c := .ref (D 42)) (cv := .ref (D 42)) T Z.ec (by rfl) (pv 0) (pe_glob (by rfl) Z.e42.mgD rfl) (fun _ z => z) (fun k hk => Z.kit k hk 42 (by decide))) (pa_cons (pe_isC (nm := "NothingToUndo") (b := fun k => decide (k = 43)) (c := .ref (D 43)) (cv := .ref (D 43)) T Z.ec (by rfl) (pv 0) (pe_glob (by rfl) Z.e43.mgD rfl) (fun _ z => z) (fun k hk => Z.kit k hk 43 (by decide))) (pa_cons (pe_isC (nm := "DividedByZero") (b := fun k => decide (k = 44)) (c := .ref (D 44)) (cv := .ref (D 44)) T Z.ec (by rfl) (pv 0) (pe_glob (by rfl) Z.e44.mgD rfl) (fun _ z => z) (fun k hk => Z.kit k hk 44 (by decide))) pa_nil))))))))))))), ?_⟩
    have s0 := Same.refl H
    have e0 := ea
    refine ⟨a, k, fs, rfl, hk, e0, a, k, fs, rfl, hk, e0, a, k, fs, rfl, hk, e0, (by show 3 ≤ sizeLine; decide), fun l0 hl0 => ?_⟩
    have s1 := sNew (o := .lst [.bl (decide (k = 24)), .bl (decide (k = 25)), .bl (decide (k = 26))]) s0 hl0
    have a0 := upd_same (H := H) (a := l0) (o := .lst [.bl (decide (k = 24)), .bl (decide (k = 25)), .bl (decide (k = 26))])
    generalize hG0 : upd H l0 (.lst [.bl (decide (k = 24)), .bl (decide (k = 25)), .bl (decide (k = 26))]) = H1 at s1 a0 ⊢
    have e1 := ea.same s1
    have r0_at := a0
    have new0 := hl0
    clear hG0
    skip
    obtain ⟨r0, hr0⟩ : ∃ r, r = l0 := ⟨_, rfl⟩
    rw [← hr0] at r0_at ⊢ hl0
    refine ⟨_, rfl, a, k, fs, rfl, hk, e1, a, k, fs, rfl, hk, e1, a, k, fs, rfl, hk, e1, (by show 3 ≤ sizeLine; decide), fun l1 hl1 => ?_⟩
    have s2 := sNew (o := .lst [.bl (decide (k = 27)), .bl (decide (k = 28)), .bl (decide (k = 29))]) s1 hl1
    have a1 := upd_same (H := H1) (a := l1) (o := .lst [.bl (decide (k = 27)), .bl (decide (k = 28)), .bl (decide (k = 29))])
    generalize hG1 : upd H1 l1 (.lst [.bl (decide (k = 27)), .bl (decide (k = 28)), .bl (decide (k = 29))]) = H2 at s2 a1 ⊢
    have r0' : H2 r0 = some (.lst [.bl (decide (k = 24)), .bl (decide (k = 25)), .bl (decide (k = 26))]) := by rw [← hG1]; exact old r0_at hl1
    have e2 := ea.same s2
    refine ⟨r0, l1, _, _, rfl, rfl, r0', a1, (by show 6 ≤ sizeLine; decide), fun r1 hr1 => ?_⟩
    have s3 := sNew (o := .lst ([.bl (decide (k = 24)), .bl (decide (k = 25)), .bl (decide (k = 26))] ++ [.bl (decide (k = 27)), .bl (decide (k = 28)), .bl (decide (k = 29))])) s2 hr1
    have r1_at := upd_same (H := H2) (a := r1) (o := .lst ([.bl (decide (k = 24)), .bl (decide (k = 25)), .bl (decide (k = 26))] ++ [.bl (decide (k = 27)), .bl (decide (k = 28)), .bl (decide (k = 29))]))
    skip
    generalize hG2 : upd H2 r1 (.lst ([.bl (decide (k = 24)), .bl (decide (k = 25)), .bl (decide (k = 26))] ++ [.bl (decide (k = 27)), .bl (decide (k = 28)), .bl (decide (k = 29))])) = H3 at s3 r1_at ⊢
    clear hG2
    have r1_at : H3 r1 = some (.lst [.bl (decide (k = 24)), .bl (decide (k = 25)), .bl (decide (k = 26)), .bl (decide (k = 27)), .bl (decide (k = 28)), .bl (decide (k = 29))]) := r1_at
    have e3 := ea.same s3
    refine ⟨_, rfl, a, k, fs, rfl, hk, e3, a, k, fs, rfl, hk, e3, a, k, fs, rfl, hk, e3, (by show 3 ≤ sizeLine; decide), fun l2 hl2 => ?_⟩
    have s4 := sNew (o := .lst [.bl (decide (k = 30)), .bl (decide (k = 31)), .bl (decide (k = 32))]) s3 hl2
    have a2 := upd_same (H := H3) (a := l2) (o := .lst [.bl (decide (k = 30)), .bl (decide (k = 31)), .bl (decide (k = 32))])
    generalize hG3 : upd H3 l2 (.lst [.bl (decide (k = 30)), .bl (decide (k = 31)), .bl (decide (k = 32))]) = H4 at s4 a2 ⊢
    have r1' : H4 r1 = some (.lst [.bl (decide (k = 24)), .bl (decide (k = 25)), .bl (decide (k = 26)), .bl (decide (k = 27)), .bl (decide (k = 28)), .bl (decide (k = 29))]) := by rw [← hG3]; exact old r1_at hl2
    have e4 := ea.same s4
    refine ⟨r1, l2, _, _, rfl, rfl, r1', a2, (by show 9 ≤ sizeLine; decide), fun r2 hr2 => ?_⟩
    have s5 := sNew (o := .lst ([.bl (decide (k = 24)), .bl (decide (k = 25)), .bl (decide (k = 26)), .bl (decide (k = 27)), .bl (decide (k = 28)), .bl (decide (k = 29))] ++ [.bl (decide (k = 30)), .bl (decide (k = 31)), .bl (decide (k = 32))])) s4 hr2
    have r2_at := upd_same (H := H4) (a := r2) (o := .lst ([.bl (decide (k = 24)), .bl (decide (k = 25)), .bl (decide (k = 26)), .bl (decide (k = 27)), .bl (decide (k = 28)), .bl (decide (k = 29))] ++ [.bl (decide (k = 30)), .bl (decide (k = 31)), .bl (decide (k = 32))]))
    skip
    generalize hG4 : upd H4 r2 (.lst ([.bl (decide (k = 24)), .bl (decide (k = 25)), .bl (decide (k = 26)), .bl (decide (k = 27)), .bl (decide (k = 28)), .bl (decide (k = 29))] ++ [.bl (decide (k = 30)), .bl (decide (k = 31)), .bl (decide (k = 32))])) = H5 at s5 r2_at ⊢
    clear hG4
    have r2_at : H5 r2 = some (.lst [.bl (decide (k = 24)), .bl (decide (k = 25)), .bl (decide (k = 26)), .bl (decide (k = 27)), .bl (decide (k = 28)), .bl (decide (k = 29)), .bl (decide (k = 30)), .bl (decide (k = 31)), .bl (decide (k = 32))]) := r2_at
    have e5 := ea.same s5
    refine ⟨_, rfl, a, k, fs, rfl, hk, e5, a, k, fs, rfl, hk, e5, a, k, fs, rfl, hk, e5, (by show 3 ≤ sizeLine; decide), fun l3 hl3 => ?_⟩
    have s6 := sNew (o := .lst [.bl (decide (k = 33)), .bl (decide (k = 34)), .bl (decide (k = 35))]) s5 hl3
    have a3 := upd_same (H := H5) (a := l3) (o := .lst [.bl (decide (k = 33)), .bl (decide (k = 34)), .bl (decide (k = 35))])
    generalize hG5 : upd H5 l3 (.lst [.bl (decide (k = 33)), .bl (decide (k = 34)), .bl (decide (k = 35))]) = H6 at s6 a3 ⊢
    have r2' : H6 r2 = some (.lst [.bl (decide (k = 24)), .bl (decide (k = 25)), .bl (decide (k = 26)), .bl (decide (k = 27)), .bl (decide (k = 28)), .bl (decide (k = 29)), .bl (decide (k = 30)), .bl (decide (k = 31)), .bl (decide (k = 32))]) := by rw [← hG5]; exact old r2_at hl3
    have e6 := ea.same s6
    refine ⟨r2, l3, _, _, rfl, rfl, r2', a3, (by show 12 ≤ sizeLine; decide), fun r3 hr3 => ?_⟩
    have s7 := sNew (o := .lst ([.bl (decide (k = 24)), .bl (decide (k = 25)), .bl (decide (k = 26)), .bl (decide (k = 27)), .bl (decide (k = 28)), .bl (decide (k = 29)), .bl (decide (k = 30)), .bl (decide (k = 31)), .bl (decide (k = 32))] ++ [.bl (decide (k = 33)), .bl (decide (k = 34)), .bl (decide (k = 35))])) s6 hr3
    have r3_at := upd_same (H := H6) (a := r3) (o := .lst ([.bl (decide (k = 24)), .bl (decide (k = 25)), .bl (decide (k = 26)), .bl (decide (k = 27)), .bl (decide (k = 28)), .bl (decide (k = 29)), .bl (decide (k = 30)), .bl (decide (k = 31)), .bl (decide (k = 32))] ++ [.bl (decide (k = 33)), .bl (decide (k = 34)), .bl (decide (k = 35))]))
    skip
    generalize hG6 : upd H6 r3 (.lst ([.bl (decide (k = 24)), .bl (decide (k = 25)), .bl (decide (k = 26)), .bl (decide (k = 27)), .bl (decide (k = 28)), .bl (decide (k = 29)), .bl (decide (k = 30)), .bl (decide (k = 31)), .bl (decide (k = 32))] ++ [.bl (decide (k = 33)), .bl (decide (k = 34)), .bl (decide (k = 35))])) = H7 at s7 r3_at ⊢
    clear hG6
    have r3_at : H7 r3 = some (.lst [.bl (decide (k = 24)), .bl (decide (k = 25)), .bl (decide (k = 26)), .bl (decide (k = 27)), .bl (decide (k = 28)), .bl (decide (k = 29)), .bl (decide (k = 30)), .bl (decide (k = 31)), .bl (decide (k = 32)), .bl (decide (k = 33)), .bl (decide (k = 34)), .bl (decide (k = 35))]) := r3_at
    have e7 := ea.same s7
    refine ⟨_, rfl, a, k, fs, rfl, hk, e7, a, k, fs, rfl, hk, e7, a, k, fs, rfl, hk, e7, (by show 3 ≤ sizeLine; decide), fun l4 hl4 => ?_⟩
    have s8 := sNew (o := .lst [.bl (decide (k = 36)), .bl (decide (k = 37)), .bl (decide (k = 38))]) s7 hl4
    have a4 := upd_same (H := H7) (a := l4) (o := .lst [.bl (decide (k = 36)), .bl (decide (k = 37)), .bl (decide (k = 38))])
    generalize hG7 : upd H7 l4 (.lst [.bl (decide (k = 36)), .bl (decide (k = 37)), .bl (decide (k = 38))]) = H8 at s8 a4 ⊢
    have r3' : H8 r3 = some (.lst [.bl (decide (k = 24)), .bl (decide (k = 25)), .bl (decide (k = 26)), .bl (decide (k = 27)), .bl (decide (k = 28)), .bl (decide (k = 29)), .bl (decide (k = 30)), .bl (decide (k = 31)), .bl (decide (k = 32)), .bl (decide (k = 33)), .bl (decide (k = 34)), .bl (decide (k = 35))]) := by rw [← hG7]; exact old r3_at hl4
    have e8 := ea.same s8
    refine ⟨r3, l4, _, _, rfl, rfl, r3', a4, (by show 15 ≤ sizeLine; decide), fun r4 hr4 => ?_⟩
    have s9 := sNew (o := .lst ([.bl (decide (k = 24)), .bl (decide (k = 25)), .bl (decide (k = 26)), .bl (decide (k = 27)), .bl (decide (k = 28)), .bl (decide (k = 29)), .bl (decide (k = 30)), .bl (decide (k = 31)), .bl (decide (k = 32)), .bl (decide (k = 33)), .bl (decide (k = 34)), .bl (decide (k = 35))] ++ [.bl (decide (k = 36)), .bl (decide (k = 37)), .bl (decide (k = 38))])) s8 hr4
    have r4_at := upd_same (H := H8) (a := r4) (o := .lst ([.bl (decide (k = 24)), .bl (decide (k = 25)), .bl (decide (k = 26)), .bl (decide (k = 27)), .bl (decide (k = 28)), .bl (decide (k = 29)), .bl (decide (k = 30)), .bl (decide (k = 31)), .bl (decide (k = 32)), .bl (decide (k = 33)), .bl (decide (k = 34)), .bl (decide (k = 35))] ++ [.bl (decide (k = 36)), .bl (decide (k = 37)), .bl (decide (k = 38))]))
    skip
    generalize hG8 : upd H8 r4 (.lst ([.bl (decide (k = 24)), .bl (decide (k = 25)), .bl (decide (k = 26)), .bl (decide (k = 27)), .bl (decide (k = 28)), .bl (decide (k = 29)), .bl (decide (k = 30)), .bl (decide (k = 31)), .bl (decide (k = 32)), .bl (decide (k = 33)), .bl (decide (k = 34)), .bl (decide (k = 35))] ++ [.bl (decide (k = 36)), .bl (decide (k = 37)), .bl (decide (k = 38))])) = H9 at s9 r4_at ⊢
    clear hG8
    have r4_at : H9 r4 = some (.lst [.bl (decide (k = 24)), .bl (decide (k = 25)), .bl (decide (k = 26)), .bl (decide (k = 27)), .bl (decide (k = 28)), .bl (decide (k = 29)), .bl (decide (k = 30)), .bl (decide (k = 31)), .bl (decide (k = 32)), .bl (decide (k = 33)), .bl (decide (k = 34)), .bl (decide (k = 35)), .bl (decide (k = 36)), .bl (decide (k = 37)), .bl (decide (k = 38))]) := r4_at
    have e9 := ea.same s9
    refine ⟨_, rfl, a, k, fs, rfl, hk, e9, a, k, fs, rfl, hk, e9, a, k, fs, rfl, hk, e9, (by show 3 ≤ sizeLine; decide), fun l5 hl5 => ?_⟩
    have s10 := sNew (o := .lst [.bl (decide (k = 39)), .bl (decide (k = 40)), .bl (decide (k = 41))]) s9 hl5
    have a5 := upd_same (H := H9) (a := l5) (o := .lst [.bl (decide (k = 39)), .bl (decide (k = 40)), .bl (decide (k = 41))])
    generalize hG9 : upd H9 l5 (.lst [.bl (decide (k = 39)), .bl (decide (k = 40)), .bl (decide (k = 41))]) = H10 at s10 a5 ⊢
    have r4' : H10 r4 = some (.lst [.bl (decide (k = 24)), .bl (decide (k = 25)), .bl (decide (k = 26)), .bl (decide (k = 27)), .bl (decide (k = 28)), .bl (decide (k = 29)), .bl (decide (k = 30)), .bl (decide (k = 31)), .bl (decide (k = 32)), .bl (decide (k = 33)), .bl (decide (k = 34)), .bl (decide (k = 35)), .bl (decide (k = 36)), .bl (decide (k = 37)), .bl (decide (k = 38))]) := by rw [← hG9]; exact old r4_at hl5
    have e10 := ea.same s10
    refine ⟨r4, l5, _, _, rfl, rfl, r4', a5, (by show 18 ≤ sizeLine; decide), fun r5 hr5 => ?_⟩
    have s11 := sNew (o := .lst ([.bl (decide (k = 24)), .bl (decide (k = 25)), .bl (decide (k = 26)), .bl (decide (k = 27)), .bl (decide (k = 28)), .bl (decide (k = 29)), .bl (decide (k = 30)), .bl (decide (k = 31)), .bl (decide (k = 32)), .bl (decide (k = 33)), .bl (decide (k = 34)), .bl (decide (k = 35)), .bl (decide (k = 36)), .bl (decide (k = 37)), .bl (decide (k = 38))] ++ [.bl (decide (k = 39)), .bl (decide (k = 40)), .bl (decide (k = 41))])) s10 hr5
    have r5_at := upd_same (H := H10) (a := r5) (o := .lst ([.bl (decide (k = 24)), .bl (decide (k = 25)), .bl (decide (k = 26)), .bl (decide (k = 27)), .bl (decide (k = 28)), .bl (decide (k = 29)), .bl (decide (k = 30)), .bl (decide (k = 31)), .bl (decide (k = 32)), .bl (decide (k = 33)), .bl (decide (k = 34)), .bl (decide (k = 35)), .bl (decide (k = 36)), .bl (decide (k = 37)), .bl (decide (k = 38))] ++ [.bl (decide (k = 39)), .bl (decide (k = 40)), .bl (decide (k = 41))]))
    skip
    generalize hG10 : upd H10 r5 (.lst ([.bl (decide (k = 24)), .bl (decide (k = 25)), .bl (decide (k = 26)), .bl (decide (k = 27)), .bl (decide (k = 28)), .bl (decide (k = 29)), .bl (decide (k = 30)), .bl (decide (k = 31)), .bl (decide (k = 32)), .bl (decide (k = 33)), .bl (decide (k = 34)), .bl (decide (k = 35)), .bl (decide (k = 36)), .bl (decide (k = 37)), .bl (decide (k = 38))] ++ [.bl (decide (k = 39)), .bl (decide (k = 40)), .bl (decide (k = 41))])) = H11 at s11 r5_at ⊢
    clear hG10
    have r5_at : H11 r5 = some (.lst [.bl (decide (k = 24)), .bl (decide (k = 25)), .bl (decide (k = 26)), .bl (decide (k = 27)), .bl (decide (k = 28)), .bl (decide (k = 29)), .bl (decide (k = 30)), .bl (decide (k = 31)), .bl (decide (k = 32)), .bl (decide (k = 33)), .bl (decide (k = 34)), .bl (decide (k = 35)), .bl (decide (k = 36)), .bl (decide (k = 37)), .bl (decide (k = 38)), .bl (decide (k = 39)), .bl (decide (k = 40)), .bl (decide (k = 41))]) := r5_at
    have e11 := ea.same s11
    refine ⟨_, rfl, a, k, fs, rfl, hk, e11, a, k, fs, rfl, hk, e11, a, k, fs, rfl, hk, e11, (by show 3 ≤ sizeLine; decide), fun l6 hl6 => ?_⟩
    have s12 := sNew (o := .lst [.bl (decide (k = 42)), .bl (decide (k = 43)), .bl (decide (k = 44))]) s11 hl6
    have a6 := upd_same (H := H11) (a := l6) (o := .lst [.bl (decide (k = 42)), .bl (decide (k = 43)), .bl (decide (k = 44))])
    generalize hG11 : upd H11 l6 (.lst [.bl (decide (k = 42)), .bl (decide (k = 43)), .bl (decide (k = 44))]) = H12 at s12 a6 ⊢
    have r5' : H12 r5 = some (.lst [.bl (decide (k = 24)), .bl (decide (k = 25)), .bl (decide (k = 26)), .bl (decide (k = 27)), .bl (decide (k = 28)), .bl (decide (k = 29)), .bl (decide (k = 30)), .bl (decide (k = 31)), .bl (decide (k = 32)), .bl (decide (k = 33)), .bl (decide (k = 34)), .bl (decide (k = 35)), .bl (decide (k = 36)), .bl (decide (k = 37)), .bl (decide (k = 38)), .bl (decide (k = 39)), .bl (decide (k = 40)), .bl (decide (k = 41))]) := by rw [← hG11]; exact old r5_at hl6
    have e12 := ea.same s12
    refine ⟨r5, l6, _, _, rfl, rfl, r5', a6, (by show 21 ≤ sizeLine; decide), fun r6 hr6 => ?_⟩
    have s13 := sNew (o := .lst ([.bl (decide (k = 24)), .bl (decide (k = 25)), .bl (decide (k = 26)), .bl (decide (k = 27)), .bl (decide (k = 28)), .bl (decide (k = 29)), .bl (decide (k = 30)), .bl (decide (k = 31)), .bl (decide (k = 32)), .bl (decide (k = 33)), .bl (decide (k = 34)), .bl (decide (k = 35)), .bl (decide (k = 36)), .bl (decide (k = 37)), .bl (decide (k = 38)), .bl (decide (k = 39)), .bl (decide (k = 40)), .bl (decide (k = 41))] ++ [.bl (decide (k = 42)), .bl (decide (k = 43)), .bl (decide (k = 44))])) s12 hr6
    have r6_at := upd_same (H := H12) (a := r6) (o := .lst ([.bl (decide (k = 24)), .bl (decide (k = 25)), .bl (decide (k = 26)), .bl (decide (k = 27)), .bl (decide (k = 28)), .bl (decide (k = 29)), .bl (decide (k = 30)), .bl (decide (k = 31)), .bl (decide (k = 32)), .bl (decide (k = 33)), .bl (decide (k = 34)), .bl (decide (k = 35)), .bl (decide (k = 36)), .bl (decide (k = 37)), .bl (decide (k = 38)), .bl (decide (k = 39)), .bl (decide (k = 40)), .bl (decide (k = 41))] ++ [.bl (decide (k = 42)), .bl (decide (k = 43)), .bl (decide (k = 44))]))
    exact q _ r6 s13 (fresh_same s12 hr6) r6_at
abbrev nBases : List Str := ["_law_e", "_law_found"]
theorem scBases : FnScope nBases ["_law_e"] (defScope sBases) := ⟨rfl, rfl, rfl, by decide +kernel, rfl, by decide +kernel, by decide +kernel⟩
theorem ok_bases {f : Addr} {fd : FuncData} (F : Fun K "_law_bases" "_law_bases" sBases f fd) (T : Bn mg) (Z : Errs P w K mg base D S) : FnOk P w K mg base CX0 1 f fd ["_law_e"] (spBits D fun k => [(decide (bs k = 0)), (decide (bs k = 1)), (decide (bs k = 2)), (decide (bs k = 0)), (decide (bs k = 1)), (decide (bs k = 2))]) := by
  refine F.ok scBases (fun vs H Q E h => ?_) (fun cdv A outer s H vs Q E hr h => ?_)
  · obtain ⟨a, k, fs, rfl, _⟩ := h
    rfl
  · obtain ⟨a, k, fs, rfl, hk, ea, q⟩ := h
    refine ⟨_, (pss_cons (ps_set (i := 1) scBases.nd rfl (Or.inl rfl) (pe_lst (pa_cons (pe_isC (nm := "SlotsumsError") (b := fun k => decide (bs k = 0)) (c := .ref (S 0)) (cv := .ref (S 0)) T Z.ec (by rfl) (pv 0) (pe_glob (by rfl) Z.s0 rfl) (fun _ z => z) (fun k hk => Z.kb k hk 0 (by decide))) (pa_cons (pe_isC (nm := "MissingError") (b := fun k => decide (bs k = 1)) (c := .ref (S 1)) (cv := .ref (S 1)) T Z.ec (by rfl) (pv 0) (pe_glob (by rfl) Z.s1 rfl) (fun _ z => z) (fun k hk => Z.kb k hk 1 (by decide))) (pa_cons (pe_isC (nm := "StateError") (b := fun k => decide (bs k = 2)) (c := .ref (S 2)) (cv := .ref (S 2)) T Z.ec (by rfl) (pv 0) (pe_glob (by rfl) Z.s2 rfl) (fun _ z => z) (fun k hk => Z.kb k hk 2 (by decide))) pa_nil)))))
      (pss_one (ps_ret (pe_op op_cat (pv 1) (pe_lst (pa_cons (pe_isC (nm := "ValueError") (b := fun k => decide (bs k = 0)) (c := .ty (tn 0)) (cv := .type (tn 0)) T Z.ec (by rfl) (pv 0) (pe_bltn (v := .ty "ValueError") (by rfl) Z.ve (by decide +kernel) rfl) (fun _ z => z) (fun k hk => Z.kt k hk 0 (by decide))) (pa_cons (pe_isC (nm := "LookupError") (b := fun k => decide (bs k = 1)) (c := .ty (tn 1)) (cv := .type (tn 1)) T Z.ec (by rfl) (pv 0) (pe_bltn (v := .ty "LookupError") (by rfl) Z.le (by decide +kernel) rfl) (fun _ z => z) (fun k hk => Z.kt k hk 1 (by decide))) (pa_cons (pe_isC (nm := "RuntimeError") (b := fun k => decide (bs k = 2)) (c := .ty (tn 2)) (cv := .type (tn 2)) T Z.ec (by rfl) (pv 0) (pe_bltn (v := .ty "RuntimeError") (by rfl) Z.re (by decide +kernel) rfl) (fun _ z => z) (fun k hk => Z.kt k hk 2 (by decide))) pa_nil)))))))), ?_⟩
    have s0 := Same.refl H
    have e0 := ea
    refine ⟨a, k, fs, rfl, hk, e0, a, k, fs, rfl, hk, e0, a, k, fs, rfl, hk, e0, (by show 3 ≤ sizeLine; decide), fun l0 hl0 => ?_⟩
    have s1 := sNew (o := .lst [.bl (decide (bs k = 0)), .bl (decide (bs k = 1)), .bl (decide (bs k = 2))]) s0 hl0
    have a0 := upd_same (H := H) (a := l0) (o := .lst [.bl (decide (bs k = 0)), .bl (decide (bs k = 1)), .bl (decide (bs k = 2))])
    generalize hG0 : upd H l0 (.lst [.bl (decide (bs k = 0)), .bl (decide (bs k = 1)), .bl (decide (bs k = 2))]) = H1 at s1 a0 ⊢
    have e1 := ea.same s1
    have r0_at := a0
    have new0 := hl0
    clear hG0
    skip
    obtain ⟨r0, hr0⟩ : ∃ r, r = l0 := ⟨_, rfl⟩
    rw [← hr0] at r0_at ⊢ hl0
    refine ⟨_, rfl, a, k, fs, rfl, hk, e1, a, k, fs, rfl, hk, e1, a, k, fs, rfl, hk, e1, (by show 3 ≤ sizeLine; decide), fun l1 hl1 => ?_⟩
    have s2 := sNew (o := .lst [.bl (decide (bs k = 0)), .bl (decide (bs k = 1)), .bl (decide (bs k = 2))]) s1 hl1
    have a1 := upd_same (H := H1) (a := l1) (o := .lst [.bl (decide (bs k = 0)), .bl (decide (bs k = 1)), .bl (decide (bs k = 2))])
    generalize hG1 : upd H1 l1 (.lst [.bl (decide (bs k = 0)), .bl (decide (bs k = 1)), .bl (decide (bs k = 2))]) = H2 at s2 a1 ⊢
    have r0' : H2 r0 = some (.lst [.bl (decide (bs k = 0)), .bl (decide (bs k = 1)), .bl (decide (bs k = 2))]) := by rw [← hG1]; exact old r0_at hl1
    have e2 := ea.same s2
    refine ⟨r0, l1, _, _, rfl, rfl, r0', a1, (by show 6 ≤ sizeLine; decide), fun r1 hr1 => ?_⟩
    have s3 := sNew (o := .lst ([.bl (decide (bs k = 0)), .bl (decide (bs k = 1)), .bl (decide (bs k = 2))] ++ [.bl (decide (bs k = 0)), .bl (decide (bs k = 1)), .bl (decide (bs k = 2))])) s2 hr1
    have r1_at := upd_same (H := H2) (a := r1) (o := .lst ([.bl (decide (bs k = 0)), .bl (decide (bs k = 1)), .bl (decide (bs k = 2))] ++ [.bl (decide (bs k = 0)), .bl (decide (bs k = 1)), .bl (decide (bs k = 2))]))
    exact q _ r1 s3 (fresh_same s2 hr1) r1_at
end
end S14

namespace S14
open PySem L2 GM
/-! ### the list of all errors -/
def G0 (va vb : V) : List (List (Str × V)) := [[("value", va)], [("value", va)], [("value", va)], [("position", vb)], [("position", vb)], [("value", va)]]
def G1 (va vb : V) : List (List (Str × V)) := [[("value", va)], [("position", vb)], [("places", va), ("position", vb)], [("position", vb)], [("position", vb)]]
def G2 (va vb : V) : List (List (Str × V)) := [[("position", vb)], [("position", vb)], [("value", va)], [("position", vb)], [("value", va)]]
def G3 (va vb : V) : List (List (Str × V)) := [[("position", vb)], [("value", va)], [("value", va)], [("position", vb)], [("value", va)]]
def G4 (va vb : V) : List (List (Str × V)) := [[("value", va)], [("value", va)], [("value", va)], [("value", va)], [("value", va)]]
def G5 (va vb : V) : List (List (Str × V)) := [[("position", vb)], [("places", va), ("position", vb)], [("line", vb)], [("position", vb)], [("value", va)]]
def G6 (va vb : V) : List (List (Str × V)) := [[("value", va)], [("name", va)], [("position", vb)], [("name", va)], [("name", va)], [("name", va)]]
def G7 (va vb : V) : List (List (Str × V)) := [[("name", va)], [], [("limit", vb), ("kind", va)], [("name", va)], [("value", va)], [("name", va)]]
def G8 (va vb : V) : List (List (Str × V)) := [[], []]
def flds (va vb : V) : List (List (Str × V)) := ((((((((G0 va vb ++ G1 va vb) ++ G2 va vb) ++ G3 va vb) ++ G4 va vb) ++ G5 va vb) ++ G6 va vb) ++ G7 va vb) ++ G8 va vb)
def MadeAt (H : Hp) (D : Nat → Addr) : Nat → List Addr → List (List (Str × V)) → Prop
  | n, e :: es, f :: fs => ErrAt H e (D n) f ∧ MadeAt H D (n + 1) es fs
  | _, [], [] => True
  | _, _, _ => False
theorem MadeAt.same {H G : Hp} {D : Nat → Addr} (s : Same H G) : ∀ {n : Nat} {es : List Addr} {fs : List (List (Str × V))}, MadeAt H D n es fs → MadeAt G D n es fs
  | _, [], [], _ => trivial
  | _, _ :: _, _ :: _, h => ⟨h.1.same s, MadeAt.same s h.2⟩
theorem MadeAt.app {H : Hp} {D : Nat → Addr} {es2 : List Addr} {fs2 : List (List (Str × V))} : ∀ {n : Nat} {es : List Addr} {fs : List (List (Str × V))}, MadeAt H D n es fs → MadeAt H D (n + fs.length) es2 fs2 → MadeAt H D n (es ++ es2) (fs ++ fs2)
  | _, [], [], _, h => h
  | n, _ :: _, _ :: fs, h, h2 => ⟨h.1, MadeAt.app h.2 (by rw [List.length_cons, show n + (fs.length + 1) = n + 1 + fs.length by omega] at h2; exact h2)⟩
theorem MadeAt.len {H : Hp} {D : Nat → Addr} : ∀ {n : Nat} {es : List Addr} {fs : List (List (Str × V))}, MadeAt H D n es fs → es.length = fs.length
  | _, [], [], _ => rfl
  | _, _ :: _, _ :: _, h => congrArg (· + 1) (MadeAt.len h.2)
theorem MadeAt.at_ {H : Hp} {D : Nat → Addr} : ∀ {n : Nat} {es : List Addr} {fs : List (List (Str × V))} {i : Nat} {e : Addr} {f : List (Str × V)}, MadeAt H D n es fs → es[i]? = some e → fs[i]? = some f → ErrAt H e (D (n + i)) f
  | _, _ :: _, _ :: _, 0, _, _, h, h1, h2 => by cases h1; cases h2; exact h.1
  | n, _ :: _, _ :: _, i + 1, _, _, h, h1, h2 => by rw [show n + (i + 1) = n + 1 + i by omega]; exact MadeAt.at_ h.2 h1 h2
  | _, [], _, _, _, _, _, h1, _ => by cases h1
section
variable {P : Program} {w : World} {K : PySem.W.Frag} {mg : Str → Option Value} {base : Heap} {D S : Nat → Addr}
def spMade (D : Nat → Addr) : Sp := fun vs H Q _ => ∃ (va vb : V) (ta tb : Str), vs = [va, vb] ∧ Vl H va ta ∧ Vl H vb tb ∧ ∀ H' r es, Same H H' → H r = none → H' r = some (.lst (es.map V.ref)) → MadeAt H' D 0 es (flds va vb) → Q (.ref r) H'
abbrev nMade : List Str := ["_law_a", "_law_b", "_law_found"]
theorem scMade : FnScope nMade ["_law_a", "_law_b"] (defScope sMade) := ⟨rfl, rfl, rfl, by decide +kernel, rfl, by decide +kernel, by decide +kernel⟩
theorem ok_made {f : Addr} {fd : FuncData} (F : Fun K "_law_made" "_law_made" sMade f fd) (Z : Errs P w K mg base D S) : FnG P w K mg base CX0 5 f fd ["_law_a", "_law_b"] (spMade D) := by
  refine F.okG scMade (fun vs H Q E h => ?_) (fun cdv A outer s H vs Q E gd hr h => ?_)
  · obtain ⟨va, vb, ta, tb, rfl, _⟩ := h
    rfl
  · obtain ⟨va, vb, ta, tb, rfl, wa, wb, q⟩ := h

    refine ⟨_, (pss_cons (ps_set (i := 2) scMade.nd rfl (Or.inl rfl) (pe_lst (pa_cons (pe_e1 Z.e0 (deeper_guards.trans gd) hr (by rfl) (pv 0)) (pa_cons (pe_e1 Z.e1 (deeper_guards.trans gd) hr (by rfl) (pv 0)) (pa_cons (pe_e1 Z.e2 (deeper_guards.trans gd) hr (by rfl) (pv 0)) (pa_cons (pe_e1 Z.e3 (deeper_guards.trans gd) hr (by rfl) (pv 1)) (pa_cons (pe_e1 Z.e4 (deeper_guards.trans gd) hr (by rfl) (pv 1)) (pa_cons (pe_e1 Z.e5 (deeper_guards.trans gd) hr (by rfl) (pv 0)) pa_nil))))))))
      (pss_cons (ps_set (i := 2) scMade.nd rfl (Or.inl rfl) (pe_op op_cat (pv 2) (pe_lst (pa_cons (pe_e1 Z.e6 (deeper_guards.trans gd) hr (by rfl) (pv 0)) (pa_cons (pe_e1 Z.e7 (deeper_guards.trans gd) hr (by rfl) (pv 1)) (pa_cons (pe_e2 Z.e8 (deeper_guards.trans gd) hr (by rfl) (pv 1) (pv 0)) (pa_cons (pe_e1 Z.e9 (deeper_guards.trans gd) hr (by rfl) (pv 1)) (pa_cons (pe_e1 Z.e10 (deeper_guards.trans gd) hr (by rfl) (pv 1)) pa_nil))))))))
      (pss_cons (ps_set (i := 2) scMade.nd rfl (Or.inl rfl) (pe_op op_cat (pv 2) (pe_lst (pa_cons (pe_e1 Z.e11 (deeper_guards.trans gd) hr (by rfl) (pv 1)) (pa_cons (pe_e1 Z.e12 (deeper_guards.trans gd) hr (by rfl) (pv 1)) (pa_cons (pe_e1 Z.e13 (deeper_guards.trans gd) hr (by rfl) (pv 0)) (pa_cons (pe_e1 Z.e14 (deeper_guards.trans gd) hr (by rfl) (pv 1)) (pa_cons (pe_e1 Z.e15 (deeper_guards.trans gd) hr (by rfl) (pv 0)) pa_nil))))))))
      (pss_cons (ps_set (i := 2) scMade.nd rfl (Or.inl rfl) (pe_op op_cat (pv 2) (pe_lst (pa_cons (pe_e1 Z.e16 (deeper_guards.trans gd) hr (by rfl) (pv 1)) (pa_cons (pe_e1 Z.e17 (deeper_guards.trans gd) hr (by rfl) (pv 0)) (pa_cons (pe_e1 Z.e18 (deeper_guards.trans gd) hr (by rfl) (pv 0)) (pa_cons (pe_e1 Z.e19 (deeper_guards.trans gd) hr (by rfl) (pv 1)) (pa_cons (pe_e1 Z.e20 (deeper_guards.trans gd) hr (by rfl) (pv 0)) pa_nil))))))))
      (pss_cons (ps_set (i := 2) scMade.nd rfl (Or.inl rfl) (pe_op op_cat (pv 2) (pe_lst (pa_cons (pe_e1 Z.e21 (deeper_guards.trans gd) hr (by rfl) (pv 0)) (pa_cons (pe_e1 Z.e22 (deeper_guards.trans gd) hr (by rfl) (pv 0)) (pa_cons (pe_e1 Z.e23 (deeper_guards.trans gd) hr (by rfl) (pv 0)) (pa_cons (pe_e1 Z.e24 (deeper_guards.trans gd) hr (by rfl) (pv 0)) (pa_cons (pe_e1 Z.e25 (deeper_guards.trans gd) hr (by rfl) (pv 0)) pa_nil))))))))
      (pss_cons (ps_set (i := 2) scMade.nd rfl (Or.inl rfl) (pe_op op_cat (pv 2) (pe_lst (pa_cons (pe_e1 Z.e26 (deeper_guards.trans gd) hr (by rfl) (pv 1)) (pa_cons (pe_e2 Z.e27 (deeper_guards.trans gd) hr (by rfl) (pv 1) (pv 0)) (pa_cons (pe_e1 Z.e28 (deeper_guards.trans gd) hr (by rfl) (pv 1)) (pa_cons (pe_e1 Z.e29 (deeper_guards.trans gd) hr (by rfl) (pv 1)) (pa_cons (pe_e1 Z.e30 (deeper_guards.trans gd) hr (by rfl) (pv 0)) pa_nil))))))))
      (pss_cons (ps_set (i := 2) scMade.nd rfl (Or.inl rfl) (pe_op op_cat (pv 2) (pe_lst (pa_cons (pe_e1 Z.e31 (deeper_guards.trans gd) hr (by rfl) (pv 0)) (pa_cons (pe_e1 Z.e32 (deeper_guards.trans gd) hr (by rfl) (pv 0)) (pa_cons (pe_e1 Z.e33 (deeper_guards.trans gd) hr (by rfl) (pv 1)) (pa_cons (pe_e1 Z.e34 (deeper_guards.trans gd) hr (by rfl) (pv 0)) (pa_cons (pe_e1 Z.e35 (deeper_guards.trans gd) hr (by rfl) (pv 0)) (pa_cons (pe_e1 Z.e36 (deeper_guards.trans gd) hr (by rfl) (pv 0)) pa_nil)))))))))
      (pss_cons (ps_set (i := 2) scMade.nd rfl (Or.inl rfl) (pe_op op_cat (pv 2) (pe_lst (pa_cons (pe_e1 Z.e37 (deeper_guards.trans gd) hr (by rfl) (pv 0)) (pa_cons (pe_e0 Z.e38 (deeper_guards.trans gd) hr (by rfl)) (pa_cons (pe_e2 Z.e39 (deeper_guards.trans gd) hr (by rfl) (pv 0) (pv 1)) (pa_cons (pe_e1 Z.e40 (deeper_guards.trans gd) hr (by rfl) (pv 0)) (pa_cons (pe_e1 Z.e41 (deeper_guards.trans gd) hr (by rfl) (pv 0)) (pa_cons (pe_e1 Z.e42 (deeper_guards.trans gd) hr (by rfl) (pv 0)) pa_nil)))))))))
      (pss_one (ps_ret (pe_op op_cat (pv 2) (pe_lst (pa_cons (pe_e0 Z.e43 (deeper_guards.trans gd) hr (by rfl)) (pa_cons (pe_e0 Z.e44 (deeper_guards.trans gd) hr (by rfl)) pa_nil)))))))))))))), ?_⟩
    have S0 := Same.refl H
    refine ⟨va, ta, rfl, wa, fun H1 a0 s1 n0 r0 => ?_⟩
    have S1 := Same.trans S0 s1
    have wa := wa.same s1
    have wb := wb.same s1
    refine ⟨va, ta, rfl, wa, fun H2 a1 s2 n1 r1 => ?_⟩
    have S2 := Same.trans S1 s2
    have wa := wa.same s2
    have wb := wb.same s2
    have r0 := r0.same s2
    refine ⟨va, ta, rfl, wa, fun H3 a2 s3 n2 r2 => ?_⟩
    have S3 := Same.trans S2 s3
    have wa := wa.same s3
    have wb := wb.same s3
    have r0 := r0.same s3
    have r1 := r1.same s3
    refine ⟨vb, tb, rfl, wb, fun H4 a3 s4 n3 r3 => ?_⟩
    have S4 := Same.trans S3 s4
    have wa := wa.same s4
    have wb := wb.same s4
    have r0 := r0.same s4
    have r1 := r1.same s4
    have r2 := r2.same s4
    refine ⟨vb, tb, rfl, wb, fun H5 a4 s5 n4 r4 => ?_⟩
    have S5 := Same.trans S4 s5
    have wa := wa.same s5
    have wb := wb.same s5
    have r0 := r0.same s5
    have r1 := r1.same s5
    have r2 := r2.same s5
    have r3 := r3.same s5
    refine ⟨va, ta, rfl, wa, fun H6 a5 s6 n5 r5 => ?_⟩
    have S6 := Same.trans S5 s6
    have wa := wa.same s6
    have wb := wb.same s6
    have r0 := r0.same s6
    have r1 := r1.same s6
    have r2 := r2.same s6
    have r3 := r3.same s6
    have r4 := r4.same s6
    refine ⟨(by show 6 ≤ sizeLine; decide), fun l0 m0 => ?_⟩
    have s7 := sNew (o := .lst [.ref a0, .ref a1, .ref a2, .ref a3, .ref a4, .ref a5]) (Same.refl H6) m0
    have A0 := upd_same (H := H6) (a := l0) (o := .lst [.ref a0, .ref a1, .ref a2, .ref a3, .ref a4, .ref a5])
    generalize upd H6 l0 (.lst [.ref a0, .ref a1, .ref a2, .ref a3, .ref a4, .ref a5]) = H7 at s7 A0 ⊢
    have S7 := Same.trans S6 s7
    have wa := wa.same s7
    have wb := wb.same s7
    have N0 : MadeAt H7 D 0 [a0, a1, a2, a3, a4, a5] (G0 va vb) := ⟨r0.same s7, ⟨r1.same s7, ⟨r2.same s7, ⟨r3.same s7, ⟨r4.same s7, ⟨r5.same s7, trivial⟩⟩⟩⟩⟩⟩
    have L0 := A0
    have M0 := N0
    obtain ⟨c0, hc0⟩ : ∃ r, r = l0 := ⟨_, rfl⟩
    rw [← hc0] at L0 ⊢
    refine ⟨_, rfl, ?_⟩
    refine ⟨va, ta, rfl, wa, fun H8 a6 s8 n6 r6 => ?_⟩
    have S8 := Same.trans S7 s8
    have wa := wa.same s8
    have wb := wb.same s8
    have L0 := s8 _ _ L0
    have M0 := M0.same s8
    refine ⟨vb, tb, rfl, wb, fun H9 a7 s9 n7 r7 => ?_⟩
    have S9 := Same.trans S8 s9
    have wa := wa.same s9
    have wb := wb.same s9
    have r6 := r6.same s9
    have L0 := s9 _ _ L0
    have M0 := M0.same s9
    refine ⟨vb, va, tb, ta, rfl, rfl, wb, wa, fun H10 a8 s10 n8 r8 => ?_⟩
    have S10 := Same.trans S9 s10
    have wa := wa.same s10
    have wb := wb.same s10
    have r6 := r6.same s10
    have r7 := r7.same s10
    have L0 := s10 _ _ L0
    have M0 := M0.same s10
    refine ⟨vb, tb, rfl, wb, fun H11 a9 s11 n9 r9 => ?_⟩
    have S11 := Same.trans S10 s11
    have wa := wa.same s11
    have wb := wb.same s11
    have r6 := r6.same s11
    have r7 := r7.same s11
    have r8 := r8.same s11
    have L0 := s11 _ _ L0
    have M0 := M0.same s11
    refine ⟨vb, tb, rfl, wb, fun H12 a10 s12 n10 r10 => ?_⟩
    have S12 := Same.trans S11 s12
    have wa := wa.same s12
    have wb := wb.same s12
    have r6 := r6.same s12
    have r7 := r7.same s12
    have r8 := r8.same s12
    have r9 := r9.same s12
    have L0 := s12 _ _ L0
    have M0 := M0.same s12
    refine ⟨(by show 5 ≤ sizeLine; decide), fun l1 m1 => ?_⟩
    have s13 := sNew (o := .lst [.ref a6, .ref a7, .ref a8, .ref a9, .ref a10]) (Same.refl H12) m1
    have A1 := upd_same (H := H12) (a := l1) (o := .lst [.ref a6, .ref a7, .ref a8, .ref a9, .ref a10])
    generalize upd H12 l1 (.lst [.ref a6, .ref a7, .ref a8, .ref a9, .ref a10]) = H13 at s13 A1 ⊢
    have S13 := Same.trans S12 s13
    have wa := wa.same s13
    have wb := wb.same s13
    have N1 : MadeAt H13 D 6 [a6, a7, a8, a9, a10] (G1 va vb) := ⟨r6.same s13, ⟨r7.same s13, ⟨r8.same s13, ⟨r9.same s13, ⟨r10.same s13, trivial⟩⟩⟩⟩⟩
    have L0 := s13 _ _ L0
    have M0 := M0.same s13
    refine ⟨c0, l1, _, _, rfl, rfl, L0, A1, (by show 11 ≤ sizeLine; decide), fun c1 m => ?_⟩
    have nc1 := fresh_same S13 m
    have s14 := sNew (o := .lst ([.ref a0, .ref a1, .ref a2, .ref a3, .ref a4, .ref a5] ++ [.ref a6, .ref a7, .ref a8, .ref a9, .ref a10])) (Same.refl H13) m
    have L1 := upd_same (H := H13) (a := c1) (o := .lst ([.ref a0, .ref a1, .ref a2, .ref a3, .ref a4, .ref a5] ++ [.ref a6, .ref a7, .ref a8, .ref a9, .ref a10]))
    generalize upd H13 c1 (.lst ([.ref a0, .ref a1, .ref a2, .ref a3, .ref a4, .ref a5] ++ [.ref a6, .ref a7, .ref a8, .ref a9, .ref a10])) = H14 at s14 L1 ⊢
    have S14 := Same.trans S13 s14
    have wa := wa.same s14
    have wb := wb.same s14
    have M1 : MadeAt H14 D 0 [a0, a1, a2, a3, a4, a5, a6, a7, a8, a9, a10] ((G0 va vb ++ G1 va vb)) := (M0.same s14).app (N1.same s14)
    have L1 : H14 c1 = some (.lst [.ref a0, .ref a1, .ref a2, .ref a3, .ref a4, .ref a5, .ref a6, .ref a7, .ref a8, .ref a9, .ref a10]) := L1
    refine ⟨_, rfl, ?_⟩
    refine ⟨vb, tb, rfl, wb, fun H15 a11 s15 n11 r11 => ?_⟩
    have S15 := Same.trans S14 s15
    have wa := wa.same s15
    have wb := wb.same s15
    have L1 := s15 _ _ L1
    have M1 := M1.same s15
    refine ⟨vb, tb, rfl, wb, fun H16 a12 s16 n12 r12 => ?_⟩
    have S16 := Same.trans S15 s16
    have wa := wa.same s16
    have wb := wb.same s16
    have r11 := r11.same s16
    have L1 := s16 _ _ L1
    have M1 := M1.same s16
    refine ⟨va, ta, rfl, wa, fun H17 a13 s17 n13 r13 => ?_⟩
    have S17 := Same.trans S16 s17
    have wa := wa.same s17
    have wb := wb.same s17
    have r11 := r11.same s17
    have r12 := r12.same s17
    have L1 := s17 _ _ L1
    have M1 := M1.same s17
    refine ⟨vb, tb, rfl, wb, fun H18 a14 s18 n14 r14 => ?_⟩
    have S18 := Same.trans S17 s18
    have wa := wa.same s18
    have wb := wb.same s18
    have r11 := r11.same s18
    have r12 := r12.same s18
    have r13 := r13.same s18
    have L1 := s18 _ _ L1
    have M1 := M1.same s18
    refine ⟨va, ta, rfl, wa, fun H19 a15 s19 n15 r15 => ?_⟩
    have S19 := Same.trans S18 s19
    have wa := wa.same s19
    have wb := wb.same s19
    have r11 := r11.same s19
    have r12 := r12.same s19
    have r13 := r13.same s19
    have r14 := r14.same s19
    have L1 := s19 _ _ L1
    have M1 := M1.same s19
    refine ⟨(by show 5 ≤ sizeLine; decide), fun l2 m2 => ?_⟩
    have s20 := sNew (o := .lst [.ref a11, .ref a12, .ref a13, .ref a14, .ref a15]) (Same.refl H19) m2
    have A2 := upd_same (H := H19) (a := l2) (o := .lst [.ref a11, .ref a12, .ref a13, .ref a14, .ref a15])
    generalize upd H19 l2 (.lst [.ref a11, .ref a12, .ref a13, .ref a14, .ref a15]) = H20 at s20 A2 ⊢
    have S20 := Same.trans S19 s20
    have wa := wa.same s20
    have wb := wb.same s20
    have N2 : MadeAt H20 D 11 [a11, a12, a13, a14, a15] (G2 va vb) := ⟨r11.same s20, ⟨r12.same s20, ⟨r13.same s20, ⟨r14.same s20, ⟨r15.same s20, trivial⟩⟩⟩⟩⟩
    have L1 := s20 _ _ L1
    have M1 := M1.same s20
    refine ⟨c1, l2, _, _, rfl, rfl, L1, A2, (by show 16 ≤ sizeLine; decide), fun c2 m => ?_⟩
    have nc2 := fresh_same S20 m
    have s21 := sNew (o := .lst ([.ref a0, .ref a1, .ref a2, .ref a3, .ref a4, .ref a5, .ref a6, .ref a7, .ref a8, .ref a9, .ref a10] ++ [.ref a11, .ref a12, .ref a13, .ref a14, .ref a15])) (Same.refl H20) m
    have L2 := upd_same (H := H20) (a := c2) (o := .lst ([.ref a0, .ref a1, .ref a2, .ref a3, .ref a4, .ref a5, .ref a6, .ref a7, .ref a8, .ref a9, .ref a10] ++ [.ref a11, .ref a12, .ref a13, .ref a14, .ref a15]))
    generalize upd H20 c2 (.lst ([.ref a0, .ref a1, .ref a2, .ref a3, .ref a4, .ref a5, .ref a6, .ref a7, .ref a8, .ref a9, .ref a10] ++ [.ref a11, .ref a12, .ref a13, .ref a14, .ref a15])) = H21 at s21 L2 ⊢
    have S21 := Same.trans S20 s21
    have wa := wa.same s21
    have wb := wb.same s21
    have M2 : MadeAt H21 D 0 [a0, a1, a2, a3, a4, a5, a6, a7, a8, a9, a10, a11, a12, a13, a14, a15] (((G0 va vb ++ G1 va vb) ++ G2 va vb)) := (M1.same s21).app (N2.same s21)
    have L2 : H21 c2 = some (.lst [.ref a0, .ref a1, .ref a2, .ref a3, .ref a4, .ref a5, .ref a6, .ref a7, .ref a8, .ref a9, .ref a10, .ref a11, .ref a12, .ref a13, .ref a14, .ref a15]) := L2
    refine ⟨_, rfl, ?_⟩
    refine ⟨vb, tb, rfl, wb, fun H22 a16 s22 n16 r16 => ?_⟩
    have S22 := Same.trans S21 s22
    have wa := wa.same s22
    have wb := wb.same s22
    have L2 := s22 _ _ L2
    have M2 := M2.same s22
    refine ⟨va, ta, rfl, wa, fun H23 a17 s23 n17 r17 => ?_⟩
    have S23 := Same.trans S22 s23
    have wa := wa.same s23
    have wb := wb.same s23
    have r16 := r16.same s23
    have L2 := s23 _ _ L2
    have M2 := M2.same s23
    refine ⟨va, ta, rfl, wa, fun H24 a18 s24 n18 r18 => ?_⟩
    have S24 := Same.trans S23 s24
    have wa := wa.same s24
    have wb := wb.same s24
    have r16 := r16.same s24
    have r17 := r17.same s24
    have L2 := s24 _ _ L2
    have M2 := M2.same s24
    refine ⟨vb, tb, rfl, wb, fun H25 a19 s25 n19 r19 => ?_⟩
    have S25 := Same.trans S24 s25
    have wa := wa.same s25
    have wb := wb.same s25
    have r16 := r16.same s25
    have r17 := r17.same s25
    have r18 := r18.same s25
    have L2 := s25 _ _ L2
    have M2 := M2.same s25
    refine ⟨va, ta, rfl, wa, fun H26 a20 s26 n20 r20 => ?_⟩
    have S26 := Same.trans S25 s26
    have wa := wa.same s26
    have wb := wb.same s26
    have r16 := r16.same s26
    have r17 := r17.same s26
    have r18 := r18.same s26
    have r19 := r19.same s26
    have L2 := s26 _ _ L2
    have M2 := M2.same s26
    refine ⟨(by show 5 ≤ sizeLine; decide), fun l3 m3 => ?_⟩
    have s27 := sNew (o := .lst [.ref a16, .ref a17, .ref a18, .ref a19, .ref a20]) (Same.refl H26) m3
    have A3 := upd_same (H := H26) (a := l3) (o := .lst [.ref a16, .ref a17, .ref a18, .ref a19, .ref a20])
    generalize upd H26 l3 (.lst [.ref a16, .ref a17, .ref a18, .ref a19, .ref a20]) = H27 at s27 A3 ⊢
    have S27 := Same.trans S26 s27
    have wa := wa.same s27
    have wb := wb.same s27
    have N3 : MadeAt H27 D 16 [a16, a17, a18, a19, a20] (G3 va vb) := ⟨r16.same s27, ⟨r17.same s27, ⟨r18.same s27, ⟨r19.same s27, ⟨r20.same s27, trivial⟩⟩⟩⟩⟩
    have L2 := s27 _ _ L2
    have M2 := M2.same s27
    refine ⟨c2, l3, _, _, rfl, rfl, L2, A3, (by show 21 ≤ sizeLine; decide), fun c3 m => ?_⟩
    have nc3 := fresh_same S27 m
    have s28 := sNew (o := .lst ([.ref a0, .ref a1, .ref a2, .ref a3, .ref a4, .ref a5, .ref a6, .ref a7, .ref a8, .ref a9, .ref a10, .ref a11, .ref a12, .ref a13, .ref a14, .ref a15] ++ [.ref a16, .ref a17, .ref a18, .ref a19, .ref a20])) (Same.refl H27) m
    have L3 := upd_same (H := H27) (a := c3) (o := .lst ([.ref a0, .ref a1, .ref a2, .ref a3, .ref a4, .ref a5, .ref a6, .ref a7, .ref a8, .ref a9, .ref a10, .ref a11, .ref a12, .ref a13, .ref a14, .ref a15] ++ [.ref a16, .ref a17, .ref a18, .ref a19, .ref a20]))
    generalize upd H27 c3 (.lst ([.ref a0, .ref a1, .ref a2, .ref a3, .ref a4, .ref a5, .ref a6, .ref a7, .ref a8, .ref a9, .ref a10, .ref a11, .ref a12, .ref a13, .ref a14, .ref a15] ++ [.ref a16, .ref a17, .ref a18, .ref a19, .ref a20])) = H28 at s28 L3 ⊢
    have S28 := Same.trans S27 s28
    have wa := wa.same s28
    have wb := wb.same s28
    have M3 : MadeAt H28 D 0 [a0, a1, a2, a3, a4, a5, a6, a7, a8, a9, a10, a11, a12, a13, a14, a15, a16, a17, a18, a19, a20] ((((G0 va vb ++ G1 va vb) ++ G2 va vb) ++ G3 va vb)) := (M2.same s28).app (N3.same s28)
    have L3 : H28 c3 = some (.lst [.ref a0, .ref a1, .ref a2, .ref a3, .ref a4, .ref a5, .ref a6, .ref a7, .ref a8, .ref a9, .ref a10, .ref a11, .ref a12, .ref a13, .ref a14, .ref a15, .ref a16, .ref a17, .ref a18, .ref a19, .ref a20]) := L3
    refine ⟨_, rfl, ?_⟩
    refine ⟨va, ta, rfl, wa, fun H29 a21 s29 n21 r21 => ?_⟩
    have S29 := Same.trans S28 s29
    have wa := wa.same s29
    have wb := wb.same s29
    have L3 := s29 _ _ L3
    have M3 := M3.same s29
    refine ⟨va, ta, rfl, wa, fun H30 a22 s30 n22 r22 => ?_⟩
    have S30 := Same.trans S29 s30
    have wa := wa.same s30
    have wb := wb.same s30
    have r21 := r21.same s30
    have L3 := s30 _ _ L3
    have M3 := M3.same s30
    refine ⟨va, ta, rfl, wa, fun H31 a23 s31 n23 r23 => ?_⟩
    have S31 := Same.trans S30 s31
    have wa := wa.same s31
    have wb := wb.same s31
    have r21 := r21.same s31
    have r22 := r22.same s31
    have L3 := s31 _ _ L3
    have M3 := M3.same s31
    refine ⟨va, ta, rfl, wa, fun H32 a24 s32 n24 r24 => ?_⟩
    have S32 := Same.trans S31 s32
    have wa := wa.same s32
    have wb := wb.same s32
    have r21 := r21.same s32
    have r22 := r22.same s32
    have r23 := r23.same s32
    have L3 := s32 _ _ L3
    have M3 := M3.same s32
    refine ⟨va, ta, rfl, wa, fun H33 a25 s33 n25 r25 => ?_⟩
    have S33 := Same.trans S32 s33
    have wa := wa.same s33
    have wb := wb.same s33
    have r21 := r21.same s33
    have r22 := r22.same s33
    have r23 := r23.same s33
    have r24 := r24.same s33
    have L3 := s33 _ _ L3
    have M3 := M3.same s33
    refine ⟨(by show 5 ≤ sizeLine; decide), fun l4 m4 => ?_⟩
    have s34 := sNew (o := .lst [.ref a21, .ref a22, .ref a23, .ref a24, .ref a25]) (Same.refl H33) m4
    have A4 := upd_same (H := H33) (a := l4) (o := .lst [.ref a21, .ref a22, .ref a23, .ref a24, .ref a25])
    generalize upd H33 l4 (.lst [.ref a21, .ref a22, .ref a23, .ref a24, .ref a25]) = H34 at s34 A4 ⊢
    have S34 := Same.trans S33 s34
    have wa := wa.same s34
    have wb := wb.same s34
    have N4 : MadeAt H34 D 21 [a21, a22, a23, a24, a25] (G4 va vb) := ⟨r21.same s34, ⟨r22.same s34, ⟨r23.same s34, ⟨r24.same s34, ⟨r25.same s34, trivial⟩⟩⟩⟩⟩
    have L3 := s34 _ _ L3
    have M3 := M3.same s34
    refine ⟨c3, l4, _, _, rfl, rfl, L3, A4, (by show 26 ≤ sizeLine; decide), fun c4 m => ?_⟩
    have nc4 := fresh_same S34 m
    have s35 := sNew (o := .lst ([.ref a0, .ref a1, .ref a2, .ref a3, .ref a4, .ref a5, .ref a6, .ref a7, .ref a8, .ref a9, .ref a10, .ref a11, .ref a12, .ref a13, .ref a14, .ref a15, .ref a16, .ref a17, .ref a18, .ref a19, .ref a20] ++ [.ref a21, .ref a22, .ref a23, .ref a24, .ref a25])) (Same.refl H34) m
    have L4 := upd_same (H := H34) (a := c4) (o := .lst ([.ref a0, .ref a1, .ref a2, .ref a3, .ref a4, .ref a5, .ref a6, .ref a7, .ref a8, .ref a9, .ref a10, .ref a11, .ref a12, .ref a13, .ref a14, .ref a15, .ref a16, .ref a17, .ref a18, .ref a19, .ref a20] ++ [.ref a21, .ref a22, .ref a23, .ref a24, .ref a25]))
    generalize upd H34 c4 (.lst ([.ref a0, .ref a1, .ref a2, .ref a3, .ref a4, .ref a5, .ref a6, .ref a7, .ref a8, .ref a9, .ref a10, .ref a11, .ref a12, .ref a13, .ref a14, .ref a15, .ref a16, .ref a17, .ref a18, .ref a19, .ref a20] ++ [.ref a21, .ref a22, .ref a23, .ref a24, .ref a25])) = H35 at s35 L4 ⊢
    have S35 := Same.trans S34 s35
    have wa := wa.same s35
    have wb := wb.same s35
    have M4 : MadeAt H35 D 0 [a0, a1, a2, a3, a4, a5, a6, a7, a8, a9, a10, a11, a12, a13, a14, a15, a16, a17, a18, a19, a20, a21, a22, a23, a24, a25] (((((G0 va vb ++ G1 va vb) ++ G2 va vb) ++ G3 va vb) ++ G4 va vb)) := (M3.same s35).app (N4.same s35)
    have L4 : H35 c4 = some (.lst [.ref a0, .ref a1, .ref a2, .ref a3, .ref a4, .ref a5, .ref a6, .ref a7, .ref a8, .ref a9, .ref a10, .ref a11, .ref a12, .ref a13, .ref a14, .ref a15, .ref a16, .ref a17, .ref a18, .ref a19, .ref a20, .ref a21, .ref a22, .ref a23, .ref a24, .ref a25]) := L4
    refine ⟨_, rfl, ?_⟩
    refine ⟨vb, tb, rfl, wb, fun H36 a26 s36 n26 r26 => ?_⟩
    have S36 := Same.trans S35 s36
    have wa := wa.same s36
    have wb := wb.same s36
    have L4 := s36 _ _ L4
    have M4 := M4.same s36
    refine ⟨vb, va, tb, ta, rfl, rfl, wb, wa, fun H37 a27 s37 n27 r27 => ?_⟩
    have S37 := Same.trans S36 s37
    have wa := wa.same s37
    have wb := wb.same s37
    have r26 := r26.same s37
    have L4 := s37 _ _ L4
    have M4 := M4.same s37
    refine ⟨vb, tb, rfl, wb, fun H38 a28 s38 n28 r28 => ?_⟩
    have S38 := Same.trans S37 s38
    have wa := wa.same s38
    have wb := wb.same s38
    have r26 := r26.same s38
    have r27 := r27.same s38
    have L4 := s38 _ _ L4
    have M4 := M4.same s38
    refine ⟨vb, tb, rfl, wb, fun H39 a29 s39 n29 r29 => ?_⟩
    have S39 := Same.trans S38 s39
    have wa := wa.same s39
    have wb := wb.same s39
    have r26 := r26.same s39
    have r27 := r27.same s39
    have r28 := r28.same s39
    have L4 := s39 _ _ L4
    have M4 := M4.same s39
    refine ⟨va, ta, rfl, wa, fun H40 a30 s40 n30 r30 => ?_⟩
    have S40 := Same.trans S39 s40
    have wa := wa.same s40
    have wb := wb.same s40
    have r26 := r26.same s40
    have r27 := r27.same s40
    have r28 := r28.same s40
    have r29 := r29.same s40
    have L4 := s40 _ _ L4
    have M4 := M4.same s40
    refine ⟨(by show 5 ≤ sizeLine; decide), fun l5 m5 => ?_⟩
    have s41 := sNew (o := .lst [.ref a26, .ref a27, .ref a28, .ref a29, .ref a30]) (Same.refl H40) m5
    have A5 := upd_same (H := H40) (a := l5) (o := .lst [.ref a26, .ref a27, .ref a28, .ref a29, .ref a30])
    generalize upd H40 l5 (.lst [.ref a26, .ref a27, .ref a28, .ref a29, .ref a30]) = H41 at s41 A5 ⊢
    have S41 := Same.trans S40 s41
    have wa := wa.same s41
    have wb := wb.same s41
    have N5 : MadeAt H41 D 26 [a26, a27, a28, a29, a30] (G5 va vb) := ⟨r26.same s41, ⟨r27.same s41, ⟨r28.same s41, ⟨r29.same s41, ⟨r30.same s41, trivial⟩⟩⟩⟩⟩
    have L4 := s41 _ _ L4
    have M4 := M4.same s41
    refine ⟨c4, l5, _, _, rfl, rfl, L4, A5, (by show 31 ≤ sizeLine; decide), fun c5 m => ?_⟩
    have nc5 := fresh_same S41 m
    have s42 := sNew (o := .lst ([.ref a0, .ref a1, .ref a2, .ref a3, .ref a4, .ref a5, .ref a6, .ref a7, .ref a8, .ref a9, .ref a10, .ref a11, .ref a12, .ref a13, .ref a14, .ref a15, .ref a16, .ref a17, .ref a18, .ref a19, .ref a20, .ref a21, .ref a22, .ref a23, .ref a24, .ref a25] ++ [.ref a26, .ref a27, .ref a28, .ref a29, .ref a30])) (Same.refl H41) m
    have L5 := upd_same (H := H41) (a := c5) (o := .lst ([.ref a0, .ref a1, .ref a2, .ref a3, .ref a4, .ref a5, .ref a6, .ref a7, .ref a8, .ref a9, .ref a10, .ref a11, .ref a12, .ref a13, .ref a14, .ref a15, .ref a16, .ref a17, .ref a18, .ref a19, .ref a20, .ref a21, .ref a22, .ref a23, .ref a24, .ref a25] ++ [.ref a26, .ref a27, .ref a28, .ref a29, .ref a30]))
    generalize upd H41 c5 (.lst ([.ref a0, .ref a1, .ref a2, .ref a3, .ref a4, .ref a5, .ref a6, .ref a7, .ref a8, .ref a9, .ref a10, .ref a11, .ref a12, .ref a13, .ref a14, .ref a15, .ref a16, .ref a17, .ref a18, .ref a19, .ref a20, .ref a21, .ref a22, .ref a23, .ref a24, .ref a25] ++ [.ref a26, .ref a27, .ref a28, .ref a29, .ref a30])) = H42 at s42 L5 ⊢
    have S42 := Same.trans S41 s42
    have wa := wa.same s42
    have wb := wb.same s42
    have M5 : MadeAt H42 D 0 [a0, a1, a2, a3, a4, a5, a6, a7, a8, a9, a10, a11, a12, a13, a14, a15, a16, a17, a18, a19, a20, a21, a22, a23, a24, a25, a26, a27, a28, a29, a30] ((((((G0 va vb ++ G1 va vb) ++ G2 va vb) ++ G3 va vb) ++ G4 va vb) ++ G5 va vb)) := (M4.same s42).app (N5.same s42)
    have L5 : H42 c5 = some (.lst [.ref a0, .ref a1, .ref a2, .ref a3, .ref a4, .ref a5, .ref a6, .ref a7, .ref a8, .ref a9, .ref a10, .ref a11, .ref a12, .ref a13, .ref a14, .ref a15, .ref a16, .ref a17, .ref a18, .ref a19, .ref a20, .ref a21, .ref a22, .ref a23, .ref a24, .ref a25, .ref a26, .ref a27, .ref a28, .ref a29, .ref a30]) := L5
    refine ⟨_, rfl, ?_⟩
    refine ⟨va, ta, rfl, wa, fun H43 a31 s43 n31 r31 => ?_⟩
    have S43 := Same.trans S42 s43
    have wa := wa.same s43
    have wb := wb.same s43
    have L5 := s43 _ _ L5
    have M5 := M5.same s43
    refine ⟨va, ta, rfl, wa, fun H44 a32 s44 n32 r32 => ?_⟩
    have S44 := Same.trans S43 s44
    have wa := wa.same s44
    have wb := wb.same s44
    have r31 := r31.same s44
    have L5 := s44 _ _ L5
    have M5 := M5.same s44
    refine ⟨vb, tb, rfl, wb, fun H45 a33 s45 n33 r33 => ?_⟩
    have S45 := Same.trans S44 s45
    have wa := wa.same s45
    have wb := wb.same s45
    have r31 := r31.same s45
    have r32 := r32.same s45
    have L5 := s45 _ _ L5
    have M5 := M5.same s45
    refine ⟨va, ta, rfl, wa, fun H46 a34 s46 n34 r34 => ?_⟩
    have S46 := Same.trans S45 s46
    have wa := wa.same s46
    have wb := wb.same s46
    have r31 := r31.same s46
    have r32 := r32.same s46
    have r33 := r33.same s46
    have L5 := s46 _ _ L5
    have M5 := M5.same s46
    refine ⟨va, ta, rfl, wa, fun H47 a35 s47 n35 r35 => ?_⟩
    have S47 := Same.trans S46 s47
    have wa := wa.same s47
    have wb := wb.same s47
    have r31 := r31.same s47
    have r32 := r32.same s47
    have r33 := r33.same s47
    have r34 := r34.same s47
    have L5 := s47 _ _ L5
    have M5 := M5.same s47
    refine ⟨va, ta, rfl, wa, fun H48 a36 s48 n36 r36 => ?_⟩
    have S48 := Same.trans S47 s48
    have wa := wa.same s48
    have wb := wb.same s48
    have r31 := r31.same s48
    have r32 := r32.same s48
    have r33 := r33.same s48
    have r34 := r34.same s48
    have r35 := r35.same s48
    have L5 := s48 _ _ L5
    have M5 := M5.same s48
    refine ⟨(by show 6 ≤ sizeLine; decide), fun l6 m6 => ?_⟩
    have s49 := sNew (o := .lst [.ref a31, .ref a32, .ref a33, .ref a34, .ref a35, .ref a36]) (Same.refl H48) m6
    have A6 := upd_same (H := H48) (a := l6) (o := .lst [.ref a31, .ref a32, .ref a33, .ref a34, .ref a35, .ref a36])
    generalize upd H48 l6 (.lst [.ref a31, .ref a32, .ref a33, .ref a34, .ref a35, .ref a36]) = H49 at s49 A6 ⊢
    have S49 := Same.trans S48 s49
    have wa := wa.same s49
    have wb := wb.same s49
    have N6 : MadeAt H49 D 31 [a31, a32, a33, a34, a35, a36] (G6 va vb) := ⟨r31.same s49, ⟨r32.same s49, ⟨r33.same s49, ⟨r34.same s49, ⟨r35.same s49, ⟨r36.same s49, trivial⟩⟩⟩⟩⟩⟩
    have L5 := s49 _ _ L5
    have M5 := M5.same s49
    refine ⟨c5, l6, _, _, rfl, rfl, L5, A6, (by show 37 ≤ sizeLine; decide), fun c6 m => ?_⟩
    have nc6 := fresh_same S49 m
    have s50 := sNew (o := .lst ([.ref a0, .ref a1, .ref a2, .ref a3, .ref a4, .ref a5, .ref a6, .ref a7, .ref a8, .ref a9, .ref a10, .ref a11, .ref a12, .ref a13, .ref a14, .ref a15, .ref a16, .ref a17, .ref a18, .ref a19, .ref a20, .ref a21, .ref a22, .ref a23, .ref a24, .ref a25, .ref a26, .ref a27, .ref a28, .ref a29, .ref a30] ++ [.ref a31, .ref a32, .ref a33, .ref a34, .ref a35, .ref a36])) (Same.refl H49) m
    have L6 := upd_same (H := H49) (a := c6) (o := .lst ([.ref a0, .ref a1, .ref a2, .ref a3, .ref a4, .ref a5, .ref a6, .ref a7, .ref a8, .ref a9, .ref a10, .ref a11, .ref a12, .ref a13, .ref a14, .ref a15, .ref a16, .ref a17, .ref a18, .ref a19, .ref a20, .ref a21, .ref a22, .ref a23, .ref a24, .ref a25, .ref a26, .ref a27, .ref a28, .ref a29, .ref a30] ++ [.ref a31, .ref a32, .ref a33, .ref a34, .ref a35, .ref a36]))
    generalize upd H49 c6 (.lst ([.ref a0, .ref a1, .ref a2, .ref a3, .ref a4, .ref a5, .ref a6, .ref a7, .ref a8, .ref a9, .ref a10, .ref a11, .ref a12, .ref a13, .ref a14, .ref a15, .ref a16, .ref a17, .ref a18, .ref a19, .ref a20, .ref a21, .ref a22, .ref a23, .ref a24, .ref a25, .ref a26, .ref a27, .ref a28, .ref a29, .ref a30] ++ [.ref a31, .ref a32, .ref a33, .ref a34, .ref a35, .ref a36])) = H50 at s50 L6 ⊢
    have S50 := Same.trans S49 s50
    have wa := wa.same s50
    have wb := wb.same s50
    have M6 : MadeAt H50 D 0 [a0, a1, a2, a3, a4, a5, a6, a7, a8, a9, a10, a11, a12, a13, a14, a15, a16, a17, a18, a19, a20, a21, a22, a23, a24, a25, a26, a27, a28, a29, a30, a31, a32, a33, a34, a35, a36] (((((((G0 va vb ++ G1 va vb) ++ G2 va vb) ++ G3 va vb) ++ G4 va vb) ++ G5 va vb) ++ G6 va vb)) := (M5.same s50).app (N6.same s50)
    have L6 : H50 c6 = some (.lst [.ref a0, .ref a1, .ref a2, .ref a3, .ref a4, .ref a5, .ref a6, .ref a7, .ref a8, .ref a9, .ref a10, .ref a11, .ref a12, .ref a13, .ref a14, .ref a15, .ref a16, .ref a17, .ref a18, .ref a19, .ref a20, .ref a21, .ref a22, .ref a23, .ref a24, .ref a25, .ref a26, .ref a27, .ref a28, .ref a29, .ref a30, .ref a31, .ref a32, .ref a33, .ref a34, .ref a35, .ref a36]) := L6
    refine ⟨_, rfl, ?_⟩
    refine ⟨va, ta, rfl, wa, fun H51 a37 s51 n37 r37 => ?_⟩
    have S51 := Same.trans S50 s51
    have wa := wa.same s51
    have wb := wb.same s51
    have L6 := s51 _ _ L6
    have M6 := M6.same s51
    refine fun H52 a38 s52 n38 r38 => ?_
    have S52 := Same.trans S51 s52
    have wa := wa.same s52
    have wb := wb.same s52
    have r37 := r37.same s52
    have L6 := s52 _ _ L6
    have M6 := M6.same s52
    refine ⟨va, vb, ta, tb, rfl, rfl, wa, wb, fun H53 a39 s53 n39 r39 => ?_⟩
    have S53 := Same.trans S52 s53
    have wa := wa.same s53
    have wb := wb.same s53
    have r37 := r37.same s53
    have r38 := r38.same s53
    have L6 := s53 _ _ L6
    have M6 := M6.same s53
    refine ⟨va, ta, rfl, wa, fun H54 a40 s54 n40 r40 => ?_⟩
    have S54 := Same.trans S53 s54
    have wa := wa.same s54
    have wb := wb.same s54
    have r37 := r37.same s54
    have r38 := r38.same s54
    have r39 := r39.same s54
    have L6 := s54 _ _ L6
    have M6 := M6.same s54
    refine ⟨va, ta, rfl, wa, fun H55 a41 s55 n41 r41 => ?_⟩
    have S55 := Same.trans S54 s55
    have wa := wa.same s55
    have wb := wb.same s55
    have r37 := r37.same s55
    have r38 := r38.same s55
    have r39 := r39.same s55
    have r40 := r40.same s55
    have L6 := s55 _ _ L6
    have M6 := M6.same s55
    refine ⟨va, ta, rfl, wa, fun H56 a42 s56 n42 r42 => ?_⟩
    have S56 := Same.trans S55 s56
    have wa := wa.same s56
    have wb := wb.same s56
    have r37 := r37.same s56
    have r38 := r38.same s56
    have r39 := r39.same s56
    have r40 := r40.same s56
    have r41 := r41.same s56
    have L6 := s56 _ _ L6
    have M6 := M6.same s56
    refine ⟨(by show 6 ≤ sizeLine; decide), fun l7 m7 => ?_⟩
    have s57 := sNew (o := .lst [.ref a37, .ref a38, .ref a39, .ref a40, .ref a41, .ref a42]) (Same.refl H56) m7
    have A7 := upd_same (H := H56) (a := l7) (o := .lst [.ref a37, .ref a38, .ref a39, .ref a40, .ref a41, .ref a42])
    generalize upd H56 l7 (.lst [.ref a37, .ref a38, .ref a39, .ref a40, .ref a41, .ref a42]) = H57 at s57 A7 ⊢
    have S57 := Same.trans S56 s57
    have wa := wa.same s57
    have wb := wb.same s57
    have N7 : MadeAt H57 D 37 [a37, a38, a39, a40, a41, a42] (G7 va vb) := ⟨r37.same s57, ⟨r38.same s57, ⟨r39.same s57, ⟨r40.same s57, ⟨r41.same s57, ⟨r42.same s57, trivial⟩⟩⟩⟩⟩⟩
    have L6 := s57 _ _ L6
    have M6 := M6.same s57
    refine ⟨c6, l7, _, _, rfl, rfl, L6, A7, (by show 43 ≤ sizeLine; decide), fun c7 m => ?_⟩
    have nc7 := fresh_same S57 m
    have s58 := sNew (o := .lst ([.ref a0, .ref a1, .ref a2, .ref a3, .ref a4, .ref a5, .ref a6, .ref a7, .ref a8, .ref a9, .ref a10, .ref a11, .ref a12, .ref a13, .ref a14, .ref a15, .ref a16, .ref a17, .ref a18, .ref a19, .ref a20, .ref a21, .ref a22, .ref a23, .ref a24, .ref a25, .ref a26, .ref a27, .ref a28, .ref a29, .ref a30, .ref a31, .ref a32, .ref a33, .ref a34, .ref a35, .ref a36] ++ [.ref a37, .ref a38, .ref a39, .ref a40, .ref a41, .ref a42])) (Same.refl H57) m
    have L7 := upd_same (H := H57) (a := c7) (o := .lst ([.ref a0, .ref a1, .ref a2, .ref a3, .ref a4, .ref a5, .ref a6, .ref a7, .ref a8, .ref a9, .ref a10, .ref a11, .ref a12, .ref a13, .ref a14, .ref a15, .ref a16, .ref a17, .ref a18, .ref a19, .ref a20, .ref a21, .ref a22, .ref a23, .ref a24, .ref a25, .ref a26, .ref a27, .ref a28, .ref a29, .ref a30, .ref a31, .ref a32, .ref a33, .ref a34, .ref a35, .ref a36] ++ [.ref a37, .ref a38, .ref a39, .ref a40, .ref a41, .ref a42]))
    generalize upd H57 c7 (.lst ([.ref a0, .ref a1, .ref a2, .ref a3, .ref a4, .ref a5, .ref a6, .ref a7, .ref a8, .ref a9, .ref a10, .ref a11, .ref a12, .ref a13, .ref a14, .ref a15, .ref a16, .ref a17, .ref a18, .ref a19, .ref a20, .ref a21, .ref a22, .ref a23, .ref a24, .ref a25, .ref a26, .ref a27, .ref a28, .ref a29, .ref a30, .ref a31, .ref a32, .ref a33, .ref a34, .ref a35, .ref a36] ++ [.ref a37, .ref a38, .ref a39, .ref a40, .ref a41, .ref a42])) = H58 at s58 L7 ⊢
    have S58 := Same.trans S57 s58
    have wa := wa.same s58
    have wb := wb.same s58
    have M7 : MadeAt H58 D 0 [a0, a1, a2, a3, a4, a5, a6, a7, a8, a9, a10, a11, a12, a13, a14, a15, a16, a17, a18, a19, a20, a21, a22, a23, a24, a25, a26, a27, a28, a29, a30, a31, a32, a33, a34, a35, a36, a37, a38, a39, a40, a41, a42] ((((((((G0 va vb ++ G1 va vb) ++ G2 va vb) ++ G3 va vb) ++ G4 va vb) ++ G5 va vb) ++ G6 va vb) ++ G7 va vb)) := (M6.same s58).app (N7.same s58)
    have L7 : H58 c7 = some (.lst [.ref a0, .ref a1, .ref a2, .ref a3, .ref a4, .ref a5, .ref a6, .ref a7, .ref a8, .ref a9, .ref a10, .ref a11, .ref a12, .ref a13, .ref a14, .ref a15, .ref a16, .ref a17, .ref a18, .ref a19, .ref a20, .ref a21, .ref a22, .ref a23, .ref a24, .ref a25, .ref a26, .ref a27, .ref a28, .ref a29, .ref a30, .ref a31, .ref a32, .ref a33, .ref a34, .ref a35, .ref a36, .ref a37, .ref a38, .ref a39, .ref a40, .ref a41, .ref a42]) := L7
    refine ⟨_, rfl, ?_⟩
    refine fun H59 a43 s59 n43 r43 => ?_
    have S59 := Same.trans S58 s59
    have wa := wa.same s59
    have wb := wb.same s59
    have L7 := s59 _ _ L7
    have M7 := M7.same s59
    refine fun H60 a44 s60 n44 r44 => ?_
    have S60 := Same.trans S59 s60
    have wa := wa.same s60
    have wb := wb.same s60
    have r43 := r43.same s60
    have L7 := s60 _ _ L7
    have M7 := M7.same s60
    refine ⟨(by show 2 ≤ sizeLine; decide), fun l8 m8 => ?_⟩
    have s61 := sNew (o := .lst [.ref a43, .ref a44]) (Same.refl H60) m8
    have A8 := upd_same (H := H60) (a := l8) (o := .lst [.ref a43, .ref a44])
    generalize upd H60 l8 (.lst [.ref a43, .ref a44]) = H61 at s61 A8 ⊢
    have S61 := Same.trans S60 s61
    have wa := wa.same s61
    have wb := wb.same s61
    have N8 : MadeAt H61 D 43 [a43, a44] (G8 va vb) := ⟨r43.same s61, ⟨r44.same s61, trivial⟩⟩
    have L7 := s61 _ _ L7
    have M7 := M7.same s61
    refine ⟨c7, l8, _, _, rfl, rfl, L7, A8, (by show 45 ≤ sizeLine; decide), fun c8 m => ?_⟩
    have nc8 := fresh_same S61 m
    have s62 := sNew (o := .lst ([.ref a0, .ref a1, .ref a2, .ref a3, .ref a4, .ref a5, .ref a6, .ref a7, .ref a8, .ref a9, .ref a10, .ref a11, .ref a12, .ref a13, .ref a14, .ref a15, .ref a16, .ref a17, .ref a18, .ref a19, .ref a20, .ref a21, .ref a22, .ref a23, .ref a24, .ref a25, .ref a26, .ref a27, .ref a28, .ref a29, .ref a30, .ref a31, .ref a32, .ref a33, .ref a34, .ref a35, .ref a36, .ref a37, .ref a38, .ref a39, .ref a40, .ref a41, .ref a42] ++ [.ref a43, .ref a44])) (Same.refl H61) m
    have L8 := upd_same (H := H61) (a := c8) (o := .lst ([.ref a0, .ref a1, .ref a2, .ref a3, .ref a4, .ref a5, .ref a6, .ref a7, .ref a8, .ref a9, .ref a10, .ref a11, .ref a12, .ref a13, .ref a14, .ref a15, .ref a16, .ref a17, .ref a18, .ref a19, .ref a20, .ref a21, .ref a22, .ref a23, .ref a24, .ref a25, .ref a26, .ref a27, .ref a28, .ref a29, .ref a30, .ref a31, .ref a32, .ref a33, .ref a34, .ref a35, .ref a36, .ref a37, .ref a38, .ref a39, .ref a40, .ref a41, .ref a42] ++ [.ref a43, .ref a44]))
    generalize upd H61 c8 (.lst ([.ref a0, .ref a1, .ref a2, .ref a3, .ref a4, .ref a5, .ref a6, .ref a7, .ref a8, .ref a9, .ref a10, .ref a11, .ref a12, .ref a13, .ref a14, .ref a15, .ref a16, .ref a17, .ref a18, .ref a19, .ref a20, .ref a21, .ref a22, .ref a23, .ref a24, .ref a25, .ref a26, .ref a27, .ref a28, .ref a29, .ref a30, .ref a31, .ref a32, .ref a33, .ref a34, .ref a35, .ref a36, .ref a37, .ref a38, .ref a39, .ref a40, .ref a41, .ref a42] ++ [.ref a43, .ref a44])) = H62 at s62 L8 ⊢
    have S62 := Same.trans S61 s62
    have wa := wa.same s62
    have wb := wb.same s62
    have M8 : MadeAt H62 D 0 [a0, a1, a2, a3, a4, a5, a6, a7, a8, a9, a10, a11, a12, a13, a14, a15, a16, a17, a18, a19, a20, a21, a22, a23, a24, a25, a26, a27, a28, a29, a30, a31, a32, a33, a34, a35, a36, a37, a38, a39, a40, a41, a42, a43, a44] (((((((((G0 va vb ++ G1 va vb) ++ G2 va vb) ++ G3 va vb) ++ G4 va vb) ++ G5 va vb) ++ G6 va vb) ++ G7 va vb) ++ G8 va vb)) := (M7.same s62).app (N8.same s62)
    exact q _ c8 [a0, a1, a2, a3, a4, a5, a6, a7, a8, a9, a10, a11, a12, a13, a14, a15, a16, a17, a18, a19, a20, a21, a22, a23, a24, a25, a26, a27, a28, a29, a30, a31, a32, a33, a34, a35, a36, a37, a38, a39, a40, a41, a42, a43, a44] S62 nc8 L8 M8
end
end S14

namespace S14
open PySem L2 GM
section
variable {X : Cx} {nm f f2 : Str} {D : Addr} {i j : Nat} {p pos p1 p2 : Pos}
/-- C(f=x).f -/
def tK (i : Nat) : TE := fun σ H Q => ∃ (v : V) (t : Str), σ[i]? = some (some v) ∧ Vl H v t ∧ ∀ H', Same H H' → Q v H'
theorem pe_ka1 {x : Str} {kws : List Keyword} {pa : Pos} (Z : Er1 X.prog X.w X.K X.mg X.base nm f D) (xf : XfC X.K D) (quiet : X.A.guards = some []) (room : Room 4 X.A) (gl : Gl X nm) (hv : PE X (.Name x p1) (tVar i)) (args : PK X kws (tCons (tVar i) tNil))
    (named : (backToKw pos (keywordEach kws X.env)).all (·.1.isSome) = true := by rfl) (names : (backToKw pos (keywordEach kws X.env)).filterMap (·.1) = [f] := by rfl) (nd : (nm == ("__debug__" : Str)) = false := by decide)
    (pl : ((backTo pos (starEach [] X.env)).any (·.1) || (backToKw pos (keywordEach kws X.env)).any (·.1.isNone)) = false := by rfl) (hb : attributeBase (.Call (.Name nm p) [] kws pos) f X.env (eval (.Call (.Name nm p) [] kws pos) X.env) = eval (.Call (.Name nm p) [] kws pos) X.env := by rfl) :
    PE X (.Attribute (.Call (.Name nm p) [] kws pos) f pa) (tK i) := by
  refine PE.imp (pe_at mono_e1 (pe_k1 Z quiet room gl hv args named names nd pl) hb) fun σ H Q h => ?_
  obtain ⟨v, t, hσ, vl, q⟩ := h
  exact ⟨v, t, hσ, vl, fun H1 a s n e => ⟨a, D, _, v, rfl, xf, Z.no, e, by show List.lookup f [(f, v)] = some v; rw [lookup_put, if_pos rfl], q H1 s⟩⟩
/-- C(f2=y, f=x).f, .f2 -/
def tKa (i j : Nat) : TE := fun σ H Q => ∃ (v u : V) (t t2 : Str), σ[i]? = some (some v) ∧ σ[j]? = some (some u) ∧ Vl H v t ∧ Vl H u t2 ∧ ∀ H', Same H H' → Q v H'
def tKb (i j : Nat) : TE := fun σ H Q => ∃ (v u : V) (t t2 : Str), σ[i]? = some (some v) ∧ σ[j]? = some (some u) ∧ Vl H v t ∧ Vl H u t2 ∧ ∀ H', Same H H' → Q u H'
theorem pe_ka2 {kws : List Keyword} {pa : Pos} (Z : Er2 X.prog X.w X.K X.mg X.base nm f f2 D) (xf : XfC X.K D) (quiet : X.A.guards = some []) (room : Room 4 X.A) (gl : Gl X nm) (args : PK X kws (tCons (tVar j) (tCons (tVar i) tNil)))
    (named : (backToKw pos (keywordEach kws X.env)).all (·.1.isSome) = true := by rfl) (names : (backToKw pos (keywordEach kws X.env)).filterMap (·.1) = [f2, f] := by rfl) (nd : (nm == ("__debug__" : Str)) = false := by decide)
    (pl : ((backTo pos (starEach [] X.env)).any (·.1) || (backToKw pos (keywordEach kws X.env)).any (·.1.isNone)) = false := by rfl) (hb : attributeBase (.Call (.Name nm p) [] kws pos) f X.env (eval (.Call (.Name nm p) [] kws pos) X.env) = eval (.Call (.Name nm p) [] kws pos) X.env := by rfl) :
    PE X (.Attribute (.Call (.Name nm p) [] kws pos) f pa) (tKa i j) := by
  refine PE.imp (pe_at mono_e2 (pe_k2 Z quiet room gl args named names nd pl) hb) fun σ H Q h => ?_
  obtain ⟨v, u, t, t2, hσ, hσ2, vl, vl2, q⟩ := h
  exact ⟨v, u, t, t2, hσ, hσ2, vl, vl2, fun H1 a s n e => ⟨a, D, _, v, rfl, xf, Z.no, e, by rw [lookup_put, if_neg Z.ne, lookup_put, if_pos rfl], q H1 s⟩⟩
theorem pe_kb2 {kws : List Keyword} {pa : Pos} (Z : Er2 X.prog X.w X.K X.mg X.base nm f f2 D) (xf : XfC X.K D) (quiet : X.A.guards = some []) (room : Room 4 X.A) (gl : Gl X nm) (args : PK X kws (tCons (tVar j) (tCons (tVar i) tNil)))
    (named : (backToKw pos (keywordEach kws X.env)).all (·.1.isSome) = true := by rfl) (names : (backToKw pos (keywordEach kws X.env)).filterMap (·.1) = [f2, f] := by rfl) (nd : (nm == ("__debug__" : Str)) = false := by decide)
    (pl : ((backTo pos (starEach [] X.env)).any (·.1) || (backToKw pos (keywordEach kws X.env)).any (·.1.isNone)) = false := by rfl) (hb : attributeBase (.Call (.Name nm p) [] kws pos) f2 X.env (eval (.Call (.Name nm p) [] kws pos) X.env) = eval (.Call (.Name nm p) [] kws pos) X.env := by rfl) :
    PE X (.Attribute (.Call (.Name nm p) [] kws pos) f2 pa) (tKb i j) := by
  refine PE.imp (pe_at mono_e2 (pe_k2 Z quiet room gl args named names nd pl) hb) fun σ H Q h => ?_
  obtain ⟨v, u, t, t2, hσ, hσ2, vl, vl2, q⟩ := h
  exact ⟨v, u, t, t2, hσ, hσ2, vl, vl2, fun H1 a s n e => ⟨a, D, _, u, rfl, xf, Z.no2, e, by rw [lookup_put, if_pos rfl], q H1 s⟩⟩
end
theorem Errs.xf {P : Program} {w : World} {K : PySem.W.Frag} {mg : Str → Option Value} {base : Heap} {D S : Nat → Addr} (Z : Errs P w K mg base D S) {k : Nat} (h : k < 45) : XfC K (D k) := ⟨(Z.ec k h).hg, (Z.ec k h).hk, (Z.ec k h).hs, (Z.ec k h).hd⟩
section
variable {P : Program} {w : World} {K : PySem.W.Frag} {mg : Str → Option Value} {base : Heap} {D S : Nat → Addr}
def nmd (va vb : V) : List V := [va, va, va, va, va, va, va, vb, vb, va, va, vb, vb]
def spNamed : Sp := fun vs H Q _ => ∃ (va vb : V) (ta tb : Str), vs = [va, vb] ∧ Vl H va ta ∧ Vl H vb tb ∧ ∀ H' r, Same H H' → H r = none → H' r = some (.lst (nmd va vb)) → Q (.ref r) H'
abbrev nNamed : List Str := ["_law_a", "_law_b", "_law_found"]
theorem scNamed : FnScope nNamed ["_law_a", "_law_b"] (defScope sNamed) := ⟨rfl, rfl, rfl, by decide +kernel, rfl, by decide +kernel, by decide +kernel⟩
theorem ok_named {f : Addr} {fd : FuncData} (F : Fun K "_law_named" "_law_named" sNamed f fd) (Z : Errs P w K mg base D S) : FnG P w K mg base CX0 5 f fd ["_law_a", "_law_b"] spNamed := by
  refine F.okG scNamed (fun vs H Q E h => ?_) (fun cdv A outer s H vs Q E gd hr h => ?_)
  · obtain ⟨va, vb, ta, tb, rfl, _⟩ := h
    rfl
  · obtain ⟨va, vb, ta, tb, rfl, wa, wb, q⟩ := h
    refine ⟨_, (pss_cons (ps_set (i := 2) scNamed.nd rfl (Or.inl rfl) (pe_lst (pa_cons (pe_ka1 Z.e0 (Z.xf (k := 0) (by decide)) (deeper_guards.trans gd) hr (by rfl) (x := "_law_a") (p1 := ⟨0, 0, 0, 0⟩) (pv 0) (pk_cons (pv 0) pk_nil)) (pa_cons (pe_ka1 Z.e4 (Z.xf (k := 4) (by decide)) (deeper_guards.trans gd) hr (by rfl) (x := "_law_a") (p1 := ⟨0, 0, 0, 0⟩) (pv 0) (pk_cons (pv 0) pk_nil)) (pa_cons (pe_ka1 Z.e28 (Z.xf (k := 28) (by decide)) (deeper_guards.trans gd) hr (by rfl) (x := "_law_a") (p1 := ⟨0, 0, 0, 0⟩) (pv 0) (pk_cons (pv 0) pk_nil)) pa_nil)))))
      (pss_cons (ps_set (i := 2) scNamed.nd rfl (Or.inl rfl) (pe_op op_cat (pv 2) (pe_lst (pa_cons (pe_ka1 Z.e34 (Z.xf (k := 34) (by decide)) (deeper_guards.trans gd) hr (by rfl) (x := "_law_a") (p1 := ⟨0, 0, 0, 0⟩) (pv 0) (pk_cons (pv 0) pk_nil)) (pa_cons (pe_ka1 Z.e40 (Z.xf (k := 40) (by decide)) (deeper_guards.trans gd) hr (by rfl) (x := "_law_a") (p1 := ⟨0, 0, 0, 0⟩) (pv 0) (pk_cons (pv 0) pk_nil)) (pa_cons (pe_ka1 Z.e41 (Z.xf (k := 41) (by decide)) (deeper_guards.trans gd) hr (by rfl) (x := "_law_a") (p1 := ⟨0, 0, 0, 0⟩) (pv 0) (pk_cons (pv 0) pk_nil)) pa_nil))))))
      (pss_cons (ps_set (i := 2) scNamed.nd rfl (Or.inl rfl) (pe_op op_cat (pv 2) (pe_lst (pa_cons (pe_kb2 Z.e8 (Z.xf (k := 8) (by decide)) (deeper_guards.trans gd) hr (by rfl) (pk_cons (pv 0) (pk_cons (pv 1) pk_nil))) (pa_cons (pe_ka2 Z.e8 (Z.xf (k := 8) (by decide)) (deeper_guards.trans gd) hr (by rfl) (pk_cons (pv 0) (pk_cons (pv 1) pk_nil))) pa_nil)))))
      (pss_cons (ps_set (i := 2) scNamed.nd rfl (Or.inl rfl) (pe_op op_cat (pv 2) (pe_lst (pa_cons (pe_kb2 Z.e27 (Z.xf (k := 27) (by decide)) (deeper_guards.trans gd) hr (by rfl) (pk_cons (pv 1) (pk_cons (pv 0) pk_nil))) (pa_cons (pe_ka2 Z.e27 (Z.xf (k := 27) (by decide)) (deeper_guards.trans gd) hr (by rfl) (pk_cons (pv 1) (pk_cons (pv 0) pk_nil))) pa_nil)))))
      (pss_one (ps_ret (pe_op op_cat (pv 2) (pe_lst (pa_cons (pe_kb2 Z.e39 (Z.xf (k := 39) (by decide)) (deeper_guards.trans gd) hr (by rfl) (pk_cons (pv 0) (pk_cons (pv 1) pk_nil))) (pa_cons (pe_ka2 Z.e39 (Z.xf (k := 39) (by decide)) (deeper_guards.trans gd) hr (by rfl) (pk_cons (pv 0) (pk_cons (pv 1) pk_nil))) (pa_cons (pe_ka1 Z.e42 (Z.xf (k := 42) (by decide)) (deeper_guards.trans gd) hr (by rfl) (x := "_law_b") (p1 := ⟨0, 0, 0, 0⟩) (pv 1) (pk_cons (pv 1) pk_nil)) pa_nil))))))))))), ?_⟩
    have S0 := Same.refl H
    refine ⟨va, ta, rfl, wa, fun H1 s1 => ?_⟩
    have S1 := Same.trans S0 s1
    have wa := wa.same s1
    have wb := wb.same s1
    refine ⟨va, ta, rfl, wa, fun H2 s2 => ?_⟩
    have S2 := Same.trans S1 s2
    have wa := wa.same s2
    have wb := wb.same s2
    refine ⟨va, ta, rfl, wa, fun H3 s3 => ?_⟩
    have S3 := Same.trans S2 s3
    have wa := wa.same s3
    have wb := wb.same s3
    refine ⟨(by show 3 ≤ sizeLine; decide), fun l0 m0 => ?_⟩
    have s4 := sNew (o := .lst [va, va, va]) (Same.refl H3) m0
    have A0 := upd_same (H := H3) (a := l0) (o := .lst [va, va, va])
    generalize upd H3 l0 (.lst [va, va, va]) = H4 at s4 A0 ⊢
    have S4 := Same.trans S3 s4
    have wa := wa.same s4
    have wb := wb.same s4
    have L0 := A0
    obtain ⟨c0, hc0⟩ : ∃ r, r = l0 := ⟨_, rfl⟩
    rw [← hc0] at L0 ⊢
    refine ⟨_, rfl, ?_⟩
    refine ⟨va, ta, rfl, wa, fun H5 s5 => ?_⟩
    have S5 := Same.trans S4 s5
    have wa := wa.same s5
    have wb := wb.same s5
    have L0 := s5 _ _ L0
    refine ⟨va, ta, rfl, wa, fun H6 s6 => ?_⟩
    have S6 := Same.trans S5 s6
    have wa := wa.same s6
    have wb := wb.same s6
    have L0 := s6 _ _ L0
    refine ⟨va, ta, rfl, wa, fun H7 s7 => ?_⟩
    have S7 := Same.trans S6 s7
    have wa := wa.same s7
    have wb := wb.same s7
    have L0 := s7 _ _ L0
    refine ⟨(by show 3 ≤ sizeLine; decide), fun l1 m1 => ?_⟩
    have s8 := sNew (o := .lst [va, va, va]) (Same.refl H7) m1
    have A1 := upd_same (H := H7) (a := l1) (o := .lst [va, va, va])
    generalize upd H7 l1 (.lst [va, va, va]) = H8 at s8 A1 ⊢
    have S8 := Same.trans S7 s8
    have wa := wa.same s8
    have wb := wb.same s8
    have L0 := s8 _ _ L0
    refine ⟨c0, l1, _, _, rfl, rfl, L0, A1, (by show 6 ≤ sizeLine; decide), fun c1 m => ?_⟩
    have nc1 := fresh_same S8 m
    have s9 := sNew (o := .lst ([va, va, va] ++ [va, va, va])) (Same.refl H8) m
    have L1 := upd_same (H := H8) (a := c1) (o := .lst ([va, va, va] ++ [va, va, va]))
    generalize upd H8 c1 (.lst ([va, va, va] ++ [va, va, va])) = H9 at s9 L1 ⊢
    have S9 := Same.trans S8 s9
    have wa := wa.same s9
    have wb := wb.same s9
    have L1 : H9 c1 = some (.lst [va, va, va, va, va, va]) := L1
    refine ⟨_, rfl, ?_⟩
    refine ⟨vb, va, tb, ta, rfl, rfl, wb, wa, fun H10 s10 => ?_⟩
    have S10 := Same.trans S9 s10
    have wa := wa.same s10
    have wb := wb.same s10
    have L1 := s10 _ _ L1
    refine ⟨vb, va, tb, ta, rfl, rfl, wb, wa, fun H11 s11 => ?_⟩
    have S11 := Same.trans S10 s11
    have wa := wa.same s11
    have wb := wb.same s11
    have L1 := s11 _ _ L1
    refine ⟨(by show 2 ≤ sizeLine; decide), fun l2 m2 => ?_⟩
    have s12 := sNew (o := .lst [va, vb]) (Same.refl H11) m2
    have A2 := upd_same (H := H11) (a := l2) (o := .lst [va, vb])
    generalize upd H11 l2 (.lst [va, vb]) = H12 at s12 A2 ⊢
    have S12 := Same.trans S11 s12
    have wa := wa.same s12
    have wb := wb.same s12
    have L1 := s12 _ _ L1
    refine ⟨c1, l2, _, _, rfl, rfl, L1, A2, (by show 8 ≤ sizeLine; decide), fun c2 m => ?_⟩
    have nc2 := fresh_same S12 m
    have s13 := sNew (o := .lst ([va, va, va, va, va, va] ++ [va, vb])) (Same.refl H12) m
    have L2 := upd_same (H := H12) (a := c2) (o := .lst ([va, va, va, va, va, va] ++ [va, vb]))
    generalize upd H12 c2 (.lst ([va, va, va, va, va, va] ++ [va, vb])) = H13 at s13 L2 ⊢
    have S13 := Same.trans S12 s13
    have wa := wa.same s13
    have wb := wb.same s13
    have L2 : H13 c2 = some (.lst [va, va, va, va, va, va, va, vb]) := L2
    refine ⟨_, rfl, ?_⟩
    refine ⟨va, vb, ta, tb, rfl, rfl, wa, wb, fun H14 s14 => ?_⟩
    have S14 := Same.trans S13 s14
    have wa := wa.same s14
    have wb := wb.same s14
    have L2 := s14 _ _ L2
    refine ⟨va, vb, ta, tb, rfl, rfl, wa, wb, fun H15 s15 => ?_⟩
    have S15 := Same.trans S14 s15
    have wa := wa.same s15
    have wb := wb.same s15
    have L2 := s15 _ _ L2
    refine ⟨(by show 2 ≤ sizeLine; decide), fun l3 m3 => ?_⟩
    have s16 := sNew (o := .lst [vb, va]) (Same.refl H15) m3
    have A3 := upd_same (H := H15) (a := l3) (o := .lst [vb, va])
    generalize upd H15 l3 (.lst [vb, va]) = H16 at s16 A3 ⊢
    have S16 := Same.trans S15 s16
    have wa := wa.same s16
    have wb := wb.same s16
    have L2 := s16 _ _ L2
    refine ⟨c2, l3, _, _, rfl, rfl, L2, A3, (by show 10 ≤ sizeLine; decide), fun c3 m => ?_⟩
    have nc3 := fresh_same S16 m
    have s17 := sNew (o := .lst ([va, va, va, va, va, va, va, vb] ++ [vb, va])) (Same.refl H16) m
    have L3 := upd_same (H := H16) (a := c3) (o := .lst ([va, va, va, va, va, va, va, vb] ++ [vb, va]))
    generalize upd H16 c3 (.lst ([va, va, va, va, va, va, va, vb] ++ [vb, va])) = H17 at s17 L3 ⊢
    have S17 := Same.trans S16 s17
    have wa := wa.same s17
    have wb := wb.same s17
    have L3 : H17 c3 = some (.lst [va, va, va, va, va, va, va, vb, vb, va]) := L3
    refine ⟨_, rfl, ?_⟩
    refine ⟨vb, va, tb, ta, rfl, rfl, wb, wa, fun H18 s18 => ?_⟩
    have S18 := Same.trans S17 s18
    have wa := wa.same s18
    have wb := wb.same s18
    have L3 := s18 _ _ L3
    refine ⟨vb, va, tb, ta, rfl, rfl, wb, wa, fun H19 s19 => ?_⟩
    have S19 := Same.trans S18 s19
    have wa := wa.same s19
    have wb := wb.same s19
    have L3 := s19 _ _ L3
    refine ⟨vb, tb, rfl, wb, fun H20 s20 => ?_⟩
    have S20 := Same.trans S19 s20
    have wa := wa.same s20
    have wb := wb.same s20
    have L3 := s20 _ _ L3
    refine ⟨(by show 3 ≤ sizeLine; decide), fun l4 m4 => ?_⟩
    have s21 := sNew (o := .lst [va, vb, vb]) (Same.refl H20) m4
    have A4 := upd_same (H := H20) (a := l4) (o := .lst [va, vb, vb])
    generalize upd H20 l4 (.lst [va, vb, vb]) = H21 at s21 A4 ⊢
    have S21 := Same.trans S20 s21
    have wa := wa.same s21
    have wb := wb.same s21
    have L3 := s21 _ _ L3
    refine ⟨c3, l4, _, _, rfl, rfl, L3, A4, (by show 13 ≤ sizeLine; decide), fun c4 m => ?_⟩
    have nc4 := fresh_same S21 m
    have s22 := sNew (o := .lst ([va, va, va, va, va, va, va, vb, vb, va] ++ [va, vb, vb])) (Same.refl H21) m
    have L4 := upd_same (H := H21) (a := c4) (o := .lst ([va, va, va, va, va, va, va, vb, vb, va] ++ [va, vb, vb]))
    generalize upd H21 c4 (.lst ([va, va, va, va, va, va, va, vb, vb, va] ++ [va, vb, vb])) = H22 at s22 L4 ⊢
    have S22 := Same.trans S21 s22
    have wa := wa.same s22
    have wb := wb.same s22
    exact q _ c4 S22 nc4 L4
end
end S14

namespace S14
open PySem L2 GM
theorem yes {c : Prop} [Decidable c] {A B : Prop} (h : c) (a : A) : if c then A else B := by rw [if_pos h]; exact a
theorem no_ {c : Prop} [Decidable c] {A B : Prop} (h : ¬ c) (b : B) : if c then A else B := by rw [if_neg h]; exact b
/-- a sign as a text -/
abbrev sg1 (c : Nat) : V := .str ⟨#[c]⟩
/-! ### _law_fields -/
/-- by a letter: the fields that an error has, in the order in which they are asked -/
inductive FL (K : PySem.W.Frag) (D : Addr) : Nat → List (Str × V) → List V → Prop
  | v {x : V} (n : PySem.W.findIn K (.ref D) "value" = some none) : FL K D 118 [("value", x)] [x]
  | p {x : V} (n : PySem.W.findIn K (.ref D) "position" = some none) : FL K D 112 [("position", x)] [x]
  | e {x y : V} (n : PySem.W.findIn K (.ref D) "position" = some none) (n2 : PySem.W.findIn K (.ref D) "places" = some none) : FL K D 101 [("places", y), ("position", x)] [x, y]
  | l {x : V} (n : PySem.W.findIn K (.ref D) "line" = some none) : FL K D 108 [("line", x)] [x]
  | n {x : V} (n : PySem.W.findIn K (.ref D) "name" = some none) : FL K D 110 [("name", x)] [x]
  | t {x y : V} (n : PySem.W.findIn K (.ref D) "kind" = some none) (n2 : PySem.W.findIn K (.ref D) "limit" = some none) : FL K D 116 [("limit", y), ("kind", x)] [x, y]
  | o : FL K D 45 [] []
section
variable {P : Program} {w : World} {K : PySem.W.Frag} {mg : Str → Option Value} {base : Heap} {D S : Nat → Addr}
def spFields (K : PySem.W.Frag) : Sp := fun vs H Q _ => ∃ (a D : Addr) (c : Nat) (fs : List (Str × V)) (out : List V), vs = [.ref a, sg1 c] ∧ XfC K D ∧ ErrAt H a D fs ∧ FL K D c fs out ∧ ∀ H' r, Same H H' → H r = none → H' r = some (.lst out) → Q (.ref r) H'
abbrev nFields : List Str := ["_law_e", "_law_letter"]
theorem scFields : FnScope nFields ["_law_e", "_law_letter"] (defScope sFields) := ⟨rfl, rfl, rfl, by decide +kernel, rfl, by decide +kernel, by decide +kernel⟩
theorem ok_fields {f : Addr} {fd : FuncData} (F : Fun K "_law_fields" "_law_fields" sFields f fd) : FnOk P w K mg base CX0 1 f fd ["_law_e", "_law_letter"] (spFields K) := by
  refine F.ok scFields (fun vs H Q E h => ?_) (fun cdv A outer s H vs Q E hr h => ?_)
  · obtain ⟨a, D, c, fs, out, rfl, _⟩ := h
    rfl
  · obtain ⟨a, D, c, fs, out, rfl, xf, ea, fl, q⟩ := h
    refine ⟨_, pss_cons (ps_if (pt_cmpR op_eq (pv 1) pe_str (nomark _)) (pss_one (ps_ret (pe_lst (pa_cons (pe_at mono_var (pv 0)) pa_nil)))) pss_nil)
      (pss_cons (ps_if (pt_cmpR op_eq (pv 1) pe_str (nomark _)) (pss_one (ps_ret (pe_lst (pa_cons (pe_at mono_var (pv 0)) pa_nil)))) pss_nil)
      (pss_cons (ps_if (pt_cmpR op_eq (pv 1) pe_str (nomark _)) (pss_one (ps_ret (pe_lst (pa_cons (pe_at mono_var (pv 0)) (pa_cons (pe_at mono_var (pv 0)) pa_nil))))) pss_nil)
      (pss_cons (ps_if (pt_cmpR op_eq (pv 1) pe_str (nomark _)) (pss_one (ps_ret (pe_lst (pa_cons (pe_at mono_var (pv 0)) pa_nil)))) pss_nil)
      (pss_cons (ps_if (pt_cmpR op_eq (pv 1) pe_str (nomark _)) (pss_one (ps_ret (pe_lst (pa_cons (pe_at mono_var (pv 0)) pa_nil)))) pss_nil)
      (pss_one (ps_ret (pe_ifExp (pt_cmpR op_eq (pv 1) pe_str (nomark _)) (pe_lst (pa_cons (pe_at mono_var (pv 0)) (pa_cons (pe_at mono_var (pv 0)) pa_nil))) (pe_lst pa_nil)))))))), ?_⟩
    cases fl with
    | @v x n =>
      refine ⟨_, rfl, rfl, _, rfl, yes (by decide +kernel) ?_⟩
      exact ⟨_, rfl, a, D, _, x, rfl, xf, n, ea, rfl, (by show 1 ≤ sizeLine; decide), fun l hl => q _ l (sNew (Same.refl H) hl) hl upd_same⟩
    | @p x n =>
      refine ⟨_, rfl, rfl, _, rfl, no_ (by decide +kernel) ⟨_, rfl, rfl, _, rfl, yes (by decide +kernel) ?_⟩⟩
      exact ⟨_, rfl, a, D, _, x, rfl, xf, n, ea, rfl, (by show 1 ≤ sizeLine; decide), fun l hl => q _ l (sNew (Same.refl H) hl) hl upd_same⟩
    | @e x y n n2 =>
      refine ⟨_, rfl, rfl, _, rfl, no_ (by decide +kernel) ⟨_, rfl, rfl, _, rfl, no_ (by decide +kernel) ⟨_, rfl, rfl, _, rfl, yes (by decide +kernel) ?_⟩⟩⟩
      exact ⟨_, rfl, a, D, _, x, rfl, xf, n, ea, rfl, _, rfl, a, D, _, y, rfl, xf, n2, ea, rfl, (by show 2 ≤ sizeLine; decide), fun l hl => q _ l (sNew (Same.refl H) hl) hl upd_same⟩
    | @l x n =>
      refine ⟨_, rfl, rfl, _, rfl, no_ (by decide +kernel) ⟨_, rfl, rfl, _, rfl, no_ (by decide +kernel) ⟨_, rfl, rfl, _, rfl, no_ (by decide +kernel) ⟨_, rfl, rfl, _, rfl, yes (by decide +kernel) ?_⟩⟩⟩⟩
      exact ⟨_, rfl, a, D, _, x, rfl, xf, n, ea, rfl, (by show 1 ≤ sizeLine; decide), fun l hl => q _ l (sNew (Same.refl H) hl) hl upd_same⟩
    | @n x n =>
      refine ⟨_, rfl, rfl, _, rfl, no_ (by decide +kernel) ⟨_, rfl, rfl, _, rfl, no_ (by decide +kernel) ⟨_, rfl, rfl, _, rfl, no_ (by decide +kernel) ⟨_, rfl, rfl, _, rfl, no_ (by decide +kernel) ⟨_, rfl, rfl, _, rfl, yes (by decide +kernel) ?_⟩⟩⟩⟩⟩
      exact ⟨_, rfl, a, D, _, x, rfl, xf, n, ea, rfl, (by show 1 ≤ sizeLine; decide), fun l hl => q _ l (sNew (Same.refl H) hl) hl upd_same⟩
    | @t x y n n2 =>
      refine ⟨_, rfl, rfl, _, rfl, no_ (by decide +kernel) ⟨_, rfl, rfl, _, rfl, no_ (by decide +kernel) ⟨_, rfl, rfl, _, rfl, no_ (by decide +kernel) ⟨_, rfl, rfl, _, rfl, no_ (by decide +kernel) ⟨_, rfl, rfl, _, rfl, no_ (by decide +kernel) ⟨_, rfl, rfl, _, rfl, yes (by decide +kernel) ?_⟩⟩⟩⟩⟩⟩
      exact ⟨_, rfl, a, D, _, x, rfl, xf, n, ea, rfl, _, rfl, a, D, _, y, rfl, xf, n2, ea, rfl, (by show 2 ≤ sizeLine; decide), fun l hl => q _ l (sNew (Same.refl H) hl) hl upd_same⟩
    | o =>
      refine ⟨_, rfl, rfl, _, rfl, no_ (by decide +kernel) ⟨_, rfl, rfl, _, rfl, no_ (by decide +kernel) ⟨_, rfl, rfl, _, rfl, no_ (by decide +kernel) ⟨_, rfl, rfl, _, rfl, no_ (by decide +kernel) ⟨_, rfl, rfl, _, rfl, no_ (by decide +kernel) ⟨_, rfl, rfl, _, rfl, no_ (by decide +kernel) ?_⟩⟩⟩⟩⟩⟩
      exact ⟨(by show 0 ≤ sizeLine; decide), fun l hl => q _ l (sNew (Same.refl H) hl) hl upd_same⟩
/-! ### _law_due_fields -/
inductive Due : Nat → V → V → List V → Prop
  | v {x y : V} : Due 118 x y [x]
  | n {x y : V} : Due 110 x y [x]
  | p {x y : V} : Due 112 x y [y]
  | l {x y : V} : Due 108 x y [y]
  | e {x y : V} : Due 101 x y [y, x]
  | t {x y : V} : Due 116 x y [x, y]
  | o {x y : V} : Due 45 x y []
def spDue : Sp := fun vs H Q _ => ∃ (x y : V) (c : Nat) (out : List V), vs = [x, y, sg1 c] ∧ Due c x y out ∧ ∀ H' r, Same H H' → H r = none → H' r = some (.lst out) → Q (.ref r) H'
abbrev nDue : List Str := ["_law_a", "_law_b", "_law_letter"]
theorem scDue : FnScope nDue ["_law_a", "_law_b", "_law_letter"] (defScope sDue) := ⟨rfl, rfl, rfl, by decide +kernel, rfl, by decide +kernel, by decide +kernel⟩
theorem ok_due {f : Addr} {fd : FuncData} (F : Fun K "_law_due_fields" "_law_due_fields" sDue f fd) : FnOk P w K mg base CX0 1 f fd ["_law_a", "_law_b", "_law_letter"] spDue := by
  refine F.ok scDue (fun vs H Q E h => ?_) (fun cdv A outer s H vs Q E hr h => ?_)
  · obtain ⟨x, y, c, out, rfl, _⟩ := h
    rfl
  · obtain ⟨x, y, c, out, rfl, due, q⟩ := h
    refine ⟨_, pss_cons (ps_if (pt_cmpR op_in_seq (pv 2) (pe_tup (pa_cons pe_str (pa_cons pe_str pa_nil))) (by rfl)) (pss_one (ps_ret (pe_lst (pa_cons (pv 0) pa_nil)))) pss_nil)
      (pss_cons (ps_if (pt_cmpR op_in_seq (pv 2) (pe_tup (pa_cons pe_str (pa_cons pe_str pa_nil))) (by rfl)) (pss_one (ps_ret (pe_lst (pa_cons (pv 1) pa_nil)))) pss_nil)
      (pss_cons (ps_if (pt_cmpR op_eq (pv 2) pe_str (nomark _)) (pss_one (ps_ret (pe_lst (pa_cons (pv 1) (pa_cons (pv 0) pa_nil))))) pss_nil)
      (pss_one (ps_ret (pe_ifExp (pt_cmpR op_eq (pv 2) pe_str (nomark _)) (pe_lst (pa_cons (pv 0) (pa_cons (pv 1) pa_nil))) (pe_lst pa_nil)))))), ?_⟩
    refine ⟨_, rfl, (by show 2 ≤ sizeLine; decide), fun t ht => ?_⟩
    have s1 := sNew (o := .tup [.str "v", .str "n"]) (Same.refl H) ht
    have a1 := upd_same (H := H) (a := t) (o := .tup [.str "v", .str "n"])
    generalize upd H t (.tup [.str "v", .str "n"]) = H1 at s1 a1 ⊢
    refine ⟨t, _, rfl, .inr (SqT.of a1), rfl, rfl, _, rfl, ?_⟩
    have goes : ∀ G : Hp, Same H G → ∀ l, G l = none → Q (.ref l) (upd G l (.lst out)) := fun G s l hl => q _ l (sNew s hl) (fresh_same s hl) upd_same
    cases due with
    | v =>
      refine yes (by decide +kernel) ?_
      exact ⟨_, rfl, (by show 1 ≤ sizeLine; decide), goes _ s1⟩
    | n =>
      refine yes (by decide +kernel) ?_
      exact ⟨_, rfl, (by show 1 ≤ sizeLine; decide), goes _ s1⟩
    | p =>
      refine no_ (by decide +kernel) ⟨_, rfl, (by show 2 ≤ sizeLine; decide), fun t2 ht2 => ?_⟩
      refine ⟨t2, _, rfl, .inr (SqT.of upd_same), rfl, rfl, _, rfl, yes (by decide +kernel) ?_⟩
      exact ⟨_, rfl, (by show 1 ≤ sizeLine; decide), goes _ (sNew s1 ht2)⟩
    | l =>
      refine no_ (by decide +kernel) ⟨_, rfl, (by show 2 ≤ sizeLine; decide), fun t2 ht2 => ?_⟩
      refine ⟨t2, _, rfl, .inr (SqT.of upd_same), rfl, rfl, _, rfl, yes (by decide +kernel) ?_⟩
      exact ⟨_, rfl, (by show 1 ≤ sizeLine; decide), goes _ (sNew s1 ht2)⟩
    | e =>
      refine no_ (by decide +kernel) ⟨_, rfl, (by show 2 ≤ sizeLine; decide), fun t2 ht2 => ?_⟩
      refine ⟨t2, _, rfl, .inr (SqT.of upd_same), rfl, rfl, _, rfl, no_ (by decide +kernel) ⟨_, rfl, rfl, _, rfl, yes (by decide +kernel) ?_⟩⟩
      exact ⟨_, rfl, _, rfl, (by show 2 ≤ sizeLine; decide), goes _ (sNew s1 ht2)⟩
    | t =>
      refine no_ (by decide +kernel) ⟨_, rfl, (by show 2 ≤ sizeLine; decide), fun t2 ht2 => ?_⟩
      refine ⟨t2, _, rfl, .inr (SqT.of upd_same), rfl, rfl, _, rfl, no_ (by decide +kernel) ⟨_, rfl, rfl, _, rfl, no_ (by decide +kernel) ⟨_, rfl, rfl, _, rfl, yes (by decide +kernel) ?_⟩⟩⟩
      exact ⟨_, rfl, _, rfl, (by show 2 ≤ sizeLine; decide), goes _ (sNew s1 ht2)⟩
    | o =>
      refine no_ (by decide +kernel) ⟨_, rfl, (by show 2 ≤ sizeLine; decide), fun t2 ht2 => ?_⟩
      refine ⟨t2, _, rfl, .inr (SqT.of upd_same), rfl, rfl, _, rfl, no_ (by decide +kernel) ⟨_, rfl, rfl, _, rfl, no_ (by decide +kernel) ⟨_, rfl, rfl, _, rfl, no_ (by decide +kernel) ?_⟩⟩⟩
      exact ⟨(by show 0 ≤ sizeLine; decide), goes _ (sNew s1 ht2)⟩
end
end S14

namespace S14
open PySem L2 GM
section
variable {P : Program} {w : World} {K : PySem.W.Frag} {mg : Str → Option Value} {base : Heap} {D S : Nat → Addr}
/-! ### _law_value -/
def spValue : Sp := fun vs H Q _ => ∃ l : Addr, vs = [.ref l] ∧ PotAt H l ∧ ∀ (H' : Hp) (v : V) (t : Str), SameX l H H' → PotAt H' l → Vl H' v t → Q v H'
abbrev nValue : List Str := ["_law_pot_here", "_law_number", "_law_some"]
theorem scValue : FnScope nValue ["_law_pot_here"] (defScope sValue) := ⟨rfl, rfl, rfl, by decide +kernel, rfl, by decide +kernel, by decide +kernel⟩
theorem ok_value {f : Addr} {fd : FuncData} (F : Fun K "_law_value" "_law_value" sValue f fd) (T : Bn mg) (DD : Df P w K mg base "_law_draw" ["_law_pot_here", "_law_many"] 1 spDraw) : FnOk P w K mg base CX0 2 f fd ["_law_pot_here"] spValue := by
  refine F.ok scValue (fun vs H Q E h => ?_) (fun cdv A outer s H vs Q E hr h => ?_)
  · obtain ⟨l, rfl, _⟩ := h
    rfl
  · obtain ⟨l, rfl, pot, q⟩ := h
    refine ⟨_, pss_cons (ps_set (i := 1) scValue.nd rfl (Or.inl rfl) (pe_df DD hr (by rfl) (pa_cons (pv 0) (pa_cons (pe_op op_pow pe_int pe_int) pa_nil))))
      (pss_cons (ps_set (i := 2) scValue.nd rfl (Or.inl rfl) (pe_lst (pa_cons (pv 1) (pa_cons (pe_un un_neg (pv 1)) (pa_cons pe_non (pa_cons pe_bl (pa_cons pe_str (pa_cons pe_str (pa_cons (pe_lst (pa_cons (pv 1) pa_nil)) (pa_cons (pe_tup (pa_cons (pv 1) (pa_cons pe_int pa_nil)))
        (pa_cons pe_dnewK (pa_cons (pe_disp (pps_cons pe_str (pv 1) pps_nil) rfl rfl (by simp) (by decide)) (pa_cons (pe_tup pa_nil) (pa_cons (pe_op op_mul (pv 1) (pe_op op_pow pe_int pe_int)) pa_nil))))))))))))))
      (pss_one (ps_ret (pe_ix ix_list (pv 2) (pe_df DD hr (by rfl) (pa_cons (pv 0) (pa_cons (pe_callB call_len_seq (by rfl) T.len PySem.boot_len (pa_cons (pv 2) pa_nil)) pa_nil))) (fun _ _ => rfl))))), ?_⟩
    refine ⟨_, rfl, _, _, rfl, rfl, ⟨by decide, by decide, by decide⟩, l, _, rfl, pot, by decide, by decide, fun H1 n sx pot1 n0 n1 => ?_⟩
    have n1' : n < 1000000000 := n1
    refine ⟨_, rfl, _, rfl, _, rfl, _, rfl, (by show 1 ≤ sizeLine; decide), fun l1 hl1 => ?_⟩
    have S1 := sNew (o := .lst [.int n]) (Same.refl H1) hl1
    have A1 := upd_same (H := H1) (a := l1) (o := .lst [.int n])
    generalize upd H1 l1 (.lst [.int n]) = H2 at S1 A1 ⊢
    refine ⟨_, rfl, (by show 2 ≤ sizeLine; decide), fun t1 ht1 => ?_⟩
    have S2 := sNew (o := .tup [.int n, .int 1]) (Same.refl H2) ht1
    have A2 := upd_same (H := H2) (a := t1) (o := .tup [.int n, .int 1])
    generalize upd H2 t1 (.tup [.int n, .int 1]) = H3 at S2 A2 ⊢
    refine fun d1 hd1 => ?_
    have S3 := sNew (o := .dK []) (Same.refl H3) hd1
    have A3 := upd_same (H := H3) (a := d1) (o := .dK [])
    generalize upd H3 d1 (.dK []) = H4 at S3 A3 ⊢
    refine fun d2 hd2 => ⟨_, rfl, upd_same, [(.inr "a", .int n)], rfl, (by show 1 ≤ 15; decide), ?_⟩
    rw [upd_upd]
    have S4 := sNew (o := .dK (mergeK [] [(.inr "a", .int n)])) (Same.refl H4) hd2
    have A4 : upd H4 d2 (.dK (mergeK [] [(.inr "a", .int n)])) d2 = some (.dK [(.inr "a", .int n)]) := upd_same
    generalize upd H4 d2 (.dK (mergeK [] [(.inr "a", .int n)])) = H5 at S4 A4 ⊢
    refine ⟨(by show 0 ≤ sizeLine; decide), fun t2 ht2 => ?_⟩
    have S5 := sNew (o := .tup []) (Same.refl H5) ht2
    have A5 := upd_same (H := H5) (a := t2) (o := .tup [])
    generalize upd H5 t2 (.tup []) = H6 at S5 A5 ⊢
    refine ⟨_, rfl, _, _, rfl, rfl, ⟨by decide, by decide, by decide⟩, _, _, rfl, rfl, .inl ⟨by omega, by omega⟩, (by show 12 ≤ sizeLine; decide), fun r hr' => ?_⟩
    have S6 := sNew (o := .lst [.int n, .int (-n), .non, .bl true, .str "", .str "A", .ref l1, .ref t1, .ref d1, .ref d2, .ref t2, .int (n * 10 ^ Int.toNat 40)]) (Same.refl H6) hr'
    have A6 := upd_same (H := H6) (a := r) (o := .lst [.int n, .int (-n), .non, .bl true, .str "", .str "A", .ref l1, .ref t1, .ref d1, .ref d2, .ref t2, .int (n * 10 ^ Int.toNat 40)])
    have pot6 := pot1.same (Same.trans S1 (Same.trans S2 (Same.trans S3 (Same.trans S4 S5))))
    have rl : r ≠ l := pot6.ne hr'
    generalize upd H6 r (.lst [.int n, .int (-n), .non, .bl true, .str "", .str "A", .ref l1, .ref t1, .ref d1, .ref d2, .ref t2, .int (n * 10 ^ Int.toNat 40)]) = G at S6 A6 ⊢
    have pot7 := pot6.same S6
    have small : n.natAbs < 2 ^ 200 := by
      have : (1000000000 : Nat) < 2 ^ 200 := by decide
      omega
    have big : (n * 10 ^ Int.toNat 40).natAbs < 2 ^ 200 := by
      have e : (n * 10 ^ Int.toNat 40).natAbs = n.natAbs * 10 ^ 40 := by rw [Int.natAbs_mul]; rfl
      have : n.natAbs * 10 ^ 40 ≤ 1000000000 * 10 ^ 40 := Nat.mul_le_mul_right _ (by omega)
      rw [e]
      exact Nat.lt_of_le_of_lt this (by decide)
    have all : ∀ v ∈ [V.int n, .int (-n), .non, .bl true, .str "", .str "A", .ref l1, .ref t1, .ref d1, .ref d2, .ref t2, .int (n * 10 ^ Int.toNat 40)], ∃ t, Vl G v t := by
      intro v hv
      simp only [List.mem_cons, List.not_mem_nil, or_false] at hv
      rcases hv with rfl | rfl | rfl | rfl | rfl | rfl | rfl | rfl | rfl | rfl | rfl | rfl
      · exact ⟨_, .int small⟩
      · exact ⟨_, .int (by rw [Int.natAbs_neg]; exact small)⟩
      · exact ⟨_, .non⟩
      · exact ⟨_, .bl⟩
      · exact ⟨_, .str (by decide) (by decide +kernel)⟩
      · exact ⟨_, .str (by decide) (by decide +kernel)⟩
      · exact ⟨_, .lst (S6 _ _ (S5 _ _ (S4 _ _ (S3 _ _ (S2 _ _ A1))))) small⟩
      · exact ⟨_, .tup (S6 _ _ (S5 _ _ (S4 _ _ (S3 _ _ A2)))) small⟩
      · exact ⟨_, .d0 (S6 _ _ (S5 _ _ (S4 _ _ A3)))⟩
      · exact ⟨_, .da (S6 _ _ (S5 _ _ A4)) small⟩
      · exact ⟨_, .nil (S6 _ _ A5)⟩
      · exact ⟨_, .int big⟩
    have sxG : SameX l H G := sx.same (Same.trans S1 (Same.trans S2 (Same.trans S3 (Same.trans S4 (Same.trans S5 S6)))))
    generalize hxs : [V.int n, .int (-n), .non, .bl true, .str "", .str "A", .ref l1, .ref t1, .ref d1, .ref d2, .ref t2, .int (n * 10 ^ Int.toNat 40)] = xs at A6 all
    have many : xs.length = 12 := by rw [← hxs]; rfl
    refine ⟨_, rfl, _, rfl, _, rfl, r, xs, rfl, .inl (SqL.of A6), l, _, rfl, pot7, by omega, by omega, fun H8 d sx8 pot8 d0 d1 => ?_⟩
    have hd : d.toNat < xs.length := by omega
    refine ⟨r, xs, d, xs[d.toNat], rfl, rfl, SqL.of (sx8 _ _ rl A6), at_of (j := d.toNat) (by omega) (List.getElem?_eq_getElem hd), ?_⟩
    obtain ⟨t, vl⟩ := all _ (List.getElem_mem hd)
    exact q H8 _ t (sxG.trans sx8) pot8 (vl.x pot7 sx8)
end
end S14

namespace S14
open PySem L2 GM
/-! ### lists of answers and of values, as they are shown -/
def btx (b : Bool) : Str := if b then "True" else "False"
def bt (l : List Bool) : Str := listText (l.map btx)
theorem bt_len (l : List Bool) (few : l.length ≤ 100) : (bt l).length ≤ sizeLine := by
  have a := listText_len_le (l.map btx)
  have b : ((l.map btx).map (·.length)).sum ≤ 5 * l.length := by
    clear a few
    induction l with
    | nil => exact Nat.le_refl _
    | cons x l ih =>
      have : (btx x).length ≤ 5 := by cases x <;> decide
      simp only [List.map_cons, List.sum_cons, List.length_cons] at ih ⊢
      omega
  rw [List.length_map] at a
  rw [sizeLine_eq]
  show (listText (l.map btx)).length ≤ _
  omega
theorem bits_sg {X : Cx} {H : Hp} {a : Addr} {l : List Bool} (e : H a = some (.lst (l.map V.bl))) (ne : l ≠ []) : Sg X 1 (fun G => G = H) (fun c => c = a ∨ False) (.ref a) (bt l) := by
  refine sg_list (k := 0) (B := fun _ => False) (xs := l.map V.bl) (ts := l.map btx) (fun G j => by rw [j]; exact e) (by simpa using ne) id (by simp) fun n u hu => ?_
  rw [List.getElem?_map] at hu
  cases q : l[n]? with
  | none => rw [q] at hu; cases hu
  | some b =>
    rw [q] at hu
    cases hu
    exact ⟨btx b, by rw [List.getElem?_map, q]; rfl, sg_bl⟩
inductive Vls (H : Hp) : List V → List Str → Prop
  | nil : Vls H [] []
  | cons {v : V} {t : Str} {vs : List V} {ts : List Str} : Vl H v t → Vls H vs ts → Vls H (v :: vs) (t :: ts)
theorem Vls.same {H G : Hp} {vs : List V} {ts : List Str} (s : Same H G) (h : Vls H vs ts) : Vls G vs ts := by
  induction h with
  | nil => exact .nil
  | cons a _ ih => exact .cons (a.same s) ih
theorem Vls.len {H : Hp} {vs : List V} {ts : List Str} (h : Vls H vs ts) : ts.length = vs.length ∧ (ts.map (·.length)).sum ≤ 5000 * vs.length := by
  induction h with
  | nil => exact ⟨rfl, Nat.le_refl _⟩
  | cons a _ ih =>
    have := a.len
    simp only [List.length_cons, List.map_cons, List.sum_cons]
    omega
theorem Vls.at_ {H : Hp} {vs : List V} {ts : List Str} (h : Vls H vs ts) : ∀ (i : Nat) (v : V), vs[i]? = some v → ∃ t, ts[i]? = some t ∧ Vl H v t := by
  induction h with
  | nil => intro i v q; cases q
  | @cons v t vs ts a _ ih =>
    intro i u q
    cases i with
    | zero => cases q; exact ⟨t, rfl, a⟩
    | succ i => exact ih i u q
theorem Vl.there {H : Hp} {r : Addr} {t : Str} (h : Vl H (.ref r) t) : H r ≠ none := by
  cases h with
  | lst e h => rw [e]; exact fun z => nomatch z
  | tup e h => rw [e]; exact fun z => nomatch z
  | d0 e => rw [e]; exact fun z => nomatch z
  | da e h => rw [e]; exact fun z => nomatch z
  | nil e => rw [e]; exact fun z => nomatch z
/-- a new list of such values -/
theorem Vls.sg {X : Cx} {H G : Hp} {r : Addr} {vs : List V} {ts : List Str} (h : Vls H vs ts) (s : Same H G) (n : H r = none) (e : G r = some (.lst vs)) : ∃ B : Addr → Prop, Sg X 2 (fun J => J = G) B (.ref r) (listText ts) := by
  by_cases em : vs = []
  · subst em
    cases h
    rw [listText_nil]
    exact ⟨fun _ => False, sg_nil (fun J j => by rw [j]; exact e)⟩
  · refine ⟨_, sg_list (k := 1) (B := fun c => V.ref c ∈ vs) (xs := vs) (ts := ts) (fun J j => by rw [j]; exact e) em (fun m => ?_) h.len.1 fun i v hv => ?_⟩
    · obtain ⟨i, hi, q⟩ := List.mem_iff_getElem.mp m
      obtain ⟨t, _, vl⟩ := h.at_ i (.ref r) (by rw [List.getElem?_eq_getElem hi, q])
      exact vl.there n
    · obtain ⟨t, ht, vl⟩ := h.at_ i v hv
      refine ⟨t, ht, (vl.same s).sg.mono (Nat.le_refl _) fun c z => ?_⟩
      rw [← z]
      exact List.mem_of_getElem? hv
theorem Vls.fits {H : Hp} {vs : List V} {ts : List Str} (h : Vls H vs ts) (few : vs.length ≤ 20) : (listText ts).length ≤ sizeLine := by
  have a := listText_len_le ts
  obtain ⟨b, c⟩ := h.len
  rw [sizeLine_eq]
  omega
theorem Due.vls {H : Hp} {c : Nat} {x y : V} {out : List V} {tx ty : Str} (d : Due c x y out) (hx : Vl H x tx) (hy : Vl H y ty) : out.length ≤ 2 ∧ ∃ ts, Vls H out ts := by
  cases d with
  | v => exact ⟨by show 1 ≤ 2; decide, _, .cons hx .nil⟩
  | n => exact ⟨by show 1 ≤ 2; decide, _, .cons hx .nil⟩
  | p => exact ⟨by show 1 ≤ 2; decide, _, .cons hy .nil⟩
  | l => exact ⟨by show 1 ≤ 2; decide, _, .cons hy .nil⟩
  | e => exact ⟨by show 2 ≤ 2; decide, _, .cons hy (.cons hx .nil)⟩
  | t => exact ⟨by show 2 ≤ 2; decide, _, .cons hx (.cons hy .nil)⟩
  | o => exact ⟨by show 0 ≤ 2; decide, _, .nil⟩
/-! ### the letters -/
def letters : Str := "vvvppvvpeppppvpvpvvpvvvvvvpelpvvnpnnnn-tnvn--"
def lcl : List Nat := ([118, 118, 118, 112, 112, 118, 118, 112, 101, 112, 112, 112, 112, 118, 112, 118, 112, 118, 118, 112, 118, 118, 118, 118, 118] : List Nat) ++ [118, 112, 101, 108, 112, 118, 118, 110, 112, 110, 110, 110, 110, 45, 116, 110, 118, 110, 45, 45]
theorem letters_eq : letters.cps.toList = lcl := by decide +kernel
section
variable {P : Program} {w : World} {K : PySem.W.Frag} {mg : Str → Option Value} {base : Heap} {D S : Nat → Addr}
theorem table (Z : Errs P w K mg base D S) (va vb : V) (k : Nat) (h : k < 45) : ∃ (c : Nat) (fs : List (Str × V)) (out : List V), lcl[k]? = some c ∧ (flds va vb)[k]? = some fs ∧ FL K (D k) c fs out ∧ Due c va vb out := by
  match k, h with
  | 0, _ => exact ⟨118, _, _, rfl, rfl, .v Z.e0.no, .v⟩
  | 1, _ => exact ⟨118, _, _, rfl, rfl, .v Z.e1.no, .v⟩
  | 2, _ => exact ⟨118, _, _, rfl, rfl, .v Z.e2.no, .v⟩
  | 3, _ => exact ⟨112, _, _, rfl, rfl, .p Z.e3.no, .p⟩
  | 4, _ => exact ⟨112, _, _, rfl, rfl, .p Z.e4.no, .p⟩
  | 5, _ => exact ⟨118, _, _, rfl, rfl, .v Z.e5.no, .v⟩
  | 6, _ => exact ⟨118, _, _, rfl, rfl, .v Z.e6.no, .v⟩
  | 7, _ => exact ⟨112, _, _, rfl, rfl, .p Z.e7.no, .p⟩
  | 8, _ => exact ⟨101, _, _, rfl, rfl, .e Z.e8.no Z.e8.no2, .e⟩
  | 9, _ => exact ⟨112, _, _, rfl, rfl, .p Z.e9.no, .p⟩
  | 10, _ => exact ⟨112, _, _, rfl, rfl, .p Z.e10.no, .p⟩
  | 11, _ => exact ⟨112, _, _, rfl, rfl, .p Z.e11.no, .p⟩
  | 12, _ => exact ⟨112, _, _, rfl, rfl, .p Z.e12.no, .p⟩
  | 13, _ => exact ⟨118, _, _, rfl, rfl, .v Z.e13.no, .v⟩
  | 14, _ => exact ⟨112, _, _, rfl, rfl, .p Z.e14.no, .p⟩
  | 15, _ => exact ⟨118, _, _, rfl, rfl, .v Z.e15.no, .v⟩
  | 16, _ => exact ⟨112, _, _, rfl, rfl, .p Z.e16.no, .p⟩
  | 17, _ => exact ⟨118, _, _, rfl, rfl, .v Z.e17.no, .v⟩
  | 18, _ => exact ⟨118, _, _, rfl, rfl, .v Z.e18.no, .v⟩
  | 19, _ => exact ⟨112, _, _, rfl, rfl, .p Z.e19.no, .p⟩
  | 20, _ => exact ⟨118, _, _, rfl, rfl, .v Z.e20.no, .v⟩
  | 21, _ => exact ⟨118, _, _, rfl, rfl, .v Z.e21.no, .v⟩
  | 22, _ => exact ⟨118, _, _, rfl, rfl, .v Z.e22.no, .v⟩
  | 23, _ => exact ⟨118, _, _, rfl, rfl, .v Z.e23.no, .v⟩
  | 24, _ => exact ⟨118, _, _, rfl, rfl, .v Z.e24.no, .v⟩
  | 25, _ => exact ⟨118, _, _, rfl, rfl, .v Z.e25.no, .v⟩
  | 26, _ => exact ⟨112, _, _, rfl, rfl, .p Z.e26.no, .p⟩
  | 27, _ => exact ⟨101, _, _, rfl, rfl, .e Z.e27.no Z.e27.no2, .e⟩
  | 28, _ => exact ⟨108, _, _, rfl, rfl, .l Z.e28.no, .l⟩
  | 29, _ => exact ⟨112, _, _, rfl, rfl, .p Z.e29.no, .p⟩
  | 30, _ => exact ⟨118, _, _, rfl, rfl, .v Z.e30.no, .v⟩
  | 31, _ => exact ⟨118, _, _, rfl, rfl, .v Z.e31.no, .v⟩
  | 32, _ => exact ⟨110, _, _, rfl, rfl, .n Z.e32.no, .n⟩
  | 33, _ => exact ⟨112, _, _, rfl, rfl, .p Z.e33.no, .p⟩
  | 34, _ => exact ⟨110, _, _, rfl, rfl, .n Z.e34.no, .n⟩
  | 35, _ => exact ⟨110, _, _, rfl, rfl, .n Z.e35.no, .n⟩
  | 36, _ => exact ⟨110, _, _, rfl, rfl, .n Z.e36.no, .n⟩
  | 37, _ => exact ⟨110, _, _, rfl, rfl, .n Z.e37.no, .n⟩
  | 38, _ => exact ⟨45, _, _, rfl, rfl, .o, .o⟩
  | 39, _ => exact ⟨116, _, _, rfl, rfl, .t Z.e39.no Z.e39.no2, .t⟩
  | 40, _ => exact ⟨110, _, _, rfl, rfl, .n Z.e40.no, .n⟩
  | 41, _ => exact ⟨118, _, _, rfl, rfl, .v Z.e41.no, .v⟩
  | 42, _ => exact ⟨110, _, _, rfl, rfl, .n Z.e42.no, .n⟩
  | 43, _ => exact ⟨45, _, _, rfl, rfl, .o, .o⟩
  | 44, _ => exact ⟨45, _, _, rfl, rfl, .o, .o⟩
  | n + 45, h => exact absurd h (by omega)
/-- str(e) -/
def tStrE (D : Nat → Addr) (i : Nat) : TE := fun σ H Q => ∃ (a : Addr) (k : Nat) (fs : List (Str × V)), σ[i]? = some (some (.ref a)) ∧ k < 45 ∧ ErrAt H a (D k) fs ∧ ∀ m : Str, Q (.str m) H
theorem pe_strE {X : Cx} {x : Str} {i k : Nat} {p pos p1 : Pos} (T : Bn X.mg) (Z : Errs X.prog X.w X.K X.mg X.base D S) (room : Room k X.A) (gl : Gl X "str") (hv : PE X (.Name x p1) (tVar i))
    (st : starEach [.Name x p1] X.env = (false, eval (.Name x p1) X.env) :: starEach [] X.env := by rfl) : PE X (.Call (.Name "str" p) [.Name x p1] [] pos) (tStrE D i) := by
  refine PE.imp (pe_callTy (call_strQ room) gl T.str (by decide +kernel) (pa_cons hv pa_nil) (he := st) (hpl := rfl)) fun σ H Q h => ?_
  obtain ⟨a, k, fs, hσ, hk, ⟨t, m, et, e⟩, q⟩ := h
  refine ⟨_, hσ, ?_⟩
  rcases e with ⟨_, ea⟩ | ⟨dx, ea, _⟩
  · exact ⟨a, D k, t, none, m, rfl, ea, et, Z.str k hk, (Z.ec k hk).hs, q m⟩
  · exact ⟨a, D k, t, some dx, m, rfl, ea, et, Z.str k hk, (Z.ec k hk).hs, q m⟩
structure DfG (P : Program) (w : World) (K : PySem.W.Frag) (mg : Str → Option Value) (base : Heap) (x : Str) (ps : List Str) (k : Nat) (sp : Sp) : Prop where
  ex : ∃ f fd, mg x = some (.ref f) ∧ PySem.W.keepIn K (.ref f) = true ∧ Binds K fd ps [] ∧ FnG P w K mg base CX0 k f fd ps sp
theorem pe_dfG {X : Cx} {x : Str} {ps : List Str} {k : Nat} {sp : Sp} {e : Expr} {es : List Expr} {t : TA} {p pos : Pos} (D : DfG X.prog X.w X.K X.mg X.base x ps k sp) (gd : X.A.guards = some []) (hr : Room k X.A) (hg : Gl X x) (ha : PA X (e :: es) t)
    (hdb : (x == ("__debug__" : Str)) = false := by decide) (hst : starEach (e :: es) X.env = (false, eval e X.env) :: starEach es X.env := by rfl) (hpl : (backTo pos (starEach es X.env)).any (·.1) = false := by rfl) :
    PE X (.Call (.Name x p) (e :: es) [] pos) (tCall sp [] E0 t) := by
  obtain ⟨f, fd, hm, kp, b, F⟩ := D.ex
  exact pe_callG F gd hr hg hm kp b .nil pass0 ha (hdb := hdb) (he := hst) (hpl := hpl)
theorem alike {x : Str} : ¬ ((!decide (V.str x = V.str x)) = true) := by simp
def b24 (k : Nat) : List Bool := [decide (k = 0), decide (k = 1), decide (k = 2), decide (k = 3), decide (k = 4), decide (k = 5), decide (k = 6), decide (k = 7), decide (k = 8), decide (k = 9), decide (k = 10), decide (k = 11), decide (k = 12), decide (k = 13), decide (k = 14), decide (k = 15), decide (k = 16), decide (k = 17), decide (k = 18), decide (k = 19), decide (k = 20), decide (k = 21), decide (k = 22), decide (k = 23)]
def b21 (k : Nat) : List Bool := [decide (k = 24), decide (k = 25), decide (k = 26), decide (k = 27), decide (k = 28), decide (k = 29), decide (k = 30), decide (k = 31), decide (k = 32), decide (k = 33), decide (k = 34), decide (k = 35), decide (k = 36), decide (k = 37), decide (k = 38), decide (k = 39), decide (k = 40), decide (k = 41), decide (k = 42), decide (k = 43), decide (k = 44)]
def b6 (k : Nat) : List Bool := [decide (bs k = 0), decide (bs k = 1), decide (bs k = 2), decide (bs k = 0), decide (bs k = 1), decide (bs k = 2)]
theorem own45 (k : Nat) : (List.range 45).map (fun j => decide (((k : Nat) : Int) = ((j : Nat) : Int))) = b24 k ++ b21 k := by
  have e : (fun j : Nat => decide (((k : Nat) : Int) = ((j : Nat) : Int))) = fun j => decide (k = j) := by
    funext j
    by_cases h : k = j
    · subst h; simp
    · rw [decide_eq_false h, decide_eq_false (by omega)]
  rw [e]
  rfl
theorem own3 (n : Nat) : (List.range 3).map (fun j => decide (((n : Nat) : Int) = ((j : Nat) : Int))) = [decide (n = 0), decide (n = 1), decide (n = 2)] := by
  have e : (fun j : Nat => decide (((n : Nat) : Int) = ((j : Nat) : Int))) = fun j => decide (n = j) := by
    funext j
    by_cases h : n = j
    · subst h; simp
    · rw [decide_eq_false h, decide_eq_false (by omega)]
  rw [e]
  rfl
def spRight : Sp := fun vs H Q _ => ∃ l : Addr, vs = [.ref l] ∧ PotAt H l ∧ ∀ H', SameX l H H' → Q (.bl true) H'
abbrev nRight : List Str := ["_law_pot_here", "_law_a", "_law_b", "_law_letters", "_law_errors", "_law_others", "_law_k", "_law_e", "_law_base", "_law_due", "_law_place"]
theorem scRight : FnScope nRight ["_law_pot_here"] (defScope sRight) := ⟨rfl, rfl, rfl, by decide +kernel, rfl, by decide +kernel, by decide +kernel⟩
/-- which base is due -/
def tBase : TE := fun σ H Q => ∃ k : Nat, σ[6]? = some (some (.int k)) ∧ Q (.int (bs k)) H
theorem base_ (σ : St) (H : Hp) (W : VK) (h : tBase σ H W) : tIf (tTest (tOp (rI0 fun a b => .bl (decide (a < b))) (tVar 6) (tC (.int 40)))) (tC (.int 0)) (tIf (tTest (tOp (rI0 fun a b => .bl (decide (a < b))) (tVar 6) (tC (.int 42)))) (tC (.int 1)) (tC (.int 2))) σ H W := by
  obtain ⟨i, hσ, hw⟩ := h
  refine ⟨_, hσ, _, _, rfl, rfl, _, rfl, ?_⟩
  by_cases c1 : i < 40
  · refine yes (by rw [decide_eq_true (by omega)]) ?_
    have : bs i = 0 := by unfold bs; rw [if_pos c1]
    rw [this] at hw
    exact hw
  · refine no_ (by rw [decide_eq_false (by omega)]; decide) ⟨_, hσ, _, _, rfl, rfl, _, rfl, ?_⟩
    by_cases c2 : i < 42
    · refine yes (by rw [decide_eq_true (by omega)]) ?_
      have : bs i = 1 := by unfold bs; rw [if_neg c1, if_pos c2]
      rw [this] at hw
      exact hw
    · refine no_ (by rw [decide_eq_false (by omega)]; decide) ?_
      have : bs i = 2 := by unfold bs; rw [if_neg c1, if_neg c2]
      rw [this] at hw
      exact hw
/-- the list of the answers that are due -/
def tDueB : TE := fun σ H Q => ∃ n : Nat, σ[8]? = some (some (.int n)) ∧ ∀ H' r, Same H H' → H r = none → H' r = some (.lst ([decide (n = 0), decide (n = 1), decide (n = 2)].map V.bl)) → Q (.ref r) H'
theorem ok_right {f : Addr} {fd : FuncData} (F : Fun K "_law_right" "_law_right" sRight f fd) (T : Bn mg) (Z : Errs P w K mg base D S)
    (DV : Df P w K mg base "_law_value" ["_law_pot_here"] 2 spValue) (DM : DfG P w K mg base "_law_made" ["_law_a", "_law_b"] 5 (spMade D)) (DB : Df P w K mg base "_law_bases" ["_law_e"] 1 (spBits D b6))
    (DF : Df P w K mg base "_law_first_half" ["_law_e"] 1 (spBits D b24)) (DS : Df P w K mg base "_law_second_half" ["_law_e"] 1 (spBits D b21)) (DE : Df P w K mg base "_law_fields" ["_law_e", "_law_letter"] 1 (spFields K))
    (DD : Df P w K mg base "_law_due_fields" ["_law_a", "_law_b", "_law_letter"] 1 spDue) (DN : DfG P w K mg base "_law_named" ["_law_a", "_law_b"] 5 spNamed) : FnG P w K mg base CX0 6 f fd ["_law_pot_here"] spRight := by
  refine F.okG scRight (fun vs H Q E h => ?_) (fun cdv A outer s H vs Q E gd hr h => ?_)
  · obtain ⟨l, rfl, _⟩ := h
    rfl
  · obtain ⟨l, rfl, pot, q⟩ := h
    have h1 : Room 1 _ := hr.mono (by decide)
    have h2 : Room 2 _ := hr.mono (by decide)
    have h3 : Room 3 _ := hr.mono (by decide)
    have dg : (A.deeper (PyProof.Rows.envOfC "_law_right" (defScope sRight) s.heap.objs.size f cdv)).guards = some [] := deeper_guards.trans gd
    have nd := scRight.nd
    refine ⟨_, pss_cons (ps_par (i := 1) (j := 2) (by rfl) nd rfl rfl (by decide) rfl rfl (pa_cons (pe_df DV h2 (by rfl) (pa_cons (pv 0) pa_nil)) (pa_cons (pe_df DV h2 (by rfl) (pa_cons (pv 0) pa_nil)) pa_nil)) (by rfl))
      (pss_cons (ps_set (i := 3) nd rfl (Or.inl rfl) pe_str)
      (pss_cons (ps_par (i := 4) (j := 5) (by rfl) nd rfl rfl (by decide) rfl rfl (pa_cons (pe_dfG DM dg hr (by rfl) (pa_cons (pv 1) (pa_cons (pv 2) pa_nil))) (pa_cons (pe_dfG DM dg hr (by rfl) (pa_cons (pv 2) (pa_cons (pv 1) pa_nil))) pa_nil)) (by rfl))
      (pss_cons (ps_if (pt_cmpR op_ne (pe_callB call_len_seq (by rfl) T.len PySem.boot_len (pa_cons (pv 4) pa_nil)) (pe_callB call_len_str (by rfl) T.len PySem.boot_len (pa_cons (pv 3) pa_nil)) (nomark _)) (pss_one (ps_ret pe_bl)) pss_nil)
      (pss_cons (ps_for PassesOwn.never rfl (pi_enum (by rfl) T.enum (pa_cons (pv 4) pa_nil)) (pg_tup rfl (pgs_cons (pg_name (i := 6) nd rfl (Or.inr rfl)) (pgs_cons (pg_name (i := 7) nd rfl (Or.inl rfl)) pgs_nil)))
        (pss_cons (ps_set (i := 8) nd rfl (Or.inr rfl) (PE.imp (t' := tBase) (pe_ifExp (pt_cmpR op_lt (pv 6) pe_int (nomark _)) pe_int (pe_ifExp (pt_cmpR op_lt (pv 6) pe_int (nomark _)) pe_int pe_int)) base_))
        (pss_cons (ps_setLc (i := 9) (own := [("_law_place", 10)]) (g := gName 10) (tt := tYes) (te := tOp rEq (tVar 8) (tVar 10)) (by rfl) nd rfl rfl (sw_true rfl rfl rfl rfl) (pi_range1 (by rfl) T.range (pa_cons pe_int pa_nil))
          (blkOk_by (own := [("_law_place", 10)]) (N := nRight) (sc := defScope sRight) (by decide +kernel)) (fun _ _ _ _ _ => pg_name (i := 10) nd rfl (Or.inl rfl)) (fun _ _ _ _ _ => pts_nil) (fun _ _ _ _ _ => pe_cmpR op_eq (pv 8) (pv 10) (nomark _)))
        (pss_cons (ps_if (PW.pt (pw_or (pt_cmpR op_ne (pe_callB (call_sg (k := 1) dg h2) (by rfl) T.repr (by decide +kernel) (pa_cons (pe_df DB h1 (by rfl) (pa_cons (pv 7) pa_nil)) pa_nil)) (pe_callB (call_sg (k := 1) dg h2) (by rfl) T.repr (by decide +kernel) (pa_cons (pe_op op_cat (pv 9) (pv 9)) pa_nil)) (nomark _))
            (pw_or1 (pt_not (pt_val (pe_callB call_isi (by rfl) T.isi (by decide +kernel) (pa_cons (pe_strE T Z hr (by rfl) (pv 7)) (pa_cons (pe_bltn (v := .ty "str") (by rfl) T.str (by decide +kernel) rfl) pa_nil)))))))) (pss_one (ps_ret pe_bl)) pss_nil)
        (pss_cons (ps_if (pt_cmpR op_ne (pe_callB (call_sg (k := 1) dg h2) (by rfl) T.repr (by decide +kernel) (pa_cons (pe_op op_cat (pe_df DF h1 (by rfl) (pa_cons (pv 7) pa_nil)) (pe_df DS h1 (by rfl) (pa_cons (pv 7) pa_nil))) pa_nil))
            (pe_callB (call_sg (k := 1) dg h2) (by rfl) T.repr (by decide +kernel) (pa_cons (pe_lc (own := [("_law_place", 10)]) (g := gName 10) (tt := tYes) (te := tOp rEq (tVar 6) (tVar 10)) (by rfl) nd (pi_range1 (by rfl) T.range (pa_cons pe_int pa_nil))
              (blkOk_by (own := [("_law_place", 10)]) (N := nRight) (sc := defScope sRight) (by decide +kernel)) (fun _ _ _ _ _ => pg_name (i := 10) nd rfl (Or.inl rfl)) (fun _ _ _ _ _ => pts_nil) (fun _ _ _ _ _ => pe_cmpR op_eq (pv 6) (pv 10) (nomark _))) pa_nil)) (nomark _)) (pss_one (ps_ret pe_bl)) pss_nil)
        (pss_cons (ps_if (pt_cmpR op_ne (pe_callB (call_sg (k := 2) dg h3) (by rfl) T.repr (by decide +kernel) (pa_cons (pe_df DE h1 (by rfl) (pa_cons (pv 7) (pa_cons (pe_ix ix_str (pv 3) (pv 6) (fun _ _ => rfl)) pa_nil))) pa_nil))
            (pe_callB (call_sg (k := 2) dg h3) (by rfl) T.repr (by decide +kernel) (pa_cons (pe_df DD h1 (by rfl) (pa_cons (pv 1) (pa_cons (pv 2) (pa_cons (pe_ix ix_str (pv 3) (pv 6) (fun _ _ => rfl)) pa_nil)))) pa_nil)) (nomark _)) (pss_one (ps_ret pe_bl)) pss_nil)
        (pss_one (ps_if (pt_cmpR op_ne (pe_callB (call_sg (k := 2) dg h3) (by rfl) T.repr (by decide +kernel) (pa_cons (pe_df DE h1 (by rfl) (pa_cons (pe_ix ix_list (pv 5) (pv 6) (fun _ _ => rfl)) (pa_cons (pe_ix ix_str (pv 3) (pv 6) (fun _ _ => rfl)) pa_nil))) pa_nil))
            (pe_callB (call_sg (k := 2) dg h3) (by rfl) T.repr (by decide +kernel) (pa_cons (pe_df DD h1 (by rfl) (pa_cons (pv 2) (pa_cons (pv 1) (pa_cons (pe_ix ix_str (pv 3) (pv 6) (fun _ _ => rfl)) pa_nil)))) pa_nil)) (nomark _)) (pss_one (ps_ret pe_bl)) pss_nil))))))))
      (pss_one (ps_ret (pe_cmpR op_eq (pe_callB (call_sg (k := 2) dg h3) (by rfl) T.repr (by decide +kernel) (pa_cons (pe_dfG DN dg hr (by rfl) (pa_cons (pv 1) (pa_cons (pv 2) pa_nil))) pa_nil))
        (pe_callB (call_sg (k := 2) dg h3) (by rfl) T.repr (by decide +kernel) (pa_cons (pe_lst (pa_cons (pv 1) (pa_cons (pv 1) (pa_cons (pv 1) (pa_cons (pv 1) (pa_cons (pv 1) (pa_cons (pv 1) (pa_cons (pv 1) (pa_cons (pv 2) (pa_cons (pv 2) (pa_cons (pv 1) (pa_cons (pv 1) (pa_cons (pv 2) (pa_cons (pv 2) pa_nil)))))))))))))) pa_nil)) (nomark _)))))))), ?_⟩
    refine ⟨_, rfl, l, rfl, pot, fun Ha va ta sxa pota vla0 => ⟨_, rfl, l, rfl, pota, fun Hb vb tb sxb potb vlb => ⟨_, _, rfl, ?_⟩⟩⟩
    have vla := vla0.x pota sxb
    have sx := sxa.trans sxb
    clear sxa sxb
    refine ⟨_, rfl, _, rfl, va, vb, ta, tb, rfl, vla, vlb, fun Hc r1 es1 sc nr1 at1 made1 => ?_⟩
    have vla := vla.same sc
    have vlb := vlb.same sc
    refine ⟨_, rfl, _, rfl, vb, va, tb, ta, rfl, vlb, vla, fun Hd r2 es2 sd nr2 at2 made2 => ⟨_, _, rfl, ?_⟩⟩
    have vla := vla.same sd
    have vlb := vlb.same sd
    have at1 := sd _ _ at1
    have made1 := made1.same sd
    have sx := sx.same (Same.trans sc sd)
    clear sc sd nr1 nr2
    have m1 : es1.length = 45 := made1.len
    have m2 : es2.length = 45 := made2.len
    refine ⟨_, rfl, r1, es1.map V.ref, rfl, .inl (SqL.of at1), _, rfl, letters, rfl, by decide +kernel, rfl, _, rfl, no_ (by rw [List.length_map, m1]; decide +kernel) ?_⟩
    refine ⟨_, rfl, r1, _, rfl, SqL.of at1, for_it (walk_enum (K := K) (a := r1) (xs := es1.map V.ref)) (fun i σ G => Same Hd G ∧ ∃ y6 y7 y8 y9 : Option V, σ = [some (.ref l), some va, some vb, some (.str letters), some (.ref r1), some (.ref r2), y6, y7, y8, y9, none])
      ⟨Same.refl Hd, _, _, _, _, rfl⟩ (fun i σ G _ z => SqL.of (z.1 _ _ at1)) ?_ ?_⟩
    · rintro i z σ G _ hi ⟨sG, y6, y7, y8, y9, rfl⟩ ⟨TT, x1, x2, rfl, hT, rfl, e1, e2⟩
      obtain rfl : V.int ((i : Nat) : Int) = x1 := Option.some.inj e1
      obtain ⟨e, he, rfl⟩ := map_get e2
      have k45 : i < 45 := by rw [List.length_map, m1] at hi; exact hi
      have s1 := sNew (o := .tup [V.int (i : Nat), V.ref e]) (Same.refl G) hT
      have t1 : upd G TT (.tup [V.int (i : Nat), V.ref e]) TT = some (.tup [V.int (i : Nat), V.ref e]) := upd_same
      generalize upd G TT (.tup [V.int (i : Nat), V.ref e]) = G1 at s1 t1 ⊢
      have S1 := Same.trans sG s1
      obtain ⟨c, fs, out, hc, hfs, fl, due⟩ := table Z va vb i k45
      obtain ⟨c', fs2, out2, hc2, hfs2, fl2, due2⟩ := table Z vb va i k45
      obtain rfl : c = c' := by rw [hc] at hc2; exact Option.some.inj hc2
      have err1 : ErrAt Hd e (D i) fs := by have := made1.at_ he hfs; rwa [Nat.zero_add] at this
      obtain ⟨e', he'⟩ : ∃ e', es2[i]? = some e' := ⟨es2[i]'(by rw [m2]; exact k45), List.getElem?_eq_getElem _⟩
      have err2 : ErrAt Hd e' (D i) fs2 := by have := made2.at_ he' hfs2; rwa [Nat.zero_add] at this
      have letter : atI letters.cps.toList ((i : Nat) : Int) = some c := by rw [letters_eq]; exact atI_nat hc
      have lz : letters.length ≤ sizeLine := by decide +kernel
      refine ⟨TT, _, rfl, .inl (.inl t1), rfl, _, _, rfl, _, _, rfl, rfl, ?_⟩
      refine ⟨i, rfl, ?_⟩
      refine ⟨3, rfl, by decide, by decide, fun Dd hDd => ?_⟩
      refine lc_new (walk_range (lo := 0) (n := 3)) (fun j => if j < 3 then some (.bl (decide (((bs i : Nat) : Int) = ((j : Nat) : Int)))) else none) (by show 3 < sizeLine; decide) hDd (fun _ _ => trivial) ?_ ?_
      · rintro j x G2 _ hj s2 ⟨rfl, rfl⟩ Kt Kn k1 k2
        refine ⟨rfl, _, rfl, _, rfl, rfl, k1 _ _ ?_ (Same.refl _)⟩
        rw [if_pos hj]
        refine congrArg some (congrArg V.bl ?_)
        refine decide_eq_decide.mpr ⟨fun z => ?_, fun z => ?_⟩
        · rw [z, show ((j : Nat) : Int) = 0 + (j : Nat) by omega]
        · have := V.int.inj z
          omega
      · intro G2 s2 at9
        have eb : kept (fun j => if j < 3 then some (V.bl (decide (((bs i : Nat) : Int) = ((j : Nat) : Int)))) else none) 3 = ([decide (bs i = 0), decide (bs i = 1), decide (bs i = 2)] : List Bool).map V.bl := by
          rw [← own3]
          rfl
        rw [eb] at at9
        have S2 := Same.trans S1 s2
        clear eb
        have SG : ∀ {H1 G1 : Hp} {r : Addr} {vs : List V} {ts : List Str}, Vls H1 vs ts → Same H1 G1 → H1 r = none → G1 r = some (.lst vs) → ∃ B : Addr → Prop, Sg (cxOf CX0 P w K mg base nRight "_law_right" (defScope sRight) f cdv A outer s H E).nox 2 (fun J => J = G1) B (.ref r) (listText ts) := fun h s n e => h.sg s n e
        have few6 : (b6 i).length ≤ 100 := by show 6 ≤ 100; decide
        have few45 : (b24 i ++ b21 i).length ≤ 100 := by show 45 ≤ 100; decide
        have errA := err1.same S2
        refine ⟨_, rfl, e, i, fs, rfl, k45, errA, fun H1 p1 q1 n1 l1 => ?_⟩
        refine ⟨_, _, fun J => J = H1, _, rfl, rfl, bits_sg l1 (by simp [b6]), bt_len _ few6, fun J j => ?_⟩
        subst j
        have at9 := q1 _ _ at9
        refine ⟨_, rfl, _, rfl, Dd, Dd, _, _, rfl, rfl, at9, at9, (by show 6 ≤ sizeLine; decide), fun p2 n2 => ?_⟩
        have q2 := sNew (o := .lst (([decide (bs i = 0), decide (bs i = 1), decide (bs i = 2)] : List Bool).map V.bl ++ ([decide (bs i = 0), decide (bs i = 1), decide (bs i = 2)] : List Bool).map V.bl)) (Same.refl J) n2
        have l2 : upd J p2 (.lst (([decide (bs i = 0), decide (bs i = 1), decide (bs i = 2)] : List Bool).map V.bl ++ ([decide (bs i = 0), decide (bs i = 1), decide (bs i = 2)] : List Bool).map V.bl)) p2 = some (.lst ((b6 i).map V.bl)) := upd_same
        generalize upd J p2 (.lst (([decide (bs i = 0), decide (bs i = 1), decide (bs i = 2)] : List Bool).map V.bl ++ ([decide (bs i = 0), decide (bs i = 1), decide (bs i = 2)] : List Bool).map V.bl)) = J2 at q2 l2 ⊢
        refine ⟨_, _, fun J => J = J2, _, rfl, rfl, bits_sg l2 (by simp [b6]), bt_len _ few6, fun J' j => ?_⟩
        subst j
        have S3 := Same.trans S2 (Same.trans q1 q2)
        refine ⟨rfl, _, rfl, no_ alike ?_⟩
        refine ⟨e, i, fs, rfl, k45, err1.same S3, fun m => ⟨_, _, _, _, true, rfl, .ty "str", .base (.str m), kit_ty (by decide +kernel), true, rfl, no_ (by decide) ?_⟩⟩
        -- of which class
        refine ⟨_, rfl, e, i, fs, rfl, k45, err1.same S3, fun H3 p3 q3 n3 l3 => ?_⟩
        have S4 := Same.trans S3 q3
        refine ⟨_, rfl, e, i, fs, rfl, k45, err1.same S4, fun H4 p4 q4 n4 l4 => ?_⟩
        have S5 := Same.trans S4 q4
        refine ⟨p3, p4, _, _, rfl, rfl, q4 _ _ l3, l4, (by show 45 ≤ sizeLine; decide), fun p5 n5 => ?_⟩
        have q5 := sNew (o := .lst ((b24 i).map V.bl ++ (b21 i).map V.bl)) (Same.refl H4) n5
        have l5 : upd H4 p5 (.lst ((b24 i).map V.bl ++ (b21 i).map V.bl)) p5 = some (.lst ((b24 i ++ b21 i).map V.bl)) := by rw [List.map_append]; exact upd_same
        generalize upd H4 p5 (.lst ((b24 i).map V.bl ++ (b21 i).map V.bl)) = H5 at q5 l5 ⊢
        have S6 := Same.trans S5 q5
        refine ⟨_, _, fun J => J = H5, _, rfl, rfl, bits_sg l5 (by simp [b24]), bt_len _ few45, fun J' j => ?_⟩
        subst j
        refine ⟨45, rfl, by decide, by decide, fun D2 hD2 => ?_⟩
        refine lc_new (walk_range (lo := 0) (n := 45)) (fun j => if j < 45 then some (.bl (decide (((i : Nat) : Int) = ((j : Nat) : Int)))) else none) (by show 45 < sizeLine; decide) hD2 (fun _ _ => trivial) ?_ ?_
        · rintro j x G2 _ hj s2 ⟨rfl, rfl⟩ Kt Kn k1 k2
          refine ⟨rfl, _, rfl, _, rfl, rfl, k1 _ _ ?_ (Same.refl _)⟩
          rw [if_pos hj]
          refine congrArg some (congrArg V.bl ?_)
          refine decide_eq_decide.mpr ⟨fun z => ?_, fun z => ?_⟩
          · rw [z, show ((j : Nat) : Int) = 0 + (j : Nat) by omega]
          · have := V.int.inj z
            omega
        · intro G6 q6 at45
          have eb : kept (fun j => if j < 45 then some (V.bl (decide (((i : Nat) : Int) = ((j : Nat) : Int)))) else none) 45 = (b24 i ++ b21 i).map V.bl := by
            rw [← own45]
            rfl
          rw [eb] at at45
          clear eb
          have S7 := Same.trans S6 q6
          refine ⟨_, _, fun J => J = G6, _, rfl, rfl, bits_sg at45 (by simp [b24]), bt_len _ few45, fun J' j => ?_⟩
          subst j
          refine ⟨rfl, _, rfl, no_ alike ?_⟩
          -- the fields
          obtain ⟨few2, ts, Vo⟩ := due.vls (vla.same S7) (vlb.same S7)
          refine ⟨_, rfl, _, rfl, _, rfl, letters, i, c, rfl, rfl, lz, letter, e, D i, c, fs, out, rfl, Z.xf k45, err1.same S7, fl, fun H8 p8 q8 n8 l8 => ?_⟩
          obtain ⟨B8, sg8⟩ := SG Vo q8 n8 l8
          have S8 := Same.trans S7 q8
          refine ⟨_, _, fun J => J = H8, B8, rfl, rfl, sg8, Vo.fits (by omega), fun J' j => ?_⟩
          subst j
          have Vo := Vo.same q8
          refine ⟨_, rfl, _, rfl, _, rfl, _, rfl, letters, i, c, rfl, rfl, lz, letter, va, vb, c, out, rfl, due, fun H9 p9 q9 n9 l9 => ?_⟩
          obtain ⟨B9, sg9⟩ := SG Vo q9 n9 l9
          have S9 := Same.trans S8 q9
          refine ⟨_, _, fun J => J = H9, B9, rfl, rfl, sg9, Vo.fits (by omega), fun J' j => ?_⟩
          subst j
          refine ⟨rfl, _, rfl, no_ alike ?_⟩
          -- those of the other one
          obtain ⟨few2, ts, Vo⟩ := due2.vls (vlb.same S9) (vla.same S9)
          refine ⟨_, rfl, _, rfl, r2, _, i, .ref e', rfl, rfl, SqL.of (S9 _ _ at2), at_of (j := i) rfl (by rw [List.getElem?_map, he']; rfl), _, rfl, _, rfl, letters, i, c, rfl, rfl, lz, letter, e', D i, c, fs2, out2, rfl, Z.xf k45, err2.same S9, fl2, fun H8 p8 q8 n8 l8 => ?_⟩
          obtain ⟨B8, sg8⟩ := SG Vo q8 n8 l8
          have S8 := Same.trans S9 q8
          refine ⟨_, _, fun J => J = H8, B8, rfl, rfl, sg8, Vo.fits (by omega), fun J' j => ?_⟩
          subst j
          have Vo := Vo.same q8
          refine ⟨_, rfl, _, rfl, _, rfl, _, rfl, letters, i, c, rfl, rfl, lz, letter, vb, va, c, out2, rfl, due2, fun H9 p9 q9 n9 l9 => ?_⟩
          obtain ⟨B9, sg9⟩ := SG Vo q9 n9 l9
          have S9 := Same.trans S8 q9
          refine ⟨_, _, fun J => J = H9, B9, rfl, rfl, sg9, Vo.fits (by omega), fun J' j => ?_⟩
          subst j
          refine ⟨rfl, _, rfl, no_ alike ?_⟩
          exact ⟨S9, _, _, _, _, rfl⟩
    · rintro σ G ⟨sG, y6, y7, y8, y9, rfl⟩
      have va' := vla.same sG
      have vb' := vlb.same sG
      refine ⟨_, rfl, _, rfl, va, vb, ta, tb, rfl, va', vb', fun G1 r s1 nr at_ => ?_⟩
      have V13 : Vls G (nmd va vb) [ta, ta, ta, ta, ta, ta, ta, tb, tb, ta, ta, tb, tb] := .cons va' (.cons va' (.cons va' (.cons va' (.cons va' (.cons va' (.cons va' (.cons vb' (.cons vb' (.cons va' (.cons va' (.cons vb' (.cons vb' .nil))))))))))))
      obtain ⟨B, sg⟩ := V13.sg (X := (cxOf CX0 P w K mg base nRight "_law_right" (defScope sRight) f cdv A outer s H E).nox) s1 nr at_
      refine ⟨_, _, fun J => J = G1, B, rfl, rfl, sg, V13.fits (by show 13 ≤ 20; decide), fun G2 j => ?_⟩
      subst j
      refine ⟨_, rfl, _, rfl, _, rfl, _, rfl, _, rfl, _, rfl, _, rfl, _, rfl, _, rfl, _, rfl, _, rfl, _, rfl, _, rfl, (by show 13 ≤ sizeLine; decide), fun r' nr' => ?_⟩
      have V13' := V13.same s1
      obtain ⟨B2, sg2⟩ := Vls.sg (vs := [va, va, va, va, va, va, va, vb, vb, va, va, vb, vb]) V13' (X := (cxOf CX0 P w K mg base nRight "_law_right" (defScope sRight) f cdv A outer s H E).nox) (sNew (o := .lst [va, va, va, va, va, va, va, vb, vb, va, va, vb, vb]) (Same.refl _) nr') nr' upd_same
      refine ⟨_, _, fun J => J = upd G2 r' (.lst [va, va, va, va, va, va, va, vb, vb, va, va, vb, vb]), B2, rfl, rfl, sg2, V13.fits (by show 13 ≤ 20; decide), fun G3 j => ?_⟩
      subst j
      refine ⟨rfl, ?_⟩
      rw [decide_eq_true rfl]
      exact q _ ((sx.same sG).same (Same.trans s1 (sNew (o := .lst (nmd va vb)) (Same.refl _) nr')))
end
end S14

namespace S14
open PySem L2 GM
section
variable {P : Program} {w : World} {K : PySem.W.Frag} {mg : Str → Option Value} {base : Heap}
def spLaw (K : PySem.W.Frag) : Sp := fun vs H Q _ => ∃ (a : Addr) (ns : List Int), vs = [.ref a] ∧ SqL K H a (ns.map V.int) ∧ ns.length ≤ 63 ∧ ∀ H', Q (.bl true) H'
abbrev nLaw : List Str := ["_law_script", "_law_k"]
theorem scLaw : FnScope nLaw ["_law_script"] (defScope sLaw) := ⟨rfl, rfl, rfl, by decide +kernel, rfl, by decide +kernel, by decide +kernel⟩
theorem ok_law {f : Addr} {fd : FuncData} (F : Fun K "law" "law" sLaw f fd) (B : Bn mg) (DP : Df P w K mg base "_law_pot" ["_law_script", "_law_k"] 1 (spPot K)) (DR : DfG P w K mg base "_law_right" ["_law_pot_here"] 6 spRight) : FnG P w K mg base CX0 7 f fd ["_law_script"] (spLaw K) := by
  refine F.okG scLaw (fun vs H Q E h => ?_) (fun cdv A outer s H vs Q E gd hr h => ?_)
  · obtain ⟨a, ns, rfl, _⟩ := h
    rfl
  · obtain ⟨a, ns, rfl, ha, hlen, q⟩ := h
    have h1 : Room 1 _ := hr.mono (by decide)
    have dg : (A.deeper (PyProof.Rows.envOfC "law" (defScope sLaw) s.heap.objs.size f cdv)).guards = some [] := deeper_guards.trans gd
    refine ⟨_, pss_one (ps_ret (pe_callB (cr_all rfl) (by rfl) B.all (by decide +kernel) (pa_cons (pe_lc (own := [("_law_k", 1)]) (g := gName 1) (tt := tYes) (te := tCall spRight [] E0 (tCons (tCall (spPot K) [] E0 (tCons (tVar 0) (tCons (tVar 1) tNil))) tNil)) (by rfl) scLaw.nd
        (pi_range1 (by rfl) B.range (pa_cons (pe_callB (call_max2 rfl) (by rfl) B.max (by decide +kernel) (pa_cons pe_int (pa_cons (pe_callB (call_min2 rfl) (by rfl) B.min (by decide +kernel) (pa_cons (pe_callB call_len_seq (by rfl) B.len PySem.boot_len (pa_cons (pv 0) pa_nil)) (pa_cons pe_int pa_nil))) pa_nil))) pa_nil))
        (blkOk_by (own := [("_law_k", 1)]) (N := nLaw) (sc := defScope sLaw) (by decide +kernel))
        (fun _ _ _ _ _ => pg_name (i := 1) scLaw.nd rfl (Or.inl rfl)) (fun _ _ _ _ _ => pts_nil)
        (fun _ _ _ _ _ => pe_dfG DR dg hr (by rfl) (pa_cons (pe_df DP h1 (by rfl) (pa_cons (pv 0) (pa_cons (pv 1) pa_nil))) pa_nil))) pa_nil))), ?_⟩
    refine ⟨_, rfl, a, _, rfl, .inl ha, _, _, rfl, _, _, rfl, ?_⟩
    obtain ⟨kk, hkk⟩ : ∃ kk : Int, kk = (if (if (3 : Int) < (((ns.map V.int).length : Nat) : Int) then 3 else (((ns.map V.int).length : Nat) : Int)) > 1 then (if (3 : Int) < (((ns.map V.int).length : Nat) : Int) then 3 else (((ns.map V.int).length : Nat) : Int)) else 1) := ⟨_, rfl⟩
    have hk4 : 1 ≤ kk ∧ kk ≤ 3 := by
      rw [hkk]; split <;> split <;> omega
    refine ⟨kk, by rw [hkk], by omega, by omega, fun D hD => ?_⟩
    clear hkk
    refine lc_it (walk_range (lo := 0) (n := kk.toNat)) (fun i H' => Same H H' ∧ H' D = some (.lst ((List.replicate i true).map V.bl))) ⟨sNew (Same.refl H) hD, upd_same⟩ (fun _ _ _ _ => trivial) ?_ ?_
    · rintro i x _ H1 hi ⟨s1, hw⟩ ⟨rfl, rfl⟩
      have e0 : (0 : Int) + (i : Nat) = (i : Nat) := by omega
      refine ⟨rfl, _, rfl, _, rfl, a, ns, i, (by show [V.ref a, V.int ((0 : Int) + (i : Nat))] = [V.ref a, V.int ((i : Nat) : Int)]; rw [e0]), s1.seq ha, by omega, by omega, fun H2 l s2 nl pot => ?_⟩
      refine ⟨l, rfl, pot, fun H3 sx => ?_⟩
      have s13 : Same H1 H3 := fun b o e => sx b o (ne_of_none e nl) (s2 _ _ e)
      have hw3 := s13 _ _ hw
      refine ⟨_, hw3, ?_, fun b o e => ?_, ?_⟩
      · have sl : sizeLine = 16777216 := sizeLine_eq
        rw [List.length_map, List.length_replicate]
        omega
      · rw [upd_ne (ne_of_none e hD)]
        exact s13 _ _ (s1 _ _ e)
      · rw [upd_same, List.replicate_succ', List.map_append]; rfl
    · rintro H1 ⟨s1, hw⟩
      refine ⟨D, _, rfl, SqL.of hw, ?_⟩
      have e : (List.replicate kk.toNat true).all id = true := by simp
      rw [e]
      exact q H1
end
end S14

/-! The end of a law over one kernel run of the top: the defs' function objects and one Bool over a part of the heap are told. -/
namespace HeX
open PySem PySem.Spec PyProof.Rows L2
/-- one def of the top or of a class: where it stands, its name, its qualified name, its statement, the names that it captures -/
structure Dd where
  at_ : Str × Option Str
  name : Str
  qual : Str
  st : Stmt
  clo : List Str := []
abbrev DdV : Type := Option (Str × Str × Arguments × FuncBody × Scope × Addr × List Str × Value × Addr)
def ddW (K : PySem.W.Frag) (p : Str × Option Str) : DdV := match K.lookup (He.fAd K p) with
  | some ⟨_, _, .func fd, _⟩ => some (fd.name, fd.qualname, fd.params, fd.body, fd.scope, fd.globals, fd.closure.map (·.1), fd.defaults, fd.builtins)
  | _ => none
def Dd.val (d : Dd) : DdV := some (d.name, d.qual, defArgs d.st, .stmts (defBody d.st), defScope d.st, mainGlobals, d.clo, .none, builtinsNs)
def Dd.ok (K : PySem.W.Frag) (d : Dd) : Bool := PySem.W.keepIn K (.ref (He.fAd K d.at_)) && (match K.lookup (He.fAd K d.at_) with
  | some ⟨_, _, .func fd, _⟩ => PySem.W.codeIn K fd.code d.qual
  | _ => false)
/-- what is told of K -/
structure Says (fn : List Dd) (ex : PySem.W.Frag → Bool) (K : PySem.W.Frag) : Prop where
  ok : (fn.all fun d => d.ok K) = true
  ex : ex K = true
  eq : fn.map (fun d => ddW K d.at_) = fn.map Dd.val
/-- the objects that the top's names reach: the classes' and defs' own objects, the classes' dicts, what stands there, and their code -/
def valsOf (g : Addr → Option Obj) (a : Addr) : List Addr := match g a with
  | some ⟨_, _, .dict es _, _⟩ => es.toList.flatMap fun e => He.refV e.val
  | _ => []
def partsOf (g : Addr → Option Obj) (a : Addr) : List Addr := match g a with
  | some ⟨_, _, .cls cd, _⟩ => [cd.ns]
  | some ⟨_, _, .func fd, _⟩ => He.refV fd.code ++ (He.refV fd.defaults ++ fd.closure.map (·.2))
  | some ⟨_, _, .fields vs, _⟩ => vs.toList.flatMap He.refV
  | _ => []
def reach (g : Addr → Option Obj) : List Addr :=
  let l1 := valsOf g mainGlobals
  let l2 := l1.flatMap (partsOf g)
  let l3 := l2.flatMap (valsOf g)
  let l4 := l3.flatMap (partsOf g)
  mainGlobals :: cStatics :: (l1 ++ (l2 ++ (l3 ++ l4)))
def obs (fn : List Dd) (ex : PySem.W.Frag → Bool) (K : PySem.W.Frag) : Bool × List DdV := ((fn.all fun d => d.ok K) && ex K, fn.map fun d => ddW K d.at_)
def val (fn : List Dd) : Bool × List DdV := (true, fn.map Dd.val)
def obsG (fn : List Dd) (ex : PySem.W.Frag → Bool) (g : Addr → Option Obj) : Bool × List DdV := obs fn ex (He.frG g (reach g))
theorem says_of {fn : List Dd} {ex : PySem.W.Frag → Bool} {K : PySem.W.Frag} (e : obs fn ex K = val fn) : Says fn ex K := by
  have e1 : ((fn.all fun d => d.ok K) && ex K) = true := congrArg Prod.fst e
  obtain ⟨h1, h2⟩ := Bool.and_eq_true_iff.mp e1
  exact ⟨h1, h2, congrArg Prod.snd e⟩
def hook (fn : List Dd) (ex : PySem.W.Frag → Bool) : PySem.W.Hook where
  α := Bool × List DdV
  obs := fun s => obsG fn ex s.heap.get?
  val := fun _ => val fn
  says := fun _ h => ∃ K : PySem.W.Frag, K.In h ∧ Says fn ex K
  of := fun _ _ e => ⟨_, He.frG_in, says_of e⟩
  keeps := fun _ _ _ ⟨K, hK, c⟩ k => ⟨K, PySem.W.Frag.In.keeps hK k, c⟩
theorem obs_eq {fn : List Dd} {ex : PySem.W.Frag → Bool} (s : PySem.W.SharedT) : obsG fn ex (HandSHeadRun.getT s) = (hook fn ex).obs s.abs := by
  have e : HandSHeadRun.getT s = s.abs.heap.get? := funext (HandSHeadRun.getT_eq s)
  rw [e] <;> rfl
section
variable {fn : List Dd} {ex : PySem.W.Frag → Bool} {K : PySem.W.Frag}
/-- a def's function object -/
theorem Says.raw (c : Says fn ex K) (i : Nat) {d : Dd} (h : fn[i]? = some d := by rfl) :
    ∃ (oc : Value) (od : Option Addr) (osl : Array (Option Value)) (fd : FuncData), K.lookup (He.fAd K d.at_) = some ⟨oc, od, .func fd, osl⟩ ∧ PySem.W.keepIn K (.ref (He.fAd K d.at_)) = true ∧ PySem.W.codeIn K fd.code d.qual = true ∧
      fd.name = d.name ∧ fd.qualname = d.qual ∧ fd.params = defArgs d.st ∧ fd.body = .stmts (defBody d.st) ∧ fd.scope = defScope d.st ∧ fd.globals = mainGlobals ∧ fd.closure.map (·.1) = d.clo ∧ fd.defaults = .none ∧ fd.builtins = builtinsNs := by
  have e2 : (fn.map fun d => ddW K d.at_)[i]? = (fn.map Dd.val)[i]? := by rw [c.eq]
  rw [List.getElem?_map, List.getElem?_map, h] at e2
  have e3 : ddW K d.at_ = d.val := Option.some.inj e2
  obtain ⟨k1, k2⟩ := Bool.and_eq_true_iff.mp (List.all_eq_true.mp c.ok d (List.mem_of_getElem? h))
  unfold ddW at e3
  cases q : K.lookup (He.fAd K d.at_) with
  | none => rw [q] at k2; cases k2
  | some o =>
    obtain ⟨oc, od, dt, osl⟩ := o
    rw [q] at k2 e3
    cases dt with
    | func fd =>
      have e4 : (some (fd.name, fd.qualname, fd.params, fd.body, fd.scope, fd.globals, fd.closure.map (·.1), fd.defaults, fd.builtins) : DdV) = some (d.name, d.qual, defArgs d.st, .stmts (defBody d.st), defScope d.st, mainGlobals, d.clo, .none, builtinsNs) := e3
      simp only [Option.some.injEq, Prod.mk.injEq] at e4
      obtain ⟨h1, h2, h3, h4, h5, h6, h7, h8, h9⟩ := e4
      exact ⟨oc, od, osl, fd, rfl, k1, k2, h1, h2, h3, h4, h5, h6, h7, h8, h9⟩
    | _ => cases k2
theorem Says.fun_ (c : Says fn ex K) (i : Nat) {d : Dd} (h : fn[i]? = some d := by rfl) (hc : d.clo = [] := by rfl) : ∃ fd, Fun K d.name d.qual d.st (He.fAd K d.at_) fd := by
  obtain ⟨oc, od, osl, fd, lk, kp, cd, h1, h2, h3, h4, h5, h6, h7, h8, h9⟩ := c.raw i h
  obtain ⟨n1, n2, n3, n4, n5, n6, n7, n8, n9, n10, n11, n12, n13, n14, n15⟩ := fd
  dsimp only at h1 h2 h3 h4 h5 h6 h7 h8 h9 cd
  subst h1 h2 h3 h4 h5 h6 h8 h9
  have h7' : n7 = [] := by
    rw [hc] at h7
    exact List.map_eq_nil_iff.mp h7
  subst h7'
  exact ⟨_, ⟨oc, od, n9, n10, n11, n12, n13, n14, osl, rfl, lk, cd⟩, kp⟩
/-- an __init__ that captures its class -/
theorem Says.init (c : Says fn ex K) (i : Nat) {d : Dd} (h : fn[i]? = some d := by rfl) (hc : d.clo = [("__class__" : Str)] := by rfl) :
    ∃ (oc : Value) (od : Option Addr) (osl : Array (Option Value)) (kV doc pm cdv ct : Value) (an : Option Addr) (cc : Addr),
      K.lookup (He.fAd K d.at_) = some ⟨oc, od, .func { name := d.name, qualname := d.qual, params := defArgs d.st, body := .stmts (defBody d.st), scope := defScope d.st, globals := mainGlobals, closure := [(("__class__" : Str), cc)], defaults := .none, kwdefaults := kV, doc := doc, pyModule := pm, annotations := an, code := cdv, closureTuple := ct, builtins := builtinsNs }, osl⟩ ∧ PySem.W.codeIn K cdv d.qual = true := by
  obtain ⟨oc, od, osl, fd, lk, kp, cd, h1, h2, h3, h4, h5, h6, h7, h8, h9⟩ := c.raw i h
  obtain ⟨n1, n2, n3, n4, n5, n6, n7, n8, n9, n10, n11, n12, n13, n14, n15⟩ := fd
  dsimp only at h1 h2 h3 h4 h5 h6 h7 h8 h9 cd
  subst h1 h2 h3 h4 h5 h6 h8 h9
  rw [hc] at h7
  obtain ⟨cc, rfl⟩ : ∃ cc, n7 = [(("__class__" : Str), cc)] := by
    match n7, h7 with
    | [(x, cc)], h7 =>
      cases (List.cons.inj h7).1
      exact ⟨cc, rfl⟩
  exact ⟨oc, od, osl, n9, n10, n11, n13, n14, n12, cc, lk, cd⟩
end
/-- the end of a law by such a head -/
theorem walk_ofX {l : PySem.W.OpenLaw} {n k : Nat} {q : Program} {loose : List Str} {XP : (Str → Option Value) → Heap → Prop} {d : DefRec} {fn : List Dd} {ex : PySem.W.Frag → Bool} {x : Str}
    (hn : l.most = some n) (hn2 : n ≤ sizeLine) (hdf : d.params.defaults = []) (hr : Room k callerA)
    (F : ∀ (w : World) (mg : Str → Option Value) (fa : Addr) (h : Heap) (K : PySem.W.Frag), K.In h → Says fn ex K → h.Ns mainGlobals mg → mg d.name = some (.ref fa) → LawT l w K CX0 k n x mg fa h) :
    PySem.W.WalkO q loose XP (hook fn ex).says l.row.toRowW d [] (fun f vs => PySem.call f vs) := by
  refine Att.attach_call hn hdf ?_
  intro w s₀ s₁ mg mb fa _ _ _ _ a vs ns G Y _ _ _ hmg hobj hints hlen hg
  obtain ⟨K, KX, c⟩ := (show ∃ K : PySem.W.Frag, K.In s₁.heap ∧ Says fn ex K from Y)
  obtain ⟨fd, cs, sp, t1, t2, t3, hb, hsp, hF⟩ := F w mg fa _ K KX c G.T.g hmg
  exact law_callT KX G.T.g G.T.b G.T.builtins G.T.nolimit hg t1 t2 t3 G.T.bmain hobj hints (Nat.le_trans hlen hn2) hr hF hb (fun _ _ _ z => z) fun H hH hS => hsp H a ns hlen hH hS
end HeX

/-! What one Bool over the head's objects tells of an own exception class with its __init__. -/
namespace HeX
open PySem PySem.Spec PyProof.Rows L2
/-- an own exception class: its name, its base's name, the built-in class behind, that one's __new__ and __init__, its attributes -/
structure ErD where
  name : Str
  base : Str
  B : String
  newId : String
  initId : String
  fields : List Str
def tlOf (B : String) : List Value := [.type B, .type "Exception", .type "BaseException", .type "object"]
def excB (K : PySem.W.Frag) (C S : Addr) (tl : List Value) (newId : String) : Bool := match K.lookup C with
  | some ⟨.type c, _, .cls cd, sl⟩ => decide (c = "type") && (match cd.mro, sl.toList with
    | .ref C' :: bm, [_, _, _, _, some (.builtin n), _] => decide (C' = C) && (decide (n = newId) && (!cd.hasDel && (cd.hasDict && decide (bm = .ref S :: tl))))
    | _, _ => false)
  | _ => false
theorem excB_ok {K : PySem.W.Frag} {C S : Addr} {tl : List Value} {newId : String} (h : excB K C S tl newId = true) :
    ∃ nm q N bs sn sub ab col dd k0 k1 k2 k3 k5, K.lookup C = some (excClassObj nm q C N bs (.ref S :: tl) true sn sub ab col dd k0 k1 k2 k3 k5 newId) := by
  unfold excB at h
  split at h
  · rename_i c dd cd sl look
    obtain ⟨h1, h2⟩ := Bool.and_eq_true_iff.mp h
    split at h2
    · rename_i C' bm k0 k1 k2 k3 n k5 em es
      obtain ⟨a1, h2⟩ := Bool.and_eq_true_iff.mp h2
      obtain ⟨a2, h2⟩ := Bool.and_eq_true_iff.mp h2
      obtain ⟨a3, h2⟩ := Bool.and_eq_true_iff.mp h2
      obtain ⟨a4, a5⟩ := Bool.and_eq_true_iff.mp h2
      obtain ⟨nm, bs, mro, ns, qn, hd, sn, sb, ab, col, del⟩ := cd
      have e1 := of_decide_eq_true a1
      have e2 := of_decide_eq_true a2
      have e5 := of_decide_eq_true a5
      have e3 : del = false := by simpa using a3
      dsimp only at em a4
      subst e1 e2 e3 a4 e5 em
      have ec := of_decide_eq_true h1
      subst ec
      refine ⟨nm, qn, ns, bs, sn, sb, ab, col, dd, k0, k1, k2, k3, k5, ?_⟩
      rw [look]
      obtain ⟨l⟩ := sl
      have es' : l = [k0, k1, k2, k3, some (.builtin n), k5] := es
      subst es'
      rfl
    · cases h2
  · cases h
def fileB (K : PySem.W.Frag) (cd : Value) (file : Str) : Bool := match cd with
  | .ref c => (match K.lookup c with
    | some ⟨_, _, .fields vs, _⟩ => (match (vs[2]? : Option Value) with
      | some (Value.str f _) => decide (f = file)
      | _ => false)
    | _ => false)
  | _ => false
theorem fileB_ok {K : PySem.W.Frag} {cd : Value} {file : Str} (h : fileB K cd file = true) : ∃ c k1 k2 vs k3 tf, cd = .ref c ∧ K.lookup c = some ⟨k1, k2, .fields vs, k3⟩ ∧ vs[2]? = some (.str file tf) := by
  unfold fileB at h
  split at h
  · rename_i c
    split at h
    · rename_i k1 k2 vs k3 look
      split at h
      · rename_i f tf e
        have ef := of_decide_eq_true h
        subst ef
        exact ⟨c, k1, k2, vs, k3, tf, rfl, look, e⟩
      · cases h
    · cases h
  · cases h
def cellB (K : PySem.W.Frag) (cc C : Addr) : Bool := match K.lookup cc with
  | some ⟨.type c, _, .cell (some (.ref D)), _⟩ => decide (c = "cell") && decide (D = C)
  | _ => false
theorem cellB_ok {K : PySem.W.Frag} {cc C : Addr} (h : cellB K cc C = true) : ∃ d sl, K.lookup cc = some ⟨.type "cell", d, .cell (some (.ref C)), sl⟩ := by
  unfold cellB at h
  split at h
  · rename_i c d D sl look
    obtain ⟨h1, h2⟩ := Bool.and_eq_true_iff.mp h
    have e1 := of_decide_eq_true h1
    have e2 := of_decide_eq_true h2
    subst e1 e2
    exact ⟨d, sl, look⟩
  · cases h
def initB (K : PySem.W.Frag) (C g : Addr) (file : Str) : Bool := match K.lookup g with
  | some ⟨_, _, .func fd, _⟩ => (match fd.closure with
    | [(_, cc)] => cellB K cc C
    | _ => false) && fileB K fd.code file
  | _ => false
/-- the checks of one class -/
def errL (file : Str) (K : PySem.W.Frag) (d : ErD) : List Bool :=
  let C := He.ga K d.name
  let g := He.ma K C "__init__"
  [He.eqO (PySem.W.nsIn K mainGlobals d.name) (some (some (.ref C))), excB K C (He.ga K d.base) (tlOf d.B) d.newId, He.eqO (PySem.W.findIn K (.ref C) "__setattr__") (some (some (.builtin "object.__setattr__"))),
    He.eqO (PySem.W.findIn K (.ref C) "__init__") (some (some (.ref g))), decide (PySem.W.typeIn K (.ref g) = some (.type "function")), PySem.W.keepIn K (.ref C),
    He.eqO (PySem.W.findIn K (.ref C) "__getattribute__") (some (some (.builtin "BaseException.__getattribute__"))), He.eqO (PySem.W.findIn K (.ref C) "__getattr__") (some none), PySem.W.hasDictIn K C,
    He.eqO (PySem.W.findIn K (.ref C) "__class__") (some (some (.builtin "object.__class__"))), He.eqO (PySem.W.findIn K (.ref C) "__str__") (some (some (.builtin "BaseException.__str__"))),
    He.eqO (PySem.W.ks_superIn K C C "__init__") (some (some (.builtin d.initId))), d.fields.all fun f => He.eqO (PySem.W.findIn K (.ref C) f) (some none), initB K C g file, PySem.W.isClsIn K C, decide (PySem.W.typeIn K (.ref C) = some (.type "type"))]
def errB (file : Str) (K : PySem.W.Frag) (d : ErD) : Bool := (errL file K d).all id
/-- what they say -/
structure ErrX (file : Str) (K : PySem.W.Frag) (d : ErD) : Prop where
  at_ : PySem.W.nsIn K mainGlobals d.name = some (some (.ref (He.ga K d.name)))
  cls : ∃ nm q N bs sn sub ab col dd k0 k1 k2 k3 k5, K.lookup (He.ga K d.name) = some (excClassObj nm q (He.ga K d.name) N bs (.ref (He.ga K d.base) :: tlOf d.B) true sn sub ab col dd k0 k1 k2 k3 k5 d.newId)
  sa : PySem.W.findIn K (.ref (He.ga K d.name)) "__setattr__" = some (some (.builtin "object.__setattr__"))
  init : PySem.W.findIn K (.ref (He.ga K d.name)) "__init__" = some (some (.ref (He.ma K (He.ga K d.name) "__init__")))
  isfn : PySem.W.typeIn K (.ref (He.ma K (He.ga K d.name) "__init__")) = some (.type "function")
  keep : PySem.W.keepIn K (.ref (He.ga K d.name)) = true
  hg : PySem.W.findIn K (.ref (He.ga K d.name)) "__getattribute__" = some (some (.builtin "BaseException.__getattribute__"))
  hk : PySem.W.findIn K (.ref (He.ga K d.name)) "__getattr__" = some none
  hd : PySem.W.hasDictIn K (He.ga K d.name) = true
  ha : PySem.W.findIn K (.ref (He.ga K d.name)) "__class__" = some (some (.builtin "object.__class__"))
  str : PySem.W.findIn K (.ref (He.ga K d.name)) "__str__" = some (some (.builtin "BaseException.__str__"))
  sup : PySem.W.ks_superIn K (He.ga K d.name) (He.ga K d.name) "__init__" = some (some (.builtin d.initId))
  no : ∀ f ∈ d.fields, PySem.W.findIn K (.ref (He.ga K d.name)) f = some none
  ini : initB K (He.ga K d.name) (He.ma K (He.ga K d.name) "__init__") file = true
  isC : PySem.W.isClsIn K (He.ga K d.name) = true
  ty : PySem.W.typeIn K (.ref (He.ga K d.name)) = some (.type "type")
theorem errB_ok {file : Str} {K : PySem.W.Frag} {d : ErD} (h : errB file K d = true) : ErrX file K d := by
  have all := List.all_eq_true.mp h
  have at_ : ∀ (i : Nat) (b : Bool), (errL file K d)[i]? = some b → b = true := fun i b e => all b (List.mem_of_getElem? e)
  refine ⟨He.eqO_ok (at_ 0 _ rfl), excB_ok (at_ 1 _ rfl), He.eqO_ok (at_ 2 _ rfl), He.eqO_ok (at_ 3 _ rfl), of_decide_eq_true (at_ 4 _ rfl), at_ 5 _ rfl, He.eqO_ok (at_ 6 _ rfl), He.eqO_ok (at_ 7 _ rfl), at_ 8 _ rfl, He.eqO_ok (at_ 9 _ rfl), He.eqO_ok (at_ 10 _ rfl), He.eqO_ok (at_ 11 _ rfl), ?_, at_ 13 _ rfl, at_ 14 _ rfl, of_decide_eq_true (at_ 15 _ rfl)⟩
  intro f hf
  exact He.eqO_ok (List.all_eq_true.mp (at_ 12 _ rfl) f hf)
section
variable {file : Str} {K : PySem.W.Frag} {d : ErD}
theorem ErrX.mro (X : ErrX file K d) (v : Value) : PySem.W.subIn K (.ref (He.ga K d.name)) v = some ((Value.ref (He.ga K d.name) :: .ref (He.ga K d.base) :: tlOf d.B).contains v) := by
  obtain ⟨nm, q, N, bs, sn, sub, ab, col, dd, k0, k1, k2, k3, k5, hC⟩ := X.cls
  show PySem.W.mroIn K _ v = _
  unfold PySem.W.mroIn PySem.W.clsIn
  rw [hC]
  rfl
/-- isinstance of its instances against a class of the program -/
theorem ErrX.kit (X : ErrX file K d) {C : Addr} (i : PySem.W.isClsIn K C = true) (t : PySem.W.typeIn K (.ref C) = some (.type "type")) :
    PySem.W.kitOne K (.ref (He.ga K d.name)) (.ref C) = some (decide (He.ga K d.name = C) || decide (He.ga K d.base = C)) := by
  unfold PySem.W.kitOne
  by_cases e : He.ga K d.name = C
  · rw [if_pos (by rw [e]; exact beq_self_eq_true _), decide_eq_true e]
    rfl
  · rw [if_neg (by simpa using e), decide_eq_false e]
    have two : ((PySem.W.clsIn K C).isSome && PySem.W.typeIn K (.ref C) == some (.type "type")) = true := by
      rw [t, Bool.and_eq_true]
      exact ⟨i, beq_self_eq_true _⟩
    show (if ((PySem.W.clsIn K C).isSome && PySem.W.typeIn K (.ref C) == some (.type "type")) = true then PySem.W.subIn K (.ref (He.ga K d.name)) (.ref C) else none) = _
    rw [if_pos two, X.mro]
    have e' : ((Value.ref C == Value.ref (He.ga K d.name)) : Bool) = false := by simpa using fun z => e z.symm
    have tl0 : (tlOf d.B).contains (.ref C) = false := rfl
    rw [List.contains_cons, List.contains_cons, e', tl0, Bool.or_false, Bool.false_or, Bool.false_or]
    by_cases e2 : He.ga K d.base = C
    · rw [decide_eq_true e2, e2]
      simp
    · rw [decide_eq_false e2]
      have : ((Value.ref C == Value.ref (He.ga K d.base)) : Bool) = false := by simpa using fun z => e2 z.symm
      rw [this]
/-- .. against a built-in class -/
theorem ErrX.kitT (X : ErrX file K d) {T : String} (m : PySem.W.kitMeta T = true) : PySem.W.kitOne K (.ref (He.ga K d.name)) (.type T) = some ((tlOf d.B).contains (.type T)) := by
  unfold PySem.W.kitOne
  rw [if_neg (by simp)]
  show (if PySem.W.kitMeta T = true then PySem.W.subIn K (.ref (He.ga K d.name)) (.type T) else none) = _
  rw [if_pos m, X.mro, List.contains_cons, List.contains_cons]
  rfl
/-- what the law needs of object.__class__ -/
structure Obj1 (K : PySem.W.Frag) : Prop where
  gt : PySem.W.specialIn K (.builtin "object.__class__") "__get__" = some (some (.builtin "getset_descriptor.__get__"))
  tk : PySem.W.takesIn K (.builtin "object.__class__") = some true
theorem ErrX.ec (X : ErrX file K d) (O : Obj1 K) : ExcC K (He.ga K d.name) := by
  refine ⟨X.hg, X.hk, ?_, X.hd, X.ha, O.gt, O.tk, ?_⟩
  · rw [X.mro]
    simp [tlOf]
  · have := X.mro (.type "object")
    show PySem.W.subIn K (.ref (He.ga K d.name)) (.type "object") = some true
    rw [this]
    simp [tlOf]
theorem tail_to (S : Addr) (B : String) : refsTo (tlOf B) (.ref S :: tlOf B) = true := by
  show refsTo (tlOf B) (tlOf B) = true
  show decide (tlOf B = tlOf B) = true
  exact decide_eq_true rfl
theorem ErrX.ek (X : ErrX file K d) (O : Obj1 K) (FB : ExcBaseFacts d.B d.newId d.initId (tlOf d.B)) (T : Tl (tlOf d.B)) : ErrK K (He.ga K d.name) (He.ma K (He.ga K d.name) "__init__") := by
  obtain ⟨nm, q, N, bs, sn, sub, ab, col, dd, k0, k1, k2, k3, k5, hC⟩ := X.cls
  exact ⟨⟨d.B, d.newId, d.initId, tlOf d.B, nm, q, N, bs, _, sn, sub, ab, col, dd, k0, k1, k2, k3, k5, FB, T, hC, tail_to _ _⟩, X.sa, X.init, X.isfn, X.keep, X.ec O, X.str⟩
/-- the cell that its __init__ captures, and what super() wants -/
theorem ErrX.cell (X : ErrX file K d) {oc : Value} {od : Option Addr} {osl : Array (Option Value)} {fd : FuncData} {x : Str} {cc : Addr} (look : K.lookup (He.ma K (He.ga K d.name) "__init__") = some ⟨oc, od, .func fd, osl⟩) (h : fd.closure = [(x, cc)]) :
    (∃ dd sl, K.lookup cc = some ⟨.type "cell", dd, .cell (some (.ref (He.ga K d.name))), sl⟩) ∧ fileB K fd.code file = true := by
  have z := X.ini
  unfold initB at z
  rw [look] at z
  dsimp only at z
  rw [h] at z
  obtain ⟨z1, z2⟩ := Bool.and_eq_true_iff.mp z
  exact ⟨cellB_ok z1, z2⟩
theorem ErrX.supK (X : ErrX file K d) {P : Program} {mg : Str → Option Value} {oc : Value} {od : Option Addr} {osl : Array (Option Value)} {fd : FuncData} {x : Str} {cc : Addr} {ar : Arg} (look : K.lookup (He.ma K (He.ga K d.name) "__init__") = some ⟨oc, od, .func fd, osl⟩) (h : fd.closure = [(x, cc)])
    (hp : (fd.params.posonlyargs ++ fd.params.args).head? = some ar) (loc : fd.scope.names.lookup ar.arg = some .local) (pf : ((P.main.file : Str) == file) = true) (top : (P.main.scope.names.lookup ("super" : Str)).isSome = false) (ms : mg "super" = none)
    (op : PySem.W.nsIn K cStatics "thirdparty.any" = some none) : SupK d.B d.newId d.initId (tlOf d.B) P K mg (He.ga K d.name) (He.ma K (He.ga K d.name) "__init__") fd ar := by
  obtain ⟨_, fl⟩ := X.cell look h
  obtain ⟨c, k1, k2, vs, k3, tf, e1, e2, e3⟩ := fileB_ok fl
  obtain ⟨nm, q, N, bs, sn, sub, ab, col, dd, j0, j1, j2, j3, j5, hC⟩ := X.cls
  refine ⟨⟨oc, od, osl, look⟩, hp, loc, ⟨c, k1, k2, vs, k3, file, tf, e1, e2, e3, pf⟩, top, ms, ⟨nm, q, N, bs, _, sn, sub, ab, col, dd, j0, j1, j2, j3, j5, hC, tail_to _ _⟩, X.sup, ?_, ?_, op⟩
  · rw [X.mro, List.contains_cons, List.contains_cons]
    congr 1
    simp [tlOf]
  · rw [X.mro]
    simp
end
end HeX

/-! The run of the top, told in parts: each part is a theorem of its own, so that none takes all the memory. -/
namespace HeX
open PySem PySem.W L2
section
variable {st : Option SharedT} {look : SharedT → Bool} {β : Type} {seen : SharedT → β} {good : β} {d1 d2 : List Dd} {ex : Frag → Bool}
theorem runs_join (h1 : st.map (fun s => (look s, seen s)) = some (true, good)) (h2 : st.map (fun s => obsG d1 (fun _ => true) (HandSHeadRun.getT s)) = some (val d1))
    (h3 : st.map (fun s => obsG d2 (fun _ => true) (HandSHeadRun.getT s)) = some (val d2)) (h4 : st.map (fun s => obsG [] ex (HandSHeadRun.getT s)) = some (val [])) :
    st.map (fun s => (look s, seen s, obsG (d1 ++ d2) ex (HandSHeadRun.getT s))) = some (true, good, val (d1 ++ d2)) := by
  cases st with
  | none => cases h1
  | some s =>
    have e1 := Option.some.inj h1
    have e2 := Option.some.inj h2
    have e3 := Option.some.inj h3
    have e4 := Option.some.inj h4
    obtain ⟨a1, a2⟩ := Prod.mk.inj e1
    obtain ⟨b1, b2⟩ := Prod.mk.inj e2
    obtain ⟨c1, c2⟩ := Prod.mk.inj e3
    have f1 := (Prod.mk.inj e4).1
    have f2 : ex (He.frG (HandSHeadRun.getT s) (reach (HandSHeadRun.getT s))) = true := f1
    show some (look s, seen s, obsG (d1 ++ d2) ex (HandSHeadRun.getT s)) = _
    rw [a1, a2]
    have whole : obsG (d1 ++ d2) ex (HandSHeadRun.getT s) = val (d1 ++ d2) := by
      refine Prod.ext ?_ ?_
      · show ((d1 ++ d2).all _ && _) = true
        rw [List.all_append, (Bool.and_eq_true_iff.mp b1).1, (Bool.and_eq_true_iff.mp c1).1, f2]
        rfl
      · show (d1 ++ d2).map _ = (d1 ++ d2).map _
        rw [List.map_append, List.map_append]
        exact congr (congrArg _ b2) c2
    rw [whole]
end
end HeX

namespace S14
open PySem PySem.W PySem.Calls PyProof.Rows
/-! ### the head: what is told, and its run -/
open HeX in
def dd0 : List Dd := [⟨("_law_pot", none), "_law_pot", "_law_pot", sPot, []⟩, ⟨("_law_draw", none), "_law_draw", "_law_draw", sDraw, []⟩, ⟨("_law_value", none), "_law_value", "_law_value", sValue, []⟩, ⟨("_law_first_half", none), "_law_first_half", "_law_first_half", sFirst, []⟩, ⟨("_law_second_half", none), "_law_second_half", "_law_second_half", sSecond, []⟩, ⟨("_law_bases", none), "_law_bases", "_law_bases", sBases, []⟩, ⟨("_law_made", none), "_law_made", "_law_made", sMade, []⟩, ⟨("_law_named", none), "_law_named", "_law_named", sNamed, []⟩, ⟨("_law_fields", none), "_law_fields", "_law_fields", sFields, []⟩, ⟨("_law_due_fields", none), "_law_due_fields", "_law_due_fields", sDue, []⟩, ⟨("_law_right", none), "_law_right", "_law_right", sRight, []⟩, ⟨("law", none), "law", "law", sLaw, []⟩]
open HeX in
def dd1 : List Dd := [⟨("InvalidNumber", some "__init__"), "__init__", "InvalidNumber.__init__", sI0, ["__class__"]⟩, ⟨("InvalidName", some "__init__"), "__init__", "InvalidName.__init__", sI1, ["__class__"]⟩, ⟨("InvalidCount", some "__init__"), "__init__", "InvalidCount.__init__", sI2, ["__class__"]⟩, ⟨("InvalidSlots", some "__init__"), "__init__", "InvalidSlots.__init__", sI3, ["__class__"]⟩, ⟨("InvalidTurn", some "__init__"), "__init__", "InvalidTurn.__init__", sI4, ["__class__"]⟩, ⟨("InvalidPlaces", some "__init__"), "__init__", "InvalidPlaces.__init__", sI5, ["__class__"]⟩, ⟨("InvalidSizes", some "__init__"), "__init__", "InvalidSizes.__init__", sI6, ["__class__"]⟩, ⟨("InvalidContents", some "__init__"), "__init__", "InvalidContents.__init__", sI7, ["__class__"]⟩, ⟨("InvalidEntry", some "__init__"), "__init__", "InvalidEntry.__init__", sI8, ["__class__"]⟩, ⟨("InvalidTold", some "__init__"), "__init__", "InvalidTold.__init__", sI9, ["__class__"]⟩, ⟨("InvalidFactors", some "__init__"), "__init__", "InvalidFactors.__init__", sI10, ["__class__"]⟩, ⟨("InvalidSorts", some "__init__"), "__init__", "InvalidSorts.__init__", sI11, ["__class__"]⟩, ⟨("InvalidTerms", some "__init__"), "__init__", "InvalidTerms.__init__", sI12, ["__class__"]⟩, ⟨("InvalidExpression", some "__init__"), "__init__", "InvalidExpression.__init__", sI13, ["__class__"]⟩, ⟨("InvalidHeld", some "__init__"), "__init__", "InvalidHeld.__init__", sI14, ["__class__"]⟩]
open HeX in
def er0 : List ErD := [⟨"InvalidNumber", "SlotsumsError", "ValueError", "ValueError.__new__", "ValueError.__init__", ["value"]⟩, ⟨"InvalidName", "SlotsumsError", "ValueError", "ValueError.__new__", "ValueError.__init__", ["value"]⟩, ⟨"InvalidCount", "SlotsumsError", "ValueError", "ValueError.__new__", "ValueError.__init__", ["value"]⟩, ⟨"InvalidSlots", "SlotsumsError", "ValueError", "ValueError.__new__", "ValueError.__init__", ["position"]⟩, ⟨"InvalidTurn", "SlotsumsError", "ValueError", "ValueError.__new__", "ValueError.__init__", ["position"]⟩, ⟨"InvalidPlaces", "SlotsumsError", "ValueError", "ValueError.__new__", "ValueError.__init__", ["value"]⟩, ⟨"InvalidSizes", "SlotsumsError", "ValueError", "ValueError.__new__", "ValueError.__init__", ["value"]⟩, ⟨"InvalidContents", "SlotsumsError", "ValueError", "ValueError.__new__", "ValueError.__init__", ["position"]⟩, ⟨"InvalidEntry", "SlotsumsError", "ValueError", "ValueError.__new__", "ValueError.__init__", ["position", "places"]⟩, ⟨"InvalidTold", "SlotsumsError", "ValueError", "ValueError.__new__", "ValueError.__init__", ["position"]⟩, ⟨"InvalidFactors", "SlotsumsError", "ValueError", "ValueError.__new__", "ValueError.__init__", ["position"]⟩, ⟨"InvalidSorts", "SlotsumsError", "ValueError", "ValueError.__new__", "ValueError.__init__", ["position"]⟩, ⟨"InvalidTerms", "SlotsumsError", "ValueError", "ValueError.__new__", "ValueError.__init__", ["position"]⟩, ⟨"InvalidExpression", "SlotsumsError", "ValueError", "ValueError.__new__", "ValueError.__init__", ["value"]⟩, ⟨"InvalidHeld", "SlotsumsError", "ValueError", "ValueError.__new__", "ValueError.__init__", ["position"]⟩]
def nm0 : List Str := ["InvalidNumber", "InvalidName", "InvalidCount", "InvalidSlots", "InvalidTurn", "InvalidPlaces", "InvalidSizes", "InvalidContents", "InvalidEntry", "InvalidTold", "InvalidFactors", "InvalidSorts", "InvalidTerms", "InvalidExpression", "InvalidHeld"]
open HeX in
def dd2 : List Dd := [⟨("InvalidPosition", some "__init__"), "__init__", "InvalidPosition.__init__", sI15, ["__class__"]⟩, ⟨("InvalidSum", some "__init__"), "__init__", "InvalidSum.__init__", sI16, ["__class__"]⟩, ⟨("InvalidOrder", some "__init__"), "__init__", "InvalidOrder.__init__", sI17, ["__class__"]⟩, ⟨("InvalidPartition", some "__init__"), "__init__", "InvalidPartition.__init__", sI18, ["__class__"]⟩, ⟨("InvalidExpressions", some "__init__"), "__init__", "InvalidExpressions.__init__", sI19, ["__class__"]⟩, ⟨("InvalidPlan", some "__init__"), "__init__", "InvalidPlan.__init__", sI20, ["__class__"]⟩, ⟨("InvalidNames", some "__init__"), "__init__", "InvalidNames.__init__", sI21, ["__class__"]⟩, ⟨("InvalidPolynomial", some "__init__"), "__init__", "InvalidPolynomial.__init__", sI22, ["__class__"]⟩, ⟨("InvalidGrowth", some "__init__"), "__init__", "InvalidGrowth.__init__", sI23, ["__class__"]⟩, ⟨("InvalidChange", some "__init__"), "__init__", "InvalidChange.__init__", sI24, ["__class__"]⟩, ⟨("InvalidWeights", some "__init__"), "__init__", "InvalidWeights.__init__", sI25, ["__class__"]⟩, ⟨("InvalidPatterns", some "__init__"), "__init__", "InvalidPatterns.__init__", sI26, ["__class__"]⟩, ⟨("EmptyEntry", some "__init__"), "__init__", "EmptyEntry.__init__", sI27, ["__class__"]⟩, ⟨("InvalidText", some "__init__"), "__init__", "InvalidText.__init__", sI28, ["__class__"]⟩, ⟨("InvalidDefinitions", some "__init__"), "__init__", "InvalidDefinitions.__init__", sI29, ["__class__"]⟩]
open HeX in
def er1 : List ErD := [⟨"InvalidPosition", "SlotsumsError", "ValueError", "ValueError.__new__", "ValueError.__init__", ["value"]⟩, ⟨"InvalidSum", "SlotsumsError", "ValueError", "ValueError.__new__", "ValueError.__init__", ["position"]⟩, ⟨"InvalidOrder", "SlotsumsError", "ValueError", "ValueError.__new__", "ValueError.__init__", ["value"]⟩, ⟨"InvalidPartition", "SlotsumsError", "ValueError", "ValueError.__new__", "ValueError.__init__", ["value"]⟩, ⟨"InvalidExpressions", "SlotsumsError", "ValueError", "ValueError.__new__", "ValueError.__init__", ["position"]⟩, ⟨"InvalidPlan", "SlotsumsError", "ValueError", "ValueError.__new__", "ValueError.__init__", ["value"]⟩, ⟨"InvalidNames", "SlotsumsError", "ValueError", "ValueError.__new__", "ValueError.__init__", ["value"]⟩, ⟨"InvalidPolynomial", "SlotsumsError", "ValueError", "ValueError.__new__", "ValueError.__init__", ["value"]⟩, ⟨"InvalidGrowth", "SlotsumsError", "ValueError", "ValueError.__new__", "ValueError.__init__", ["value"]⟩, ⟨"InvalidChange", "SlotsumsError", "ValueError", "ValueError.__new__", "ValueError.__init__", ["value"]⟩, ⟨"InvalidWeights", "SlotsumsError", "ValueError", "ValueError.__new__", "ValueError.__init__", ["value"]⟩, ⟨"InvalidPatterns", "SlotsumsError", "ValueError", "ValueError.__new__", "ValueError.__init__", ["position"]⟩, ⟨"EmptyEntry", "SlotsumsError", "ValueError", "ValueError.__new__", "ValueError.__init__", ["position", "places"]⟩, ⟨"InvalidText", "SlotsumsError", "ValueError", "ValueError.__new__", "ValueError.__init__", ["line"]⟩, ⟨"InvalidDefinitions", "SlotsumsError", "ValueError", "ValueError.__new__", "ValueError.__init__", ["position"]⟩]
def nm1 : List Str := ["InvalidPosition", "InvalidSum", "InvalidOrder", "InvalidPartition", "InvalidExpressions", "InvalidPlan", "InvalidNames", "InvalidPolynomial", "InvalidGrowth", "InvalidChange", "InvalidWeights", "InvalidPatterns", "EmptyEntry", "InvalidText", "InvalidDefinitions"]
open HeX in
def dd3 : List Dd := [⟨("InvalidClaim", some "__init__"), "__init__", "InvalidClaim.__init__", sI30, ["__class__"]⟩, ⟨("InvalidCommand", some "__init__"), "__init__", "InvalidCommand.__init__", sI31, ["__class__"]⟩, ⟨("OtherSort", some "__init__"), "__init__", "OtherSort.__init__", sI32, ["__class__"]⟩, ⟨("OtherSorts", some "__init__"), "__init__", "OtherSorts.__init__", sI33, ["__class__"]⟩, ⟨("OtherTable", some "__init__"), "__init__", "OtherTable.__init__", sI34, ["__class__"]⟩, ⟨("OtherNames", some "__init__"), "__init__", "OtherNames.__init__", sI35, ["__class__"]⟩, ⟨("Vanishing", some "__init__"), "__init__", "Vanishing.__init__", sI36, ["__class__"]⟩, ⟨("ChangesSign", some "__init__"), "__init__", "ChangesSign.__init__", sI37, ["__class__"]⟩, ⟨("NoFactors", some "__init__"), "__init__", "NoFactors.__init__", sI38, ["__class__"]⟩, ⟨("TooMany", some "__init__"), "__init__", "TooMany.__init__", sI39, ["__class__"]⟩, ⟨("UnknownSort", some "__init__"), "__init__", "UnknownSort.__init__", sI40, ["__class__"]⟩, ⟨("UnknownName", some "__init__"), "__init__", "UnknownName.__init__", sI41, ["__class__"]⟩, ⟨("NameTaken", some "__init__"), "__init__", "NameTaken.__init__", sI42, ["__class__"]⟩, ⟨("NothingToUndo", some "__init__"), "__init__", "NothingToUndo.__init__", sI43, ["__class__"]⟩, ⟨("DividedByZero", some "__init__"), "__init__", "DividedByZero.__init__", sI44, ["__class__"]⟩]
open HeX in
def er2 : List ErD := [⟨"InvalidClaim", "SlotsumsError", "ValueError", "ValueError.__new__", "ValueError.__init__", ["value"]⟩, ⟨"InvalidCommand", "SlotsumsError", "ValueError", "ValueError.__new__", "ValueError.__init__", ["value"]⟩, ⟨"OtherSort", "SlotsumsError", "ValueError", "ValueError.__new__", "ValueError.__init__", ["name"]⟩, ⟨"OtherSorts", "SlotsumsError", "ValueError", "ValueError.__new__", "ValueError.__init__", ["position"]⟩, ⟨"OtherTable", "SlotsumsError", "ValueError", "ValueError.__new__", "ValueError.__init__", ["name"]⟩, ⟨"OtherNames", "SlotsumsError", "ValueError", "ValueError.__new__", "ValueError.__init__", ["name"]⟩, ⟨"Vanishing", "SlotsumsError", "ValueError", "ValueError.__new__", "ValueError.__init__", ["name"]⟩, ⟨"ChangesSign", "SlotsumsError", "ValueError", "ValueError.__new__", "ValueError.__init__", ["name"]⟩, ⟨"NoFactors", "SlotsumsError", "ValueError", "ValueError.__new__", "ValueError.__init__", []⟩, ⟨"TooMany", "SlotsumsError", "ValueError", "ValueError.__new__", "ValueError.__init__", ["kind", "limit"]⟩, ⟨"UnknownSort", "MissingError", "LookupError", "LookupError.__new__", "LookupError.__init__", ["name"]⟩, ⟨"UnknownName", "MissingError", "LookupError", "LookupError.__new__", "LookupError.__init__", ["value"]⟩, ⟨"NameTaken", "StateError", "RuntimeError", "RuntimeError.__new__", "RuntimeError.__init__", ["name"]⟩, ⟨"NothingToUndo", "StateError", "RuntimeError", "RuntimeError.__new__", "RuntimeError.__init__", []⟩, ⟨"DividedByZero", "StateError", "RuntimeError", "RuntimeError.__new__", "RuntimeError.__init__", []⟩]
def nm2 : List Str := ["InvalidClaim", "InvalidCommand", "OtherSort", "OtherSorts", "OtherTable", "OtherNames", "Vanishing", "ChangesSign", "NoFactors", "TooMany", "UnknownSort", "UnknownName", "NameTaken", "NothingToUndo", "DividedByZero"]
def ddsA : List HeX.Dd := dd0 ++ dd1
def ddsB : List HeX.Dd := dd2 ++ dd3
def dds : List HeX.Dd := ddsA ++ ddsB
def ers : List HeX.ErD := er0 ++ (er1 ++ er2)
def nmB : List Str := ["SlotsumsError", "MissingError", "StateError"]
def nmF : List Str := ["isinstance", "int", "bool", "len", "list", "max", "min", "sum", "zip", "range", "tuple", "enumerate", "any", "all", "abs", "divmod", "str", "repr", "set", "sorted", "ValueError", "LookupError", "RuntimeError", "super"]
def nmD : List Str := ["_law_pot", "_law_draw", "_law_value", "_law_first_half", "_law_second_half", "_law_bases", "_law_made", "_law_named", "_law_fields", "_law_due_fields", "_law_right", "law"]
def clFile : Str := "/claim/cut.py"
/-- what is asked of the objects behind the top -/
def exL (K : Frag) : List Bool := [ers.all (HeX.errB clFile K), nmD.all fun x => He.eqO (nsIn K mainGlobals x) (some (some (.ref (He.ga K x)))), nmF.all fun x => He.eqO (nsIn K mainGlobals x) (some none),
  nmB.all fun x => He.eqO (nsIn K mainGlobals x) (some (some (.ref (He.ga K x)))) && (isClsIn K (He.ga K x) && decide (typeIn K (.ref (He.ga K x)) = some (.type "type"))),
  He.eqO (specialIn K (.builtin "object.__class__") "__get__") (some (some (.builtin "getset_descriptor.__get__"))), decide (takesIn K (.builtin "object.__class__") = some true), He.eqO (nsIn K cStatics "thirdparty.any") (some none),
  decide (((nmB ++ (nm0 ++ (nm1 ++ nm2))).map (He.ga K)).Nodup)]
def exB (K : Frag) : Bool := (exL K).all id
abbrev R : OpenRow := OpenLaw.row PySem.Challenge.rw_slotsums_k14_error_classes
abbrev qv : Program := view R.prog [61]
def loose : List Str := nmB ++ (nm0 ++ (nm1 ++ (nm2 ++ nmD.take 11)))
def ob (s : SharedT) : Bool × List HeX.DdV := HeX.obsG dds exB (HandSHeadRun.getT s)
theorem runL (w : World) (os : OsState) : (HandSHeadRun.endF (HandSHeadRun.stepQ (HandSHeadRun.denQ HandSHeadRun.tabQ) R.prog w) 20000 R.prog w os).map (fun s => (HandSHeadRun.looksF R.prog (boot_heap w.params) s.abs, HandSHeadRun.seenQ qv loose (importedModules R.prog.main.body) (fun s => xlAt qv [] s && recOk R.toRowW.records s) s.abs)) = some (true, openGood qv loose) := by
  kernel_rfl
theorem runA (w : World) (os : OsState) : (HandSHeadRun.endF (HandSHeadRun.stepQ (HandSHeadRun.denQ HandSHeadRun.tabQ) R.prog w) 20000 R.prog w os).map (fun s => HeX.obsG ddsA (fun _ => true) (HandSHeadRun.getT s)) = some (HeX.val ddsA) := by
  kernel_rfl
theorem runB (w : World) (os : OsState) : (HandSHeadRun.endF (HandSHeadRun.stepQ (HandSHeadRun.denQ HandSHeadRun.tabQ) R.prog w) 20000 R.prog w os).map (fun s => HeX.obsG ddsB (fun _ => true) (HandSHeadRun.getT s)) = some (HeX.val ddsB) := by
  kernel_rfl
theorem runC (w : World) (os : OsState) : (HandSHeadRun.endF (HandSHeadRun.stepQ (HandSHeadRun.denQ HandSHeadRun.tabQ) R.prog w) 20000 R.prog w os).map (fun s => HeX.obsG [] exB (HandSHeadRun.getT s)) = some (HeX.val []) := by
  kernel_rfl
theorem run (w : World) : HandSHeadRun.RunEq R qv (HeX.hook dds exB) ob 20000 loose w := fun os => HeX.runs_join (runL w os) (runA w os) (runB w os) (runC w os)
end S14

namespace S14
open PySem L2 GM
open PyProof.Rows
abbrev PG14 : Program := (PySem.Challenge.rw_slotsums_k14_error_classes).prog
def dfl : HeX.ErD := ⟨"", "", "", "", "", []⟩
section
variable {w : World} {K : PySem.W.Frag} {mg : Str → Option Value} {base h : Heap}
/-- what is said of all classes alike -/
structure Cm (K : PySem.W.Frag) (mg : Str → Option Value) : Prop where
  O : HeX.Obj1 K
  ms : mg "super" = none
  op : PySem.W.nsIn K cStatics "thirdparty.any" = some none
theorem pf : ((PG14.main.file : Str) == clFile) = true := by kernel_rfl
theorem ptop : (PG14.main.scope.names.lookup ("super" : Str)).isSome = false := by kernel_rfl
theorem mk_0 (KX : K.In h) (c : HeX.Says dds exB K) (G : h.Ns mainGlobals mg) (C : Cm K mg) (X : HeX.ErrX clFile K ⟨"InvalidNumber", "SlotsumsError", "ValueError", "ValueError.__new__", "ValueError.__init__", ["value"]⟩) : Er1 PG14 w K mg base "InvalidNumber" "value" (He.ga K "InvalidNumber") := by
  obtain ⟨oc, od, osl, kV, doc, pm, cdv, ct, an, cc, lk, cd⟩ := c.init 12 (d := ⟨("InvalidNumber", some "__init__"), "__init__", "InvalidNumber.__init__", sI0, ["__class__"]⟩) rfl rfl
  obtain ⟨⟨dd, sl, hcc⟩, _⟩ := X.cell lk rfl
  have SK := X.supK (P := PG14) (mg := mg) (ar := arOf sI0) lk rfl rfl (by show (defScope sI0).names.lookup (arOf sI0).arg = some NameKind.local; decide +kernel) pf ptop C.ms C.op
  have EK := X.ek C.O F.excBase_ValueError tl_ve
  exact ⟨PySem.W.mg_of KX G X.at_, X.no _ (by simp), ⟨_, _, EK, .all (fun us hl => match us, hl with | [_, _], _ => rfl), (fun s self v => .of_eq rfl), ok_i0 cd hcc SK EK.es (X.no _ (by simp))⟩⟩
theorem mk_1 (KX : K.In h) (c : HeX.Says dds exB K) (G : h.Ns mainGlobals mg) (C : Cm K mg) (X : HeX.ErrX clFile K ⟨"InvalidName", "SlotsumsError", "ValueError", "ValueError.__new__", "ValueError.__init__", ["value"]⟩) : Er1 PG14 w K mg base "InvalidName" "value" (He.ga K "InvalidName") := by
  obtain ⟨oc, od, osl, kV, doc, pm, cdv, ct, an, cc, lk, cd⟩ := c.init 13 (d := ⟨("InvalidName", some "__init__"), "__init__", "InvalidName.__init__", sI1, ["__class__"]⟩) rfl rfl
  obtain ⟨⟨dd, sl, hcc⟩, _⟩ := X.cell lk rfl
  have SK := X.supK (P := PG14) (mg := mg) (ar := arOf sI1) lk rfl rfl (by show (defScope sI1).names.lookup (arOf sI1).arg = some NameKind.local; decide +kernel) pf ptop C.ms C.op
  have EK := X.ek C.O F.excBase_ValueError tl_ve
  exact ⟨PySem.W.mg_of KX G X.at_, X.no _ (by simp), ⟨_, _, EK, .all (fun us hl => match us, hl with | [_, _], _ => rfl), (fun s self v => .of_eq rfl), ok_i1 cd hcc SK EK.es (X.no _ (by simp))⟩⟩
theorem mk_2 (KX : K.In h) (c : HeX.Says dds exB K) (G : h.Ns mainGlobals mg) (C : Cm K mg) (X : HeX.ErrX clFile K ⟨"InvalidCount", "SlotsumsError", "ValueError", "ValueError.__new__", "ValueError.__init__", ["value"]⟩) : Er1 PG14 w K mg base "InvalidCount" "value" (He.ga K "InvalidCount") := by
  obtain ⟨oc, od, osl, kV, doc, pm, cdv, ct, an, cc, lk, cd⟩ := c.init 14 (d := ⟨("InvalidCount", some "__init__"), "__init__", "InvalidCount.__init__", sI2, ["__class__"]⟩) rfl rfl
  obtain ⟨⟨dd, sl, hcc⟩, _⟩ := X.cell lk rfl
  have SK := X.supK (P := PG14) (mg := mg) (ar := arOf sI2) lk rfl rfl (by show (defScope sI2).names.lookup (arOf sI2).arg = some NameKind.local; decide +kernel) pf ptop C.ms C.op
  have EK := X.ek C.O F.excBase_ValueError tl_ve
  exact ⟨PySem.W.mg_of KX G X.at_, X.no _ (by simp), ⟨_, _, EK, .all (fun us hl => match us, hl with | [_, _], _ => rfl), (fun s self v => .of_eq rfl), ok_i2 cd hcc SK EK.es (X.no _ (by simp))⟩⟩
theorem mk_3 (KX : K.In h) (c : HeX.Says dds exB K) (G : h.Ns mainGlobals mg) (C : Cm K mg) (X : HeX.ErrX clFile K ⟨"InvalidSlots", "SlotsumsError", "ValueError", "ValueError.__new__", "ValueError.__init__", ["position"]⟩) : Er1 PG14 w K mg base "InvalidSlots" "position" (He.ga K "InvalidSlots") := by
  obtain ⟨oc, od, osl, kV, doc, pm, cdv, ct, an, cc, lk, cd⟩ := c.init 15 (d := ⟨("InvalidSlots", some "__init__"), "__init__", "InvalidSlots.__init__", sI3, ["__class__"]⟩) rfl rfl
  obtain ⟨⟨dd, sl, hcc⟩, _⟩ := X.cell lk rfl
  have SK := X.supK (P := PG14) (mg := mg) (ar := arOf sI3) lk rfl rfl (by show (defScope sI3).names.lookup (arOf sI3).arg = some NameKind.local; decide +kernel) pf ptop C.ms C.op
  have EK := X.ek C.O F.excBase_ValueError tl_ve
  exact ⟨PySem.W.mg_of KX G X.at_, X.no _ (by simp), ⟨_, _, EK, .all (fun us hl => match us, hl with | [_, _], _ => rfl), (fun s self v => .of_eq rfl), ok_i3 cd hcc SK EK.es (X.no _ (by simp))⟩⟩
theorem mk_4 (KX : K.In h) (c : HeX.Says dds exB K) (G : h.Ns mainGlobals mg) (C : Cm K mg) (X : HeX.ErrX clFile K ⟨"InvalidTurn", "SlotsumsError", "ValueError", "ValueError.__new__", "ValueError.__init__", ["position"]⟩) : Er1 PG14 w K mg base "InvalidTurn" "position" (He.ga K "InvalidTurn") := by
  obtain ⟨oc, od, osl, kV, doc, pm, cdv, ct, an, cc, lk, cd⟩ := c.init 16 (d := ⟨("InvalidTurn", some "__init__"), "__init__", "InvalidTurn.__init__", sI4, ["__class__"]⟩) rfl rfl
  obtain ⟨⟨dd, sl, hcc⟩, _⟩ := X.cell lk rfl
  have SK := X.supK (P := PG14) (mg := mg) (ar := arOf sI4) lk rfl rfl (by show (defScope sI4).names.lookup (arOf sI4).arg = some NameKind.local; decide +kernel) pf ptop C.ms C.op
  have EK := X.ek C.O F.excBase_ValueError tl_ve
  exact ⟨PySem.W.mg_of KX G X.at_, X.no _ (by simp), ⟨_, _, EK, .all (fun us hl => match us, hl with | [_, _], _ => rfl), (fun s self v => .of_eq rfl), ok_i4 cd hcc SK EK.es (X.no _ (by simp))⟩⟩
theorem mk_5 (KX : K.In h) (c : HeX.Says dds exB K) (G : h.Ns mainGlobals mg) (C : Cm K mg) (X : HeX.ErrX clFile K ⟨"InvalidPlaces", "SlotsumsError", "ValueError", "ValueError.__new__", "ValueError.__init__", ["value"]⟩) : Er1 PG14 w K mg base "InvalidPlaces" "value" (He.ga K "InvalidPlaces") := by
  obtain ⟨oc, od, osl, kV, doc, pm, cdv, ct, an, cc, lk, cd⟩ := c.init 17 (d := ⟨("InvalidPlaces", some "__init__"), "__init__", "InvalidPlaces.__init__", sI5, ["__class__"]⟩) rfl rfl
  obtain ⟨⟨dd, sl, hcc⟩, _⟩ := X.cell lk rfl
  have SK := X.supK (P := PG14) (mg := mg) (ar := arOf sI5) lk rfl rfl (by show (defScope sI5).names.lookup (arOf sI5).arg = some NameKind.local; decide +kernel) pf ptop C.ms C.op
  have EK := X.ek C.O F.excBase_ValueError tl_ve
  exact ⟨PySem.W.mg_of KX G X.at_, X.no _ (by simp), ⟨_, _, EK, .all (fun us hl => match us, hl with | [_, _], _ => rfl), (fun s self v => .of_eq rfl), ok_i5 cd hcc SK EK.es (X.no _ (by simp))⟩⟩
theorem mk_6 (KX : K.In h) (c : HeX.Says dds exB K) (G : h.Ns mainGlobals mg) (C : Cm K mg) (X : HeX.ErrX clFile K ⟨"InvalidSizes", "SlotsumsError", "ValueError", "ValueError.__new__", "ValueError.__init__", ["value"]⟩) : Er1 PG14 w K mg base "InvalidSizes" "value" (He.ga K "InvalidSizes") := by
  obtain ⟨oc, od, osl, kV, doc, pm, cdv, ct, an, cc, lk, cd⟩ := c.init 18 (d := ⟨("InvalidSizes", some "__init__"), "__init__", "InvalidSizes.__init__", sI6, ["__class__"]⟩) rfl rfl
  obtain ⟨⟨dd, sl, hcc⟩, _⟩ := X.cell lk rfl
  have SK := X.supK (P := PG14) (mg := mg) (ar := arOf sI6) lk rfl rfl (by show (defScope sI6).names.lookup (arOf sI6).arg = some NameKind.local; decide +kernel) pf ptop C.ms C.op
  have EK := X.ek C.O F.excBase_ValueError tl_ve
  exact ⟨PySem.W.mg_of KX G X.at_, X.no _ (by simp), ⟨_, _, EK, .all (fun us hl => match us, hl with | [_, _], _ => rfl), (fun s self v => .of_eq rfl), ok_i6 cd hcc SK EK.es (X.no _ (by simp))⟩⟩
theorem mk_7 (KX : K.In h) (c : HeX.Says dds exB K) (G : h.Ns mainGlobals mg) (C : Cm K mg) (X : HeX.ErrX clFile K ⟨"InvalidContents", "SlotsumsError", "ValueError", "ValueError.__new__", "ValueError.__init__", ["position"]⟩) : Er1 PG14 w K mg base "InvalidContents" "position" (He.ga K "InvalidContents") := by
  obtain ⟨oc, od, osl, kV, doc, pm, cdv, ct, an, cc, lk, cd⟩ := c.init 19 (d := ⟨("InvalidContents", some "__init__"), "__init__", "InvalidContents.__init__", sI7, ["__class__"]⟩) rfl rfl
  obtain ⟨⟨dd, sl, hcc⟩, _⟩ := X.cell lk rfl
  have SK := X.supK (P := PG14) (mg := mg) (ar := arOf sI7) lk rfl rfl (by show (defScope sI7).names.lookup (arOf sI7).arg = some NameKind.local; decide +kernel) pf ptop C.ms C.op
  have EK := X.ek C.O F.excBase_ValueError tl_ve
  exact ⟨PySem.W.mg_of KX G X.at_, X.no _ (by simp), ⟨_, _, EK, .all (fun us hl => match us, hl with | [_, _], _ => rfl), (fun s self v => .of_eq rfl), ok_i7 cd hcc SK EK.es (X.no _ (by simp))⟩⟩
theorem mk_8 (KX : K.In h) (c : HeX.Says dds exB K) (G : h.Ns mainGlobals mg) (C : Cm K mg) (X : HeX.ErrX clFile K ⟨"InvalidEntry", "SlotsumsError", "ValueError", "ValueError.__new__", "ValueError.__init__", ["position", "places"]⟩) : Er2 PG14 w K mg base "InvalidEntry" "position" "places" (He.ga K "InvalidEntry") := by
  obtain ⟨oc, od, osl, kV, doc, pm, cdv, ct, an, cc, lk, cd⟩ := c.init 20 (d := ⟨("InvalidEntry", some "__init__"), "__init__", "InvalidEntry.__init__", sI8, ["__class__"]⟩) rfl rfl
  obtain ⟨⟨dd, sl, hcc⟩, _⟩ := X.cell lk rfl
  have SK := X.supK (P := PG14) (mg := mg) (ar := arOf sI8) lk rfl rfl (by show (defScope sI8).names.lookup (arOf sI8).arg = some NameKind.local; decide +kernel) pf ptop C.ms C.op
  have EK := X.ek C.O F.excBase_ValueError tl_ve
  exact ⟨PySem.W.mg_of KX G X.at_, X.no _ (by simp), X.no _ (by simp), by decide, ⟨_, _, EK, .all (fun us hl => match us, hl with | [_, _, _], _ => rfl), (fun s self v u => .of_eq rfl), ok_i8 cd hcc SK EK.es (X.no _ (by simp)) (X.no _ (by simp))⟩⟩
theorem mk_9 (KX : K.In h) (c : HeX.Says dds exB K) (G : h.Ns mainGlobals mg) (C : Cm K mg) (X : HeX.ErrX clFile K ⟨"InvalidTold", "SlotsumsError", "ValueError", "ValueError.__new__", "ValueError.__init__", ["position"]⟩) : Er1 PG14 w K mg base "InvalidTold" "position" (He.ga K "InvalidTold") := by
  obtain ⟨oc, od, osl, kV, doc, pm, cdv, ct, an, cc, lk, cd⟩ := c.init 21 (d := ⟨("InvalidTold", some "__init__"), "__init__", "InvalidTold.__init__", sI9, ["__class__"]⟩) rfl rfl
  obtain ⟨⟨dd, sl, hcc⟩, _⟩ := X.cell lk rfl
  have SK := X.supK (P := PG14) (mg := mg) (ar := arOf sI9) lk rfl rfl (by show (defScope sI9).names.lookup (arOf sI9).arg = some NameKind.local; decide +kernel) pf ptop C.ms C.op
  have EK := X.ek C.O F.excBase_ValueError tl_ve
  exact ⟨PySem.W.mg_of KX G X.at_, X.no _ (by simp), ⟨_, _, EK, .all (fun us hl => match us, hl with | [_, _], _ => rfl), (fun s self v => .of_eq rfl), ok_i9 cd hcc SK EK.es (X.no _ (by simp))⟩⟩
theorem mk_10 (KX : K.In h) (c : HeX.Says dds exB K) (G : h.Ns mainGlobals mg) (C : Cm K mg) (X : HeX.ErrX clFile K ⟨"InvalidFactors", "SlotsumsError", "ValueError", "ValueError.__new__", "ValueError.__init__", ["position"]⟩) : Er1 PG14 w K mg base "InvalidFactors" "position" (He.ga K "InvalidFactors") := by
  obtain ⟨oc, od, osl, kV, doc, pm, cdv, ct, an, cc, lk, cd⟩ := c.init 22 (d := ⟨("InvalidFactors", some "__init__"), "__init__", "InvalidFactors.__init__", sI10, ["__class__"]⟩) rfl rfl
  obtain ⟨⟨dd, sl, hcc⟩, _⟩ := X.cell lk rfl
  have SK := X.supK (P := PG14) (mg := mg) (ar := arOf sI10) lk rfl rfl (by show (defScope sI10).names.lookup (arOf sI10).arg = some NameKind.local; decide +kernel) pf ptop C.ms C.op
  have EK := X.ek C.O F.excBase_ValueError tl_ve
  exact ⟨PySem.W.mg_of KX G X.at_, X.no _ (by simp), ⟨_, _, EK, .all (fun us hl => match us, hl with | [_, _], _ => rfl), (fun s self v => .of_eq rfl), ok_i10 cd hcc SK EK.es (X.no _ (by simp))⟩⟩
theorem mk_11 (KX : K.In h) (c : HeX.Says dds exB K) (G : h.Ns mainGlobals mg) (C : Cm K mg) (X : HeX.ErrX clFile K ⟨"InvalidSorts", "SlotsumsError", "ValueError", "ValueError.__new__", "ValueError.__init__", ["position"]⟩) : Er1 PG14 w K mg base "InvalidSorts" "position" (He.ga K "InvalidSorts") := by
  obtain ⟨oc, od, osl, kV, doc, pm, cdv, ct, an, cc, lk, cd⟩ := c.init 23 (d := ⟨("InvalidSorts", some "__init__"), "__init__", "InvalidSorts.__init__", sI11, ["__class__"]⟩) rfl rfl
  obtain ⟨⟨dd, sl, hcc⟩, _⟩ := X.cell lk rfl
  have SK := X.supK (P := PG14) (mg := mg) (ar := arOf sI11) lk rfl rfl (by show (defScope sI11).names.lookup (arOf sI11).arg = some NameKind.local; decide +kernel) pf ptop C.ms C.op
  have EK := X.ek C.O F.excBase_ValueError tl_ve
  exact ⟨PySem.W.mg_of KX G X.at_, X.no _ (by simp), ⟨_, _, EK, .all (fun us hl => match us, hl with | [_, _], _ => rfl), (fun s self v => .of_eq rfl), ok_i11 cd hcc SK EK.es (X.no _ (by simp))⟩⟩
theorem mk_12 (KX : K.In h) (c : HeX.Says dds exB K) (G : h.Ns mainGlobals mg) (C : Cm K mg) (X : HeX.ErrX clFile K ⟨"InvalidTerms", "SlotsumsError", "ValueError", "ValueError.__new__", "ValueError.__init__", ["position"]⟩) : Er1 PG14 w K mg base "InvalidTerms" "position" (He.ga K "InvalidTerms") := by
  obtain ⟨oc, od, osl, kV, doc, pm, cdv, ct, an, cc, lk, cd⟩ := c.init 24 (d := ⟨("InvalidTerms", some "__init__"), "__init__", "InvalidTerms.__init__", sI12, ["__class__"]⟩) rfl rfl
  obtain ⟨⟨dd, sl, hcc⟩, _⟩ := X.cell lk rfl
  have SK := X.supK (P := PG14) (mg := mg) (ar := arOf sI12) lk rfl rfl (by show (defScope sI12).names.lookup (arOf sI12).arg = some NameKind.local; decide +kernel) pf ptop C.ms C.op
  have EK := X.ek C.O F.excBase_ValueError tl_ve
  exact ⟨PySem.W.mg_of KX G X.at_, X.no _ (by simp), ⟨_, _, EK, .all (fun us hl => match us, hl with | [_, _], _ => rfl), (fun s self v => .of_eq rfl), ok_i12 cd hcc SK EK.es (X.no _ (by simp))⟩⟩
theorem mk_13 (KX : K.In h) (c : HeX.Says dds exB K) (G : h.Ns mainGlobals mg) (C : Cm K mg) (X : HeX.ErrX clFile K ⟨"InvalidExpression", "SlotsumsError", "ValueError", "ValueError.__new__", "ValueError.__init__", ["value"]⟩) : Er1 PG14 w K mg base "InvalidExpression" "value" (He.ga K "InvalidExpression") := by
  obtain ⟨oc, od, osl, kV, doc, pm, cdv, ct, an, cc, lk, cd⟩ := c.init 25 (d := ⟨("InvalidExpression", some "__init__"), "__init__", "InvalidExpression.__init__", sI13, ["__class__"]⟩) rfl rfl
  obtain ⟨⟨dd, sl, hcc⟩, _⟩ := X.cell lk rfl
  have SK := X.supK (P := PG14) (mg := mg) (ar := arOf sI13) lk rfl rfl (by show (defScope sI13).names.lookup (arOf sI13).arg = some NameKind.local; decide +kernel) pf ptop C.ms C.op
  have EK := X.ek C.O F.excBase_ValueError tl_ve
  exact ⟨PySem.W.mg_of KX G X.at_, X.no _ (by simp), ⟨_, _, EK, .all (fun us hl => match us, hl with | [_, _], _ => rfl), (fun s self v => .of_eq rfl), ok_i13 cd hcc SK EK.es (X.no _ (by simp))⟩⟩
theorem mk_14 (KX : K.In h) (c : HeX.Says dds exB K) (G : h.Ns mainGlobals mg) (C : Cm K mg) (X : HeX.ErrX clFile K ⟨"InvalidHeld", "SlotsumsError", "ValueError", "ValueError.__new__", "ValueError.__init__", ["position"]⟩) : Er1 PG14 w K mg base "InvalidHeld" "position" (He.ga K "InvalidHeld") := by
  obtain ⟨oc, od, osl, kV, doc, pm, cdv, ct, an, cc, lk, cd⟩ := c.init 26 (d := ⟨("InvalidHeld", some "__init__"), "__init__", "InvalidHeld.__init__", sI14, ["__class__"]⟩) rfl rfl
  obtain ⟨⟨dd, sl, hcc⟩, _⟩ := X.cell lk rfl
  have SK := X.supK (P := PG14) (mg := mg) (ar := arOf sI14) lk rfl rfl (by show (defScope sI14).names.lookup (arOf sI14).arg = some NameKind.local; decide +kernel) pf ptop C.ms C.op
  have EK := X.ek C.O F.excBase_ValueError tl_ve
  exact ⟨PySem.W.mg_of KX G X.at_, X.no _ (by simp), ⟨_, _, EK, .all (fun us hl => match us, hl with | [_, _], _ => rfl), (fun s self v => .of_eq rfl), ok_i14 cd hcc SK EK.es (X.no _ (by simp))⟩⟩
theorem mk_15 (KX : K.In h) (c : HeX.Says dds exB K) (G : h.Ns mainGlobals mg) (C : Cm K mg) (X : HeX.ErrX clFile K ⟨"InvalidPosition", "SlotsumsError", "ValueError", "ValueError.__new__", "ValueError.__init__", ["value"]⟩) : Er1 PG14 w K mg base "InvalidPosition" "value" (He.ga K "InvalidPosition") := by
  obtain ⟨oc, od, osl, kV, doc, pm, cdv, ct, an, cc, lk, cd⟩ := c.init 27 (d := ⟨("InvalidPosition", some "__init__"), "__init__", "InvalidPosition.__init__", sI15, ["__class__"]⟩) rfl rfl
  obtain ⟨⟨dd, sl, hcc⟩, _⟩ := X.cell lk rfl
  have SK := X.supK (P := PG14) (mg := mg) (ar := arOf sI15) lk rfl rfl (by show (defScope sI15).names.lookup (arOf sI15).arg = some NameKind.local; decide +kernel) pf ptop C.ms C.op
  have EK := X.ek C.O F.excBase_ValueError tl_ve
  exact ⟨PySem.W.mg_of KX G X.at_, X.no _ (by simp), ⟨_, _, EK, .all (fun us hl => match us, hl with | [_, _], _ => rfl), (fun s self v => .of_eq rfl), ok_i15 cd hcc SK EK.es (X.no _ (by simp))⟩⟩
theorem mk_16 (KX : K.In h) (c : HeX.Says dds exB K) (G : h.Ns mainGlobals mg) (C : Cm K mg) (X : HeX.ErrX clFile K ⟨"InvalidSum", "SlotsumsError", "ValueError", "ValueError.__new__", "ValueError.__init__", ["position"]⟩) : Er1 PG14 w K mg base "InvalidSum" "position" (He.ga K "InvalidSum") := by
  obtain ⟨oc, od, osl, kV, doc, pm, cdv, ct, an, cc, lk, cd⟩ := c.init 28 (d := ⟨("InvalidSum", some "__init__"), "__init__", "InvalidSum.__init__", sI16, ["__class__"]⟩) rfl rfl
  obtain ⟨⟨dd, sl, hcc⟩, _⟩ := X.cell lk rfl
  have SK := X.supK (P := PG14) (mg := mg) (ar := arOf sI16) lk rfl rfl (by show (defScope sI16).names.lookup (arOf sI16).arg = some NameKind.local; decide +kernel) pf ptop C.ms C.op
  have EK := X.ek C.O F.excBase_ValueError tl_ve
  exact ⟨PySem.W.mg_of KX G X.at_, X.no _ (by simp), ⟨_, _, EK, .all (fun us hl => match us, hl with | [_, _], _ => rfl), (fun s self v => .of_eq rfl), ok_i16 cd hcc SK EK.es (X.no _ (by simp))⟩⟩
theorem mk_17 (KX : K.In h) (c : HeX.Says dds exB K) (G : h.Ns mainGlobals mg) (C : Cm K mg) (X : HeX.ErrX clFile K ⟨"InvalidOrder", "SlotsumsError", "ValueError", "ValueError.__new__", "ValueError.__init__", ["value"]⟩) : Er1 PG14 w K mg base "InvalidOrder" "value" (He.ga K "InvalidOrder") := by
  obtain ⟨oc, od, osl, kV, doc, pm, cdv, ct, an, cc, lk, cd⟩ := c.init 29 (d := ⟨("InvalidOrder", some "__init__"), "__init__", "InvalidOrder.__init__", sI17, ["__class__"]⟩) rfl rfl
  obtain ⟨⟨dd, sl, hcc⟩, _⟩ := X.cell lk rfl
  have SK := X.supK (P := PG14) (mg := mg) (ar := arOf sI17) lk rfl rfl (by show (defScope sI17).names.lookup (arOf sI17).arg = some NameKind.local; decide +kernel) pf ptop C.ms C.op
  have EK := X.ek C.O F.excBase_ValueError tl_ve
  exact ⟨PySem.W.mg_of KX G X.at_, X.no _ (by simp), ⟨_, _, EK, .all (fun us hl => match us, hl with | [_, _], _ => rfl), (fun s self v => .of_eq rfl), ok_i17 cd hcc SK EK.es (X.no _ (by simp))⟩⟩
theorem mk_18 (KX : K.In h) (c : HeX.Says dds exB K) (G : h.Ns mainGlobals mg) (C : Cm K mg) (X : HeX.ErrX clFile K ⟨"InvalidPartition", "SlotsumsError", "ValueError", "ValueError.__new__", "ValueError.__init__", ["value"]⟩) : Er1 PG14 w K mg base "InvalidPartition" "value" (He.ga K "InvalidPartition") := by
  obtain ⟨oc, od, osl, kV, doc, pm, cdv, ct, an, cc, lk, cd⟩ := c.init 30 (d := ⟨("InvalidPartition", some "__init__"), "__init__", "InvalidPartition.__init__", sI18, ["__class__"]⟩) rfl rfl
  obtain ⟨⟨dd, sl, hcc⟩, _⟩ := X.cell lk rfl
  have SK := X.supK (P := PG14) (mg := mg) (ar := arOf sI18) lk rfl rfl (by show (defScope sI18).names.lookup (arOf sI18).arg = some NameKind.local; decide +kernel) pf ptop C.ms C.op
  have EK := X.ek C.O F.excBase_ValueError tl_ve
  exact ⟨PySem.W.mg_of KX G X.at_, X.no _ (by simp), ⟨_, _, EK, .all (fun us hl => match us, hl with | [_, _], _ => rfl), (fun s self v => .of_eq rfl), ok_i18 cd hcc SK EK.es (X.no _ (by simp))⟩⟩
theorem mk_19 (KX : K.In h) (c : HeX.Says dds exB K) (G : h.Ns mainGlobals mg) (C : Cm K mg) (X : HeX.ErrX clFile K ⟨"InvalidExpressions", "SlotsumsError", "ValueError", "ValueError.__new__", "ValueError.__init__", ["position"]⟩) : Er1 PG14 w K mg base "InvalidExpressions" "position" (He.ga K "InvalidExpressions") := by
  obtain ⟨oc, od, osl, kV, doc, pm, cdv, ct, an, cc, lk, cd⟩ := c.init 31 (d := ⟨("InvalidExpressions", some "__init__"), "__init__", "InvalidExpressions.__init__", sI19, ["__class__"]⟩) rfl rfl
  obtain ⟨⟨dd, sl, hcc⟩, _⟩ := X.cell lk rfl
  have SK := X.supK (P := PG14) (mg := mg) (ar := arOf sI19) lk rfl rfl (by show (defScope sI19).names.lookup (arOf sI19).arg = some NameKind.local; decide +kernel) pf ptop C.ms C.op
  have EK := X.ek C.O F.excBase_ValueError tl_ve
  exact ⟨PySem.W.mg_of KX G X.at_, X.no _ (by simp), ⟨_, _, EK, .all (fun us hl => match us, hl with | [_, _], _ => rfl), (fun s self v => .of_eq rfl), ok_i19 cd hcc SK EK.es (X.no _ (by simp))⟩⟩
theorem mk_20 (KX : K.In h) (c : HeX.Says dds exB K) (G : h.Ns mainGlobals mg) (C : Cm K mg) (X : HeX.ErrX clFile K ⟨"InvalidPlan", "SlotsumsError", "ValueError", "ValueError.__new__", "ValueError.__init__", ["value"]⟩) : Er1 PG14 w K mg base "InvalidPlan" "value" (He.ga K "InvalidPlan") := by
  obtain ⟨oc, od, osl, kV, doc, pm, cdv, ct, an, cc, lk, cd⟩ := c.init 32 (d := ⟨("InvalidPlan", some "__init__"), "__init__", "InvalidPlan.__init__", sI20, ["__class__"]⟩) rfl rfl
  obtain ⟨⟨dd, sl, hcc⟩, _⟩ := X.cell lk rfl
  have SK := X.supK (P := PG14) (mg := mg) (ar := arOf sI20) lk rfl rfl (by show (defScope sI20).names.lookup (arOf sI20).arg = some NameKind.local; decide +kernel) pf ptop C.ms C.op
  have EK := X.ek C.O F.excBase_ValueError tl_ve
  exact ⟨PySem.W.mg_of KX G X.at_, X.no _ (by simp), ⟨_, _, EK, .all (fun us hl => match us, hl with | [_, _], _ => rfl), (fun s self v => .of_eq rfl), ok_i20 cd hcc SK EK.es (X.no _ (by simp))⟩⟩
theorem mk_21 (KX : K.In h) (c : HeX.Says dds exB K) (G : h.Ns mainGlobals mg) (C : Cm K mg) (X : HeX.ErrX clFile K ⟨"InvalidNames", "SlotsumsError", "ValueError", "ValueError.__new__", "ValueError.__init__", ["value"]⟩) : Er1 PG14 w K mg base "InvalidNames" "value" (He.ga K "InvalidNames") := by
  obtain ⟨oc, od, osl, kV, doc, pm, cdv, ct, an, cc, lk, cd⟩ := c.init 33 (d := ⟨("InvalidNames", some "__init__"), "__init__", "InvalidNames.__init__", sI21, ["__class__"]⟩) rfl rfl
  obtain ⟨⟨dd, sl, hcc⟩, _⟩ := X.cell lk rfl
  have SK := X.supK (P := PG14) (mg := mg) (ar := arOf sI21) lk rfl rfl (by show (defScope sI21).names.lookup (arOf sI21).arg = some NameKind.local; decide +kernel) pf ptop C.ms C.op
  have EK := X.ek C.O F.excBase_ValueError tl_ve
  exact ⟨PySem.W.mg_of KX G X.at_, X.no _ (by simp), ⟨_, _, EK, .all (fun us hl => match us, hl with | [_, _], _ => rfl), (fun s self v => .of_eq rfl), ok_i21 cd hcc SK EK.es (X.no _ (by simp))⟩⟩
theorem mk_22 (KX : K.In h) (c : HeX.Says dds exB K) (G : h.Ns mainGlobals mg) (C : Cm K mg) (X : HeX.ErrX clFile K ⟨"InvalidPolynomial", "SlotsumsError", "ValueError", "ValueError.__new__", "ValueError.__init__", ["value"]⟩) : Er1 PG14 w K mg base "InvalidPolynomial" "value" (He.ga K "InvalidPolynomial") := by
  obtain ⟨oc, od, osl, kV, doc, pm, cdv, ct, an, cc, lk, cd⟩ := c.init 34 (d := ⟨("InvalidPolynomial", some "__init__"), "__init__", "InvalidPolynomial.__init__", sI22, ["__class__"]⟩) rfl rfl
  obtain ⟨⟨dd, sl, hcc⟩, _⟩ := X.cell lk rfl
  have SK := X.supK (P := PG14) (mg := mg) (ar := arOf sI22) lk rfl rfl (by show (defScope sI22).names.lookup (arOf sI22).arg = some NameKind.local; decide +kernel) pf ptop C.ms C.op
  have EK := X.ek C.O F.excBase_ValueError tl_ve
  exact ⟨PySem.W.mg_of KX G X.at_, X.no _ (by simp), ⟨_, _, EK, .all (fun us hl => match us, hl with | [_, _], _ => rfl), (fun s self v => .of_eq rfl), ok_i22 cd hcc SK EK.es (X.no _ (by simp))⟩⟩
theorem mk_23 (KX : K.In h) (c : HeX.Says dds exB K) (G : h.Ns mainGlobals mg) (C : Cm K mg) (X : HeX.ErrX clFile K ⟨"InvalidGrowth", "SlotsumsError", "ValueError", "ValueError.__new__", "ValueError.__init__", ["value"]⟩) : Er1 PG14 w K mg base "InvalidGrowth" "value" (He.ga K "InvalidGrowth") := by
  obtain ⟨oc, od, osl, kV, doc, pm, cdv, ct, an, cc, lk, cd⟩ := c.init 35 (d := ⟨("InvalidGrowth", some "__init__"), "__init__", "InvalidGrowth.__init__", sI23, ["__class__"]⟩) rfl rfl
  obtain ⟨⟨dd, sl, hcc⟩, _⟩ := X.cell lk rfl
  have SK := X.supK (P := PG14) (mg := mg) (ar := arOf sI23) lk rfl rfl (by show (defScope sI23).names.lookup (arOf sI23).arg = some NameKind.local; decide +kernel) pf ptop C.ms C.op
  have EK := X.ek C.O F.excBase_ValueError tl_ve
  exact ⟨PySem.W.mg_of KX G X.at_, X.no _ (by simp), ⟨_, _, EK, .all (fun us hl => match us, hl with | [_, _], _ => rfl), (fun s self v => .of_eq rfl), ok_i23 cd hcc SK EK.es (X.no _ (by simp))⟩⟩
theorem mk_24 (KX : K.In h) (c : HeX.Says dds exB K) (G : h.Ns mainGlobals mg) (C : Cm K mg) (X : HeX.ErrX clFile K ⟨"InvalidChange", "SlotsumsError", "ValueError", "ValueError.__new__", "ValueError.__init__", ["value"]⟩) : Er1 PG14 w K mg base "InvalidChange" "value" (He.ga K "InvalidChange") := by
  obtain ⟨oc, od, osl, kV, doc, pm, cdv, ct, an, cc, lk, cd⟩ := c.init 36 (d := ⟨("InvalidChange", some "__init__"), "__init__", "InvalidChange.__init__", sI24, ["__class__"]⟩) rfl rfl
  obtain ⟨⟨dd, sl, hcc⟩, _⟩ := X.cell lk rfl
  have SK := X.supK (P := PG14) (mg := mg) (ar := arOf sI24) lk rfl rfl (by show (defScope sI24).names.lookup (arOf sI24).arg = some NameKind.local; decide +kernel) pf ptop C.ms C.op
  have EK := X.ek C.O F.excBase_ValueError tl_ve
  exact ⟨PySem.W.mg_of KX G X.at_, X.no _ (by simp), ⟨_, _, EK, .all (fun us hl => match us, hl with | [_, _], _ => rfl), (fun s self v => .of_eq rfl), ok_i24 cd hcc SK EK.es (X.no _ (by simp))⟩⟩
theorem mk_25 (KX : K.In h) (c : HeX.Says dds exB K) (G : h.Ns mainGlobals mg) (C : Cm K mg) (X : HeX.ErrX clFile K ⟨"InvalidWeights", "SlotsumsError", "ValueError", "ValueError.__new__", "ValueError.__init__", ["value"]⟩) : Er1 PG14 w K mg base "InvalidWeights" "value" (He.ga K "InvalidWeights") := by
  obtain ⟨oc, od, osl, kV, doc, pm, cdv, ct, an, cc, lk, cd⟩ := c.init 37 (d := ⟨("InvalidWeights", some "__init__"), "__init__", "InvalidWeights.__init__", sI25, ["__class__"]⟩) rfl rfl
  obtain ⟨⟨dd, sl, hcc⟩, _⟩ := X.cell lk rfl
  have SK := X.supK (P := PG14) (mg := mg) (ar := arOf sI25) lk rfl rfl (by show (defScope sI25).names.lookup (arOf sI25).arg = some NameKind.local; decide +kernel) pf ptop C.ms C.op
  have EK := X.ek C.O F.excBase_ValueError tl_ve
  exact ⟨PySem.W.mg_of KX G X.at_, X.no _ (by simp), ⟨_, _, EK, .all (fun us hl => match us, hl with | [_, _], _ => rfl), (fun s self v => .of_eq rfl), ok_i25 cd hcc SK EK.es (X.no _ (by simp))⟩⟩
theorem mk_26 (KX : K.In h) (c : HeX.Says dds exB K) (G : h.Ns mainGlobals mg) (C : Cm K mg) (X : HeX.ErrX clFile K ⟨"InvalidPatterns", "SlotsumsError", "ValueError", "ValueError.__new__", "ValueError.__init__", ["position"]⟩) : Er1 PG14 w K mg base "InvalidPatterns" "position" (He.ga K "InvalidPatterns") := by
  obtain ⟨oc, od, osl, kV, doc, pm, cdv, ct, an, cc, lk, cd⟩ := c.init 38 (d := ⟨("InvalidPatterns", some "__init__"), "__init__", "InvalidPatterns.__init__", sI26, ["__class__"]⟩) rfl rfl
  obtain ⟨⟨dd, sl, hcc⟩, _⟩ := X.cell lk rfl
  have SK := X.supK (P := PG14) (mg := mg) (ar := arOf sI26) lk rfl rfl (by show (defScope sI26).names.lookup (arOf sI26).arg = some NameKind.local; decide +kernel) pf ptop C.ms C.op
  have EK := X.ek C.O F.excBase_ValueError tl_ve
  exact ⟨PySem.W.mg_of KX G X.at_, X.no _ (by simp), ⟨_, _, EK, .all (fun us hl => match us, hl with | [_, _], _ => rfl), (fun s self v => .of_eq rfl), ok_i26 cd hcc SK EK.es (X.no _ (by simp))⟩⟩
theorem mk_27 (KX : K.In h) (c : HeX.Says dds exB K) (G : h.Ns mainGlobals mg) (C : Cm K mg) (X : HeX.ErrX clFile K ⟨"EmptyEntry", "SlotsumsError", "ValueError", "ValueError.__new__", "ValueError.__init__", ["position", "places"]⟩) : Er2 PG14 w K mg base "EmptyEntry" "position" "places" (He.ga K "EmptyEntry") := by
  obtain ⟨oc, od, osl, kV, doc, pm, cdv, ct, an, cc, lk, cd⟩ := c.init 39 (d := ⟨("EmptyEntry", some "__init__"), "__init__", "EmptyEntry.__init__", sI27, ["__class__"]⟩) rfl rfl
  obtain ⟨⟨dd, sl, hcc⟩, _⟩ := X.cell lk rfl
  have SK := X.supK (P := PG14) (mg := mg) (ar := arOf sI27) lk rfl rfl (by show (defScope sI27).names.lookup (arOf sI27).arg = some NameKind.local; decide +kernel) pf ptop C.ms C.op
  have EK := X.ek C.O F.excBase_ValueError tl_ve
  exact ⟨PySem.W.mg_of KX G X.at_, X.no _ (by simp), X.no _ (by simp), by decide, ⟨_, _, EK, .all (fun us hl => match us, hl with | [_, _, _], _ => rfl), (fun s self v u => .of_eq rfl), ok_i27 cd hcc SK EK.es (X.no _ (by simp)) (X.no _ (by simp))⟩⟩
theorem mk_28 (KX : K.In h) (c : HeX.Says dds exB K) (G : h.Ns mainGlobals mg) (C : Cm K mg) (X : HeX.ErrX clFile K ⟨"InvalidText", "SlotsumsError", "ValueError", "ValueError.__new__", "ValueError.__init__", ["line"]⟩) : Er1 PG14 w K mg base "InvalidText" "line" (He.ga K "InvalidText") := by
  obtain ⟨oc, od, osl, kV, doc, pm, cdv, ct, an, cc, lk, cd⟩ := c.init 40 (d := ⟨("InvalidText", some "__init__"), "__init__", "InvalidText.__init__", sI28, ["__class__"]⟩) rfl rfl
  obtain ⟨⟨dd, sl, hcc⟩, _⟩ := X.cell lk rfl
  have SK := X.supK (P := PG14) (mg := mg) (ar := arOf sI28) lk rfl rfl (by show (defScope sI28).names.lookup (arOf sI28).arg = some NameKind.local; decide +kernel) pf ptop C.ms C.op
  have EK := X.ek C.O F.excBase_ValueError tl_ve
  exact ⟨PySem.W.mg_of KX G X.at_, X.no _ (by simp), ⟨_, _, EK, .all (fun us hl => match us, hl with | [_, _], _ => rfl), (fun s self v => .of_eq rfl), ok_i28 cd hcc SK EK.es (X.no _ (by simp))⟩⟩
theorem mk_29 (KX : K.In h) (c : HeX.Says dds exB K) (G : h.Ns mainGlobals mg) (C : Cm K mg) (X : HeX.ErrX clFile K ⟨"InvalidDefinitions", "SlotsumsError", "ValueError", "ValueError.__new__", "ValueError.__init__", ["position"]⟩) : Er1 PG14 w K mg base "InvalidDefinitions" "position" (He.ga K "InvalidDefinitions") := by
  obtain ⟨oc, od, osl, kV, doc, pm, cdv, ct, an, cc, lk, cd⟩ := c.init 41 (d := ⟨("InvalidDefinitions", some "__init__"), "__init__", "InvalidDefinitions.__init__", sI29, ["__class__"]⟩) rfl rfl
  obtain ⟨⟨dd, sl, hcc⟩, _⟩ := X.cell lk rfl
  have SK := X.supK (P := PG14) (mg := mg) (ar := arOf sI29) lk rfl rfl (by show (defScope sI29).names.lookup (arOf sI29).arg = some NameKind.local; decide +kernel) pf ptop C.ms C.op
  have EK := X.ek C.O F.excBase_ValueError tl_ve
  exact ⟨PySem.W.mg_of KX G X.at_, X.no _ (by simp), ⟨_, _, EK, .all (fun us hl => match us, hl with | [_, _], _ => rfl), (fun s self v => .of_eq rfl), ok_i29 cd hcc SK EK.es (X.no _ (by simp))⟩⟩
theorem mk_30 (KX : K.In h) (c : HeX.Says dds exB K) (G : h.Ns mainGlobals mg) (C : Cm K mg) (X : HeX.ErrX clFile K ⟨"InvalidClaim", "SlotsumsError", "ValueError", "ValueError.__new__", "ValueError.__init__", ["value"]⟩) : Er1 PG14 w K mg base "InvalidClaim" "value" (He.ga K "InvalidClaim") := by
  obtain ⟨oc, od, osl, kV, doc, pm, cdv, ct, an, cc, lk, cd⟩ := c.init 42 (d := ⟨("InvalidClaim", some "__init__"), "__init__", "InvalidClaim.__init__", sI30, ["__class__"]⟩) rfl rfl
  obtain ⟨⟨dd, sl, hcc⟩, _⟩ := X.cell lk rfl
  have SK := X.supK (P := PG14) (mg := mg) (ar := arOf sI30) lk rfl rfl (by show (defScope sI30).names.lookup (arOf sI30).arg = some NameKind.local; decide +kernel) pf ptop C.ms C.op
  have EK := X.ek C.O F.excBase_ValueError tl_ve
  exact ⟨PySem.W.mg_of KX G X.at_, X.no _ (by simp), ⟨_, _, EK, .all (fun us hl => match us, hl with | [_, _], _ => rfl), (fun s self v => .of_eq rfl), ok_i30 cd hcc SK EK.es (X.no _ (by simp))⟩⟩
theorem mk_31 (KX : K.In h) (c : HeX.Says dds exB K) (G : h.Ns mainGlobals mg) (C : Cm K mg) (X : HeX.ErrX clFile K ⟨"InvalidCommand", "SlotsumsError", "ValueError", "ValueError.__new__", "ValueError.__init__", ["value"]⟩) : Er1 PG14 w K mg base "InvalidCommand" "value" (He.ga K "InvalidCommand") := by
  obtain ⟨oc, od, osl, kV, doc, pm, cdv, ct, an, cc, lk, cd⟩ := c.init 43 (d := ⟨("InvalidCommand", some "__init__"), "__init__", "InvalidCommand.__init__", sI31, ["__class__"]⟩) rfl rfl
  obtain ⟨⟨dd, sl, hcc⟩, _⟩ := X.cell lk rfl
  have SK := X.supK (P := PG14) (mg := mg) (ar := arOf sI31) lk rfl rfl (by show (defScope sI31).names.lookup (arOf sI31).arg = some NameKind.local; decide +kernel) pf ptop C.ms C.op
  have EK := X.ek C.O F.excBase_ValueError tl_ve
  exact ⟨PySem.W.mg_of KX G X.at_, X.no _ (by simp), ⟨_, _, EK, .all (fun us hl => match us, hl with | [_, _], _ => rfl), (fun s self v => .of_eq rfl), ok_i31 cd hcc SK EK.es (X.no _ (by simp))⟩⟩
theorem mk_32 (KX : K.In h) (c : HeX.Says dds exB K) (G : h.Ns mainGlobals mg) (C : Cm K mg) (X : HeX.ErrX clFile K ⟨"OtherSort", "SlotsumsError", "ValueError", "ValueError.__new__", "ValueError.__init__", ["name"]⟩) : Er1 PG14 w K mg base "OtherSort" "name" (He.ga K "OtherSort") := by
  obtain ⟨oc, od, osl, kV, doc, pm, cdv, ct, an, cc, lk, cd⟩ := c.init 44 (d := ⟨("OtherSort", some "__init__"), "__init__", "OtherSort.__init__", sI32, ["__class__"]⟩) rfl rfl
  obtain ⟨⟨dd, sl, hcc⟩, _⟩ := X.cell lk rfl
  have SK := X.supK (P := PG14) (mg := mg) (ar := arOf sI32) lk rfl rfl (by show (defScope sI32).names.lookup (arOf sI32).arg = some NameKind.local; decide +kernel) pf ptop C.ms C.op
  have EK := X.ek C.O F.excBase_ValueError tl_ve
  exact ⟨PySem.W.mg_of KX G X.at_, X.no _ (by simp), ⟨_, _, EK, .all (fun us hl => match us, hl with | [_, _], _ => rfl), (fun s self v => .of_eq rfl), ok_i32 cd hcc SK EK.es (X.no _ (by simp))⟩⟩
theorem mk_33 (KX : K.In h) (c : HeX.Says dds exB K) (G : h.Ns mainGlobals mg) (C : Cm K mg) (X : HeX.ErrX clFile K ⟨"OtherSorts", "SlotsumsError", "ValueError", "ValueError.__new__", "ValueError.__init__", ["position"]⟩) : Er1 PG14 w K mg base "OtherSorts" "position" (He.ga K "OtherSorts") := by
  obtain ⟨oc, od, osl, kV, doc, pm, cdv, ct, an, cc, lk, cd⟩ := c.init 45 (d := ⟨("OtherSorts", some "__init__"), "__init__", "OtherSorts.__init__", sI33, ["__class__"]⟩) rfl rfl
  obtain ⟨⟨dd, sl, hcc⟩, _⟩ := X.cell lk rfl
  have SK := X.supK (P := PG14) (mg := mg) (ar := arOf sI33) lk rfl rfl (by show (defScope sI33).names.lookup (arOf sI33).arg = some NameKind.local; decide +kernel) pf ptop C.ms C.op
  have EK := X.ek C.O F.excBase_ValueError tl_ve
  exact ⟨PySem.W.mg_of KX G X.at_, X.no _ (by simp), ⟨_, _, EK, .all (fun us hl => match us, hl with | [_, _], _ => rfl), (fun s self v => .of_eq rfl), ok_i33 cd hcc SK EK.es (X.no _ (by simp))⟩⟩
theorem mk_34 (KX : K.In h) (c : HeX.Says dds exB K) (G : h.Ns mainGlobals mg) (C : Cm K mg) (X : HeX.ErrX clFile K ⟨"OtherTable", "SlotsumsError", "ValueError", "ValueError.__new__", "ValueError.__init__", ["name"]⟩) : Er1 PG14 w K mg base "OtherTable" "name" (He.ga K "OtherTable") := by
  obtain ⟨oc, od, osl, kV, doc, pm, cdv, ct, an, cc, lk, cd⟩ := c.init 46 (d := ⟨("OtherTable", some "__init__"), "__init__", "OtherTable.__init__", sI34, ["__class__"]⟩) rfl rfl
  obtain ⟨⟨dd, sl, hcc⟩, _⟩ := X.cell lk rfl
  have SK := X.supK (P := PG14) (mg := mg) (ar := arOf sI34) lk rfl rfl (by show (defScope sI34).names.lookup (arOf sI34).arg = some NameKind.local; decide +kernel) pf ptop C.ms C.op
  have EK := X.ek C.O F.excBase_ValueError tl_ve
  exact ⟨PySem.W.mg_of KX G X.at_, X.no _ (by simp), ⟨_, _, EK, .all (fun us hl => match us, hl with | [_, _], _ => rfl), (fun s self v => .of_eq rfl), ok_i34 cd hcc SK EK.es (X.no _ (by simp))⟩⟩
theorem mk_35 (KX : K.In h) (c : HeX.Says dds exB K) (G : h.Ns mainGlobals mg) (C : Cm K mg) (X : HeX.ErrX clFile K ⟨"OtherNames", "SlotsumsError", "ValueError", "ValueError.__new__", "ValueError.__init__", ["name"]⟩) : Er1 PG14 w K mg base "OtherNames" "name" (He.ga K "OtherNames") := by
  obtain ⟨oc, od, osl, kV, doc, pm, cdv, ct, an, cc, lk, cd⟩ := c.init 47 (d := ⟨("OtherNames", some "__init__"), "__init__", "OtherNames.__init__", sI35, ["__class__"]⟩) rfl rfl
  obtain ⟨⟨dd, sl, hcc⟩, _⟩ := X.cell lk rfl
  have SK := X.supK (P := PG14) (mg := mg) (ar := arOf sI35) lk rfl rfl (by show (defScope sI35).names.lookup (arOf sI35).arg = some NameKind.local; decide +kernel) pf ptop C.ms C.op
  have EK := X.ek C.O F.excBase_ValueError tl_ve
  exact ⟨PySem.W.mg_of KX G X.at_, X.no _ (by simp), ⟨_, _, EK, .all (fun us hl => match us, hl with | [_, _], _ => rfl), (fun s self v => .of_eq rfl), ok_i35 cd hcc SK EK.es (X.no _ (by simp))⟩⟩
theorem mk_36 (KX : K.In h) (c : HeX.Says dds exB K) (G : h.Ns mainGlobals mg) (C : Cm K mg) (X : HeX.ErrX clFile K ⟨"Vanishing", "SlotsumsError", "ValueError", "ValueError.__new__", "ValueError.__init__", ["name"]⟩) : Er1 PG14 w K mg base "Vanishing" "name" (He.ga K "Vanishing") := by
  obtain ⟨oc, od, osl, kV, doc, pm, cdv, ct, an, cc, lk, cd⟩ := c.init 48 (d := ⟨("Vanishing", some "__init__"), "__init__", "Vanishing.__init__", sI36, ["__class__"]⟩) rfl rfl
  obtain ⟨⟨dd, sl, hcc⟩, _⟩ := X.cell lk rfl
  have SK := X.supK (P := PG14) (mg := mg) (ar := arOf sI36) lk rfl rfl (by show (defScope sI36).names.lookup (arOf sI36).arg = some NameKind.local; decide +kernel) pf ptop C.ms C.op
  have EK := X.ek C.O F.excBase_ValueError tl_ve
  exact ⟨PySem.W.mg_of KX G X.at_, X.no _ (by simp), ⟨_, _, EK, .all (fun us hl => match us, hl with | [_, _], _ => rfl), (fun s self v => .of_eq rfl), ok_i36 cd hcc SK EK.es (X.no _ (by simp))⟩⟩
theorem mk_37 (KX : K.In h) (c : HeX.Says dds exB K) (G : h.Ns mainGlobals mg) (C : Cm K mg) (X : HeX.ErrX clFile K ⟨"ChangesSign", "SlotsumsError", "ValueError", "ValueError.__new__", "ValueError.__init__", ["name"]⟩) : Er1 PG14 w K mg base "ChangesSign" "name" (He.ga K "ChangesSign") := by
  obtain ⟨oc, od, osl, kV, doc, pm, cdv, ct, an, cc, lk, cd⟩ := c.init 49 (d := ⟨("ChangesSign", some "__init__"), "__init__", "ChangesSign.__init__", sI37, ["__class__"]⟩) rfl rfl
  obtain ⟨⟨dd, sl, hcc⟩, _⟩ := X.cell lk rfl
  have SK := X.supK (P := PG14) (mg := mg) (ar := arOf sI37) lk rfl rfl (by show (defScope sI37).names.lookup (arOf sI37).arg = some NameKind.local; decide +kernel) pf ptop C.ms C.op
  have EK := X.ek C.O F.excBase_ValueError tl_ve
  exact ⟨PySem.W.mg_of KX G X.at_, X.no _ (by simp), ⟨_, _, EK, .all (fun us hl => match us, hl with | [_, _], _ => rfl), (fun s self v => .of_eq rfl), ok_i37 cd hcc SK EK.es (X.no _ (by simp))⟩⟩
theorem mk_38 (KX : K.In h) (c : HeX.Says dds exB K) (G : h.Ns mainGlobals mg) (C : Cm K mg) (X : HeX.ErrX clFile K ⟨"NoFactors", "SlotsumsError", "ValueError", "ValueError.__new__", "ValueError.__init__", []⟩) : Er0 PG14 w K mg base "NoFactors" (He.ga K "NoFactors") := by
  obtain ⟨oc, od, osl, kV, doc, pm, cdv, ct, an, cc, lk, cd⟩ := c.init 50 (d := ⟨("NoFactors", some "__init__"), "__init__", "NoFactors.__init__", sI38, ["__class__"]⟩) rfl rfl
  obtain ⟨⟨dd, sl, hcc⟩, _⟩ := X.cell lk rfl
  have SK := X.supK (P := PG14) (mg := mg) (ar := arOf sI38) lk rfl rfl (by show (defScope sI38).names.lookup (arOf sI38).arg = some NameKind.local; decide +kernel) pf ptop C.ms C.op
  have EK := X.ek C.O F.excBase_ValueError tl_ve
  exact ⟨PySem.W.mg_of KX G X.at_, ⟨_, _, EK, .all (fun us hl => match us, hl with | [_], _ => rfl), ok_i38 cd hcc SK EK.es⟩⟩
theorem mk_39 (KX : K.In h) (c : HeX.Says dds exB K) (G : h.Ns mainGlobals mg) (C : Cm K mg) (X : HeX.ErrX clFile K ⟨"TooMany", "SlotsumsError", "ValueError", "ValueError.__new__", "ValueError.__init__", ["kind", "limit"]⟩) : Er2 PG14 w K mg base "TooMany" "kind" "limit" (He.ga K "TooMany") := by
  obtain ⟨oc, od, osl, kV, doc, pm, cdv, ct, an, cc, lk, cd⟩ := c.init 51 (d := ⟨("TooMany", some "__init__"), "__init__", "TooMany.__init__", sI39, ["__class__"]⟩) rfl rfl
  obtain ⟨⟨dd, sl, hcc⟩, _⟩ := X.cell lk rfl
  have SK := X.supK (P := PG14) (mg := mg) (ar := arOf sI39) lk rfl rfl (by show (defScope sI39).names.lookup (arOf sI39).arg = some NameKind.local; decide +kernel) pf ptop C.ms C.op
  have EK := X.ek C.O F.excBase_ValueError tl_ve
  exact ⟨PySem.W.mg_of KX G X.at_, X.no _ (by simp), X.no _ (by simp), by decide, ⟨_, _, EK, .all (fun us hl => match us, hl with | [_, _, _], _ => rfl), (fun s self v u => .of_eq rfl), ok_i39 cd hcc SK EK.es (X.no _ (by simp)) (X.no _ (by simp))⟩⟩
theorem mk_40 (KX : K.In h) (c : HeX.Says dds exB K) (G : h.Ns mainGlobals mg) (C : Cm K mg) (X : HeX.ErrX clFile K ⟨"UnknownSort", "MissingError", "LookupError", "LookupError.__new__", "LookupError.__init__", ["name"]⟩) : Er1 PG14 w K mg base "UnknownSort" "name" (He.ga K "UnknownSort") := by
  obtain ⟨oc, od, osl, kV, doc, pm, cdv, ct, an, cc, lk, cd⟩ := c.init 52 (d := ⟨("UnknownSort", some "__init__"), "__init__", "UnknownSort.__init__", sI40, ["__class__"]⟩) rfl rfl
  obtain ⟨⟨dd, sl, hcc⟩, _⟩ := X.cell lk rfl
  have SK := X.supK (P := PG14) (mg := mg) (ar := arOf sI40) lk rfl rfl (by show (defScope sI40).names.lookup (arOf sI40).arg = some NameKind.local; decide +kernel) pf ptop C.ms C.op
  have EK := X.ek C.O F.excBase_LookupError tl_le
  exact ⟨PySem.W.mg_of KX G X.at_, X.no _ (by simp), ⟨_, _, EK, .all (fun us hl => match us, hl with | [_, _], _ => rfl), (fun s self v => .of_eq rfl), ok_i40 cd hcc SK EK.es (X.no _ (by simp))⟩⟩
theorem mk_41 (KX : K.In h) (c : HeX.Says dds exB K) (G : h.Ns mainGlobals mg) (C : Cm K mg) (X : HeX.ErrX clFile K ⟨"UnknownName", "MissingError", "LookupError", "LookupError.__new__", "LookupError.__init__", ["value"]⟩) : Er1 PG14 w K mg base "UnknownName" "value" (He.ga K "UnknownName") := by
  obtain ⟨oc, od, osl, kV, doc, pm, cdv, ct, an, cc, lk, cd⟩ := c.init 53 (d := ⟨("UnknownName", some "__init__"), "__init__", "UnknownName.__init__", sI41, ["__class__"]⟩) rfl rfl
  obtain ⟨⟨dd, sl, hcc⟩, _⟩ := X.cell lk rfl
  have SK := X.supK (P := PG14) (mg := mg) (ar := arOf sI41) lk rfl rfl (by show (defScope sI41).names.lookup (arOf sI41).arg = some NameKind.local; decide +kernel) pf ptop C.ms C.op
  have EK := X.ek C.O F.excBase_LookupError tl_le
  exact ⟨PySem.W.mg_of KX G X.at_, X.no _ (by simp), ⟨_, _, EK, .all (fun us hl => match us, hl with | [_, _], _ => rfl), (fun s self v => .of_eq rfl), ok_i41 cd hcc SK EK.es (X.no _ (by simp))⟩⟩
theorem mk_42 (KX : K.In h) (c : HeX.Says dds exB K) (G : h.Ns mainGlobals mg) (C : Cm K mg) (X : HeX.ErrX clFile K ⟨"NameTaken", "StateError", "RuntimeError", "RuntimeError.__new__", "RuntimeError.__init__", ["name"]⟩) : Er1 PG14 w K mg base "NameTaken" "name" (He.ga K "NameTaken") := by
  obtain ⟨oc, od, osl, kV, doc, pm, cdv, ct, an, cc, lk, cd⟩ := c.init 54 (d := ⟨("NameTaken", some "__init__"), "__init__", "NameTaken.__init__", sI42, ["__class__"]⟩) rfl rfl
  obtain ⟨⟨dd, sl, hcc⟩, _⟩ := X.cell lk rfl
  have SK := X.supK (P := PG14) (mg := mg) (ar := arOf sI42) lk rfl rfl (by show (defScope sI42).names.lookup (arOf sI42).arg = some NameKind.local; decide +kernel) pf ptop C.ms C.op
  have EK := X.ek C.O F.excBase_RuntimeError tl_re
  exact ⟨PySem.W.mg_of KX G X.at_, X.no _ (by simp), ⟨_, _, EK, .all (fun us hl => match us, hl with | [_, _], _ => rfl), (fun s self v => .of_eq rfl), ok_i42 cd hcc SK EK.es (X.no _ (by simp))⟩⟩
theorem mk_43 (KX : K.In h) (c : HeX.Says dds exB K) (G : h.Ns mainGlobals mg) (C : Cm K mg) (X : HeX.ErrX clFile K ⟨"NothingToUndo", "StateError", "RuntimeError", "RuntimeError.__new__", "RuntimeError.__init__", []⟩) : Er0 PG14 w K mg base "NothingToUndo" (He.ga K "NothingToUndo") := by
  obtain ⟨oc, od, osl, kV, doc, pm, cdv, ct, an, cc, lk, cd⟩ := c.init 55 (d := ⟨("NothingToUndo", some "__init__"), "__init__", "NothingToUndo.__init__", sI43, ["__class__"]⟩) rfl rfl
  obtain ⟨⟨dd, sl, hcc⟩, _⟩ := X.cell lk rfl
  have SK := X.supK (P := PG14) (mg := mg) (ar := arOf sI43) lk rfl rfl (by show (defScope sI43).names.lookup (arOf sI43).arg = some NameKind.local; decide +kernel) pf ptop C.ms C.op
  have EK := X.ek C.O F.excBase_RuntimeError tl_re
  exact ⟨PySem.W.mg_of KX G X.at_, ⟨_, _, EK, .all (fun us hl => match us, hl with | [_], _ => rfl), ok_i43 cd hcc SK EK.es⟩⟩
theorem mk_44 (KX : K.In h) (c : HeX.Says dds exB K) (G : h.Ns mainGlobals mg) (C : Cm K mg) (X : HeX.ErrX clFile K ⟨"DividedByZero", "StateError", "RuntimeError", "RuntimeError.__new__", "RuntimeError.__init__", []⟩) : Er0 PG14 w K mg base "DividedByZero" (He.ga K "DividedByZero") := by
  obtain ⟨oc, od, osl, kV, doc, pm, cdv, ct, an, cc, lk, cd⟩ := c.init 56 (d := ⟨("DividedByZero", some "__init__"), "__init__", "DividedByZero.__init__", sI44, ["__class__"]⟩) rfl rfl
  obtain ⟨⟨dd, sl, hcc⟩, _⟩ := X.cell lk rfl
  have SK := X.supK (P := PG14) (mg := mg) (ar := arOf sI44) lk rfl rfl (by show (defScope sI44).names.lookup (arOf sI44).arg = some NameKind.local; decide +kernel) pf ptop C.ms C.op
  have EK := X.ek C.O F.excBase_RuntimeError tl_re
  exact ⟨PySem.W.mg_of KX G X.at_, ⟨_, _, EK, .all (fun us hl => match us, hl with | [_], _ => rfl), ok_i44 cd hcc SK EK.es⟩⟩
theorem Df.of {x : Str} {ps : List Str} {k : Nat} {sp : Sp} {f : Addr} {fd : FuncData} {st : Stmt} (F : Fun K x x st f fd) (hm : mg x = some (.ref f)) (b : Binds K fd ps []) (G : FnOk PG14 w K mg base CX0 k f fd ps sp) : Df PG14 w K mg base x ps k sp := ⟨f, fd, hm, F.kp, b, G⟩
theorem DfG.of {x : Str} {ps : List Str} {k : Nat} {sp : Sp} {f : Addr} {fd : FuncData} {st : Stmt} (F : Fun K x x st f fd) (hm : mg x = some (.ref f)) (b : Binds K fd ps []) (G : FnG PG14 w K mg base CX0 k f fd ps sp) : DfG PG14 w K mg base x ps k sp := ⟨f, fd, hm, F.kp, b, G⟩
def nmE (k : Nat) : Str := (ers.getD k dfl).name
theorem ers_at : ∀ k < 45, (nmB ++ (nm0 ++ (nm1 ++ nm2)))[3 + k]? = some (nmE k) ∧ (ers.getD k dfl).base = nmB.getD (bs k) "" ∧ (ers.getD k dfl).B = tn (bs k) ∧ bs k < 3 ∧ (nmB ++ (nm0 ++ (nm1 ++ nm2)))[bs k]? = some (nmB.getD (bs k) "") := by decide +kernel
theorem nmB_at : ∀ j < 3, (nmB ++ (nm0 ++ (nm1 ++ nm2)))[j]? = some (nmB.getD j "") ∧ nmB.getD j "" ∈ nmB ∧ PySem.W.kitMeta (tn j) = true := by decide +kernel
theorem tl_at : ∀ b < 3, ∀ j < 3, (HeX.tlOf (tn b)).contains (.type (tn j)) = decide (b = j) := by decide +kernel
theorem all_mk {fa : Addr} (KX : K.In h) (c : HeX.Says dds exB K) (G : h.Ns mainGlobals mg) (hfa : mg "law" = some (.ref fa)) : LawT PySem.Challenge.rw_slotsums_k14_error_classes w K CX0 7 63 "_law_script" mg fa h := by
  have ex := List.all_eq_true.mp c.ex
  have at_ : ∀ (i : Nat) (b : Bool), (exL K)[i]? = some b → b = true := fun i b e => ex b (List.mem_of_getElem? e)
  have E : ∀ d ∈ ers, HeX.ErrX clFile K d := fun d hd => HeX.errB_ok (List.all_eq_true.mp (at_ 0 _ rfl) d hd)
  have gl : ∀ x ∈ nmD, mg x = some (.ref (He.ga K x)) := fun x hx => PySem.W.mg_of KX G (He.eqO_ok (List.all_eq_true.mp (at_ 1 _ rfl) x hx))
  have fr : ∀ x ∈ nmF, mg x = none := fun x hx => PySem.W.mg_none_of KX G (He.eqO_ok (List.all_eq_true.mp (at_ 2 _ rfl) x hx))
  have bb : ∀ x ∈ nmB, mg x = some (.ref (He.ga K x)) ∧ PySem.W.isClsIn K (He.ga K x) = true ∧ PySem.W.typeIn K (.ref (He.ga K x)) = some (.type "type") := fun x hx => by
    obtain ⟨z1, z2⟩ := Bool.and_eq_true_iff.mp (List.all_eq_true.mp (at_ 3 _ rfl) x hx)
    obtain ⟨z2, z3⟩ := Bool.and_eq_true_iff.mp z2
    exact ⟨PySem.W.mg_of KX G (He.eqO_ok z1), z2, of_decide_eq_true z3⟩
  have C : Cm K mg := ⟨⟨He.eqO_ok (at_ 4 _ rfl), of_decide_eq_true (at_ 5 _ rfl)⟩, fr "super" (by decide +kernel), He.eqO_ok (at_ 6 _ rfl)⟩
  have nd : ((nmB ++ (nm0 ++ (nm1 ++ nm2))).map (He.ga K)).Nodup := of_decide_eq_true (at_ 7 _ rfl)
  have mem : ∀ k < 45, ers.getD k dfl ∈ ers := fun k hk => by rw [List.getD_eq_getElem?_getD, List.getElem?_eq_getElem (by show k < 45; exact hk)]; exact List.getElem_mem _
  have DX : ∀ k < 45, HeX.ErrX clFile K (ers.getD k dfl) := fun k hk => E _ (mem k hk)
  have same : ∀ {i j : Nat} {x y : Str}, (nmB ++ (nm0 ++ (nm1 ++ nm2)))[i]? = some x → (nmB ++ (nm0 ++ (nm1 ++ nm2)))[j]? = some y → (He.ga K x = He.ga K y ↔ i = j) := fun {i j x y} hi hj => by
    refine ⟨fun z => nd_ix nd (by rw [List.getElem?_map, hi]; rfl) (by rw [List.getElem?_map, hj, z]; rfl), fun z => ?_⟩
    subst z
    rw [hi] at hj
    rw [Option.some.inj hj]
  have T : Bn mg := ⟨fr "isinstance" (by decide +kernel), fr "int" (by decide +kernel), fr "bool" (by decide +kernel), fr "len" (by decide +kernel), fr "list" (by decide +kernel), fr "max" (by decide +kernel), fr "min" (by decide +kernel), fr "sum" (by decide +kernel), fr "zip" (by decide +kernel), fr "range" (by decide +kernel), fr "tuple" (by decide +kernel), fr "enumerate" (by decide +kernel), fr "any" (by decide +kernel), fr "all" (by decide +kernel), fr "abs" (by decide +kernel), fr "divmod" (by decide +kernel), fr "str" (by decide +kernel), fr "repr" (by decide +kernel), fr "set" (by decide +kernel), fr "sorted" (by decide +kernel)⟩
  have Z : ∀ base : Heap, Errs PG14 w K mg base (fun k => He.ga K (nmE k)) (fun j => He.ga K (nmB.getD j "")) := fun base => by
    refine ⟨mk_0 KX c G C (E _ (List.mem_of_getElem? (i := 0) rfl)), mk_1 KX c G C (E _ (List.mem_of_getElem? (i := 1) rfl)), mk_2 KX c G C (E _ (List.mem_of_getElem? (i := 2) rfl)), mk_3 KX c G C (E _ (List.mem_of_getElem? (i := 3) rfl)), mk_4 KX c G C (E _ (List.mem_of_getElem? (i := 4) rfl)), mk_5 KX c G C (E _ (List.mem_of_getElem? (i := 5) rfl)), mk_6 KX c G C (E _ (List.mem_of_getElem? (i := 6) rfl)), mk_7 KX c G C (E _ (List.mem_of_getElem? (i := 7) rfl)), mk_8 KX c G C (E _ (List.mem_of_getElem? (i := 8) rfl)), mk_9 KX c G C (E _ (List.mem_of_getElem? (i := 9) rfl)), mk_10 KX c G C (E _ (List.mem_of_getElem? (i := 10) rfl)), mk_11 KX c G C (E _ (List.mem_of_getElem? (i := 11) rfl)), mk_12 KX c G C (E _ (List.mem_of_getElem? (i := 12) rfl)), mk_13 KX c G C (E _ (List.mem_of_getElem? (i := 13) rfl)), mk_14 KX c G C (E _ (List.mem_of_getElem? (i := 14) rfl)), mk_15 KX c G C (E _ (List.mem_of_getElem? (i := 15) rfl)), mk_16 KX c G C (E _ (List.mem_of_getElem? (i := 16) rfl)), mk_17 KX c G C (E _ (List.mem_of_getElem? (i := 17) rfl)), mk_18 KX c G C (E _ (List.mem_of_getElem? (i := 18) rfl)), mk_19 KX c G C (E _ (List.mem_of_getElem? (i := 19) rfl)), mk_20 KX c G C (E _ (List.mem_of_getElem? (i := 20) rfl)), mk_21 KX c G C (E _ (List.mem_of_getElem? (i := 21) rfl)), mk_22 KX c G C (E _ (List.mem_of_getElem? (i := 22) rfl)), mk_23 KX c G C (E _ (List.mem_of_getElem? (i := 23) rfl)), mk_24 KX c G C (E _ (List.mem_of_getElem? (i := 24) rfl)), mk_25 KX c G C (E _ (List.mem_of_getElem? (i := 25) rfl)), mk_26 KX c G C (E _ (List.mem_of_getElem? (i := 26) rfl)), mk_27 KX c G C (E _ (List.mem_of_getElem? (i := 27) rfl)), mk_28 KX c G C (E _ (List.mem_of_getElem? (i := 28) rfl)), mk_29 KX c G C (E _ (List.mem_of_getElem? (i := 29) rfl)), mk_30 KX c G C (E _ (List.mem_of_getElem? (i := 30) rfl)), mk_31 KX c G C (E _ (List.mem_of_getElem? (i := 31) rfl)), mk_32 KX c G C (E _ (List.mem_of_getElem? (i := 32) rfl)), mk_33 KX c G C (E _ (List.mem_of_getElem? (i := 33) rfl)), mk_34 KX c G C (E _ (List.mem_of_getElem? (i := 34) rfl)), mk_35 KX c G C (E _ (List.mem_of_getElem? (i := 35) rfl)), mk_36 KX c G C (E _ (List.mem_of_getElem? (i := 36) rfl)), mk_37 KX c G C (E _ (List.mem_of_getElem? (i := 37) rfl)), mk_38 KX c G C (E _ (List.mem_of_getElem? (i := 38) rfl)), mk_39 KX c G C (E _ (List.mem_of_getElem? (i := 39) rfl)), mk_40 KX c G C (E _ (List.mem_of_getElem? (i := 40) rfl)), mk_41 KX c G C (E _ (List.mem_of_getElem? (i := 41) rfl)), mk_42 KX c G C (E _ (List.mem_of_getElem? (i := 42) rfl)), mk_43 KX c G C (E _ (List.mem_of_getElem? (i := 43) rfl)), mk_44 KX c G C (E _ (List.mem_of_getElem? (i := 44) rfl)), fun k hk => (DX k hk).ec C.O, fun k hk => (DX k hk).str, fun k hk j hj => ?_, fun k hk j hj => ?_, fun k hk j hj => ?_, (bb _ (by decide +kernel)).1, (bb _ (by decide +kernel)).1, (bb _ (by decide +kernel)).1, fr _ (by decide +kernel), fr _ (by decide +kernel), fr _ (by decide +kernel)⟩
    · have e := (DX k hk).kit (DX j hj).isC (DX j hj).ty
      obtain ⟨k1, k2, _, k4, k5⟩ := ers_at k hk
      obtain ⟨j1, _⟩ := ers_at j hj
      unfold nmE at k1 j1
      refine e.trans (congrArg some ?_)
      have f1 := decide_eq_false (p := He.ga K (nmB.getD (bs k) "") = He.ga K (ers.getD j dfl).name) (fun z => by have := (same k5 j1).mp z; omega)
      rw [k2, f1, Bool.or_false, decide_eq_decide.mpr (same k1 j1)]
      by_cases z : k = j
      · rw [decide_eq_true z, decide_eq_true (by omega)]
      · rw [decide_eq_false z, decide_eq_false (by omega)]
    · obtain ⟨j1, j2, _⟩ := nmB_at j hj
      have e := (DX k hk).kit (bb _ j2).2.1 (bb _ j2).2.2
      obtain ⟨k1, k2, _, k4, k5⟩ := ers_at k hk
      unfold nmE at k1
      refine e.trans (congrArg some ?_)
      have f1 := decide_eq_false (p := He.ga K (ers.getD k dfl).name = He.ga K (nmB.getD j "")) (fun z => by have := (same k1 j1).mp z; omega)
      rw [k2, f1, Bool.false_or, decide_eq_decide.mpr (same k5 j1)]
    · obtain ⟨_, _, j3⟩ := nmB_at j hj
      have e := (DX k hk).kitT j3
      obtain ⟨_, _, k3, k4, _⟩ := ers_at k hk
      exact e.trans (congrArg some (by rw [k3, tl_at _ k4 _ hj]))
  obtain ⟨fd0, F0⟩ := c.fun_ 0 (d := ⟨("_law_pot", none), "_law_pot", "_law_pot", sPot, []⟩) rfl rfl
  have b0 := F0.binds (ps := ["_law_script", "_law_k"]) fun _ _ _ _ _ _ us hl => match us, hl with | [_, _], _ => rfl
  have g0 := gl "_law_pot" (by decide +kernel)
  obtain ⟨fd1, F1⟩ := c.fun_ 1 (d := ⟨("_law_draw", none), "_law_draw", "_law_draw", sDraw, []⟩) rfl rfl
  have b1 := F1.binds (ps := ["_law_pot_here", "_law_many"]) fun _ _ _ _ _ _ us hl => match us, hl with | [_, _], _ => rfl
  have g1 := gl "_law_draw" (by decide +kernel)
  obtain ⟨fd2, F2⟩ := c.fun_ 2 (d := ⟨("_law_value", none), "_law_value", "_law_value", sValue, []⟩) rfl rfl
  have b2 := F2.binds (ps := ["_law_pot_here"]) fun _ _ _ _ _ _ us hl => match us, hl with | [_], _ => rfl
  have g2 := gl "_law_value" (by decide +kernel)
  obtain ⟨fd3, F3⟩ := c.fun_ 3 (d := ⟨("_law_first_half", none), "_law_first_half", "_law_first_half", sFirst, []⟩) rfl rfl
  have b3 := F3.binds (ps := ["_law_e"]) fun _ _ _ _ _ _ us hl => match us, hl with | [_], _ => rfl
  have g3 := gl "_law_first_half" (by decide +kernel)
  obtain ⟨fd4, F4⟩ := c.fun_ 4 (d := ⟨("_law_second_half", none), "_law_second_half", "_law_second_half", sSecond, []⟩) rfl rfl
  have b4 := F4.binds (ps := ["_law_e"]) fun _ _ _ _ _ _ us hl => match us, hl with | [_], _ => rfl
  have g4 := gl "_law_second_half" (by decide +kernel)
  obtain ⟨fd5, F5⟩ := c.fun_ 5 (d := ⟨("_law_bases", none), "_law_bases", "_law_bases", sBases, []⟩) rfl rfl
  have b5 := F5.binds (ps := ["_law_e"]) fun _ _ _ _ _ _ us hl => match us, hl with | [_], _ => rfl
  have g5 := gl "_law_bases" (by decide +kernel)
  obtain ⟨fd6, F6⟩ := c.fun_ 6 (d := ⟨("_law_made", none), "_law_made", "_law_made", sMade, []⟩) rfl rfl
  have b6 := F6.binds (ps := ["_law_a", "_law_b"]) fun _ _ _ _ _ _ us hl => match us, hl with | [_, _], _ => rfl
  have g6 := gl "_law_made" (by decide +kernel)
  obtain ⟨fd7, F7⟩ := c.fun_ 7 (d := ⟨("_law_named", none), "_law_named", "_law_named", sNamed, []⟩) rfl rfl
  have b7 := F7.binds (ps := ["_law_a", "_law_b"]) fun _ _ _ _ _ _ us hl => match us, hl with | [_, _], _ => rfl
  have g7 := gl "_law_named" (by decide +kernel)
  obtain ⟨fd8, F8⟩ := c.fun_ 8 (d := ⟨("_law_fields", none), "_law_fields", "_law_fields", sFields, []⟩) rfl rfl
  have b8 := F8.binds (ps := ["_law_e", "_law_letter"]) fun _ _ _ _ _ _ us hl => match us, hl with | [_, _], _ => rfl
  have g8 := gl "_law_fields" (by decide +kernel)
  obtain ⟨fd9, F9⟩ := c.fun_ 9 (d := ⟨("_law_due_fields", none), "_law_due_fields", "_law_due_fields", sDue, []⟩) rfl rfl
  have b9 := F9.binds (ps := ["_law_a", "_law_b", "_law_letter"]) fun _ _ _ _ _ _ us hl => match us, hl with | [_, _, _], _ => rfl
  have g9 := gl "_law_due_fields" (by decide +kernel)
  obtain ⟨fd10, F10⟩ := c.fun_ 10 (d := ⟨("_law_right", none), "_law_right", "_law_right", sRight, []⟩) rfl rfl
  have b10 := F10.binds (ps := ["_law_pot_here"]) fun _ _ _ _ _ _ us hl => match us, hl with | [_], _ => rfl
  have g10 := gl "_law_right" (by decide +kernel)
  obtain ⟨fd11, F11⟩ := c.fun_ 11 (d := ⟨("law", none), "law", "law", sLaw, []⟩) rfl rfl
  have b11 := F11.binds (ps := ["_law_script"]) fun _ _ _ _ _ _ us hl => match us, hl with | [_], _ => rfl
  have g11 := gl "law" (by decide +kernel)
  have e := hfa.symm.trans g11
  obtain rfl : fa = He.ga K "law" := by injection e with e; injection e
  refine ⟨fd11, [], spLaw K, by simp, by simp, by simp, ?_, fun H a ns few _ list => ⟨a, ns, rfl, list, few, fun _ => rfl⟩, fun base KB GB _ => ?_⟩
  · obtain ⟨oc, od, kV, doc, pm, an, cdv, ct, osl, e, _⟩ := F11.ex
    subst e
    exact fun s u => .of_eq rfl
  have Zb := Z base
  have D0 := Df.of (w := w) (base := base) F0 g0 b0 (ok_pot F0 T)
  have D1 := Df.of (w := w) (base := base) F1 g1 b1 (ok_draw F1 T)
  have D2 := Df.of (w := w) (base := base) F2 g2 b2 (ok_value F2 T D1)
  have D3 := Df.of (w := w) (base := base) F3 g3 b3 (ok_first F3 T Zb)
  have D4 := Df.of (w := w) (base := base) F4 g4 b4 (ok_second F4 T Zb)
  have D5 := Df.of (w := w) (base := base) F5 g5 b5 (ok_bases F5 T Zb)
  have D6 := DfG.of (w := w) (base := base) F6 g6 b6 (ok_made F6 Zb)
  have D7 := DfG.of (w := w) (base := base) F7 g7 b7 (ok_named F7 Zb)
  have D8 := Df.of (w := w) (base := base) F8 g8 b8 (ok_fields F8)
  have D9 := Df.of (w := w) (base := base) F9 g9 b9 (ok_due F9)
  have D10 := DfG.of (w := w) (base := base) F10 g10 b10 (ok_right F10 T Zb D2 D6 D5 D3 D4 D8 D9 D7)
  exact ok_law F11 T D0 D10
end
end S14

open PySem PySem.W PySem.Calls PyProof.Rows in
set_option maxRecDepth 100000 in
set_option maxHeartbeats 0 in
theorem PySem.Challenge.cw_slotsums_k14_error_classes_holds : PySem.Challenge.rw_slotsums_k14_error_classes.Holds := by
  w_on; o_law
  refine HandSHeadRun.head_any (r := OpenLaw.row PySem.Challenge.rw_slotsums_k14_error_classes) (q := view (OpenLaw.row PySem.Challenge.rw_slotsums_k14_error_classes).prog [61]) (H := HeX.hook S14.dds S14.exB) (ob := S14.ob) (M := 20000) (loose := S14.loose) (d := HandSHeadRun.topDef (OpenLaw.row PySem.Challenge.rw_slotsums_k14_error_classes).prog 61) (kwd := []) (fun s => HeX.obs_eq s)
    (by kernel_rfl) (fun s => by kernel_rfl) S14.run (by kernel_rfl) (by kernel_rfl) (by kernel_rfl) (by rfl) (by first | assumption | decide +kernel) (by decide +kernel) ⟨rfl, rfl, rfl, rfl, rfl, by decide +kernel⟩ ?hw ?hc
  case hw => w_witness2
  case hc =>
    refine HeX.walk_ofX (l := PySem.Challenge.rw_slotsums_k14_error_classes) (n := 63) (k := 7) (x := "_law_script") rfl (by decide) (by kernel_rfl) ⟨rfl, by decide, by decide⟩ ?F
    intro w mg fa h K KX c G hmg0
    have hmg : mg ("law" : PySem.Str) = some (.ref fa) := by
      have e : (HandSHeadRun.topDef (OpenLaw.row PySem.Challenge.rw_slotsums_k14_error_classes).prog 61).name = ("law" : PySem.Str) := by kernel_rfl
      rw [← e]
      exact hmg0
    exact S14.all_mk KX c G hmg
