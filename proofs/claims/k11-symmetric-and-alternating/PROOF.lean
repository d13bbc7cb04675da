import PyProof.Rows.All
import Wide.All
import OpenK.AllK
import Wide.FinOn
import HandS.ForMost
import HandS.More
import PyProof.ReprRoads
import HandS.EndTab
import KE.KNest
import PyProof.ReprDict
import HandS.FStr
import KE.KExcIs
import HandS.ExcIs
import HandS.ExcField
import KE.KExcSuper
import HandS.ExcInit
import HandS.Nested
import HandS.Lambda
import HandS.ExcOwn
import KE.KOpsOwn
import KE.KCallOwn
import PyProof.InstEq
import HandS.SlotsOwn
import HandS.IsInst
import HandS.Star
import HandS.ClsMeth
import HandS.Property
import HandS.Style
import HandS.Wide
import HandS.WideBits
import HandS.TupAny
import HandS.Conv
import KE.KUnpack
import KE.KRevSl
import HandS.TryMany
import KE.SortData
import KE.KDictDisplayH
import HandS.Dict
import HandS.List
import HandS.Sort
import PyProof.Rows.ReprOcc
import PyProof.StrLawsRepr
import KE.KxStill
import HandS.Walk
import HandS.Deep
import HandS.TupSets
import KE.GoesEnum
import KE.GoesMore
import KE.GoesZip
import HandS.Iter
import HandS.Zip
import HandS.Exc
import PyProof.ReprLen
import HandS.HotCalls
import HandS.SetFor
import KE.RegKSuper
import PySem.Challenge.RW_slotsums_k11_symmetric_and_alternating
set_option Elab.async false
set_option linter.all false
set_option maxRecDepth 100000
set_option maxHeartbeats 8000000
/-! Defs that ask what is being shown around them: FnOk where no repr is under way (guards = some []). -/
namespace L2
open PySem PySem.Spec PyProof.Rows
/-- the def keeps its promise wherever no repr is under way -/
structure FnG (P : Program) (w : World) (K : PySem.W.Frag) (mg : Str → Option Value) (base : Heap) (CX : CXT) (k : Nat) (f : Addr) (fd : FuncData) (ps : List Str) (sp : Sp) : Prop where
  len : ∀ vs H Q E, sp vs H Q E → vs.length = ps.length
  run : ∀ (A : Around) (outer : List Env) (s : Shared) (H : Hp) (args : Args) (us : List Value) (vs : List V) (Q : VK) (E : XK), A.guards = some [] → Room k A → Env0 P w K mg base A outer s H → BindsTo s fd args (ps.zip us) → Vals vs us → sp vs H Q E →
    codeAny (model P w) A (.call (.ref f) args) (CR CX outer P w H s Q E) s
section
variable {CX : CXT} {P : Program} {w : World} {K : PySem.W.Frag} {mg : Str → Option Value} {base : Heap} {k : Nat} {f : Addr} {fd : FuncData} {N ps : List Str} {sp : Sp}
theorem FnOk.gd (F : FnOk P w K mg base CX k f fd ps sp) : FnG P w K mg base CX k f fd ps sp := ⟨F.len, fun A outer s H args us vs Q E _ => F.run A outer s H args us vs Q E⟩
theorem FnG.mono {j : Nat} (F : FnG P w K mg base CX j f fd ps sp) (h : j ≤ k) : FnG P w K mg base CX k f fd ps sp := ⟨F.len, fun A outer s H args us vs Q E hg hr => F.run A outer s H args us vs Q E hg (hr.mono h)⟩
/-- a body walked where no repr is under way -/
theorem fn_ofG {name qual : Str} {params : Arguments} {body : List Stmt} {scope : Scope} {dV kV doc pm cdv ct oc : Value} {an od : Option Addr} {osl : Array (Option Value)}
    (lk : K.lookup f = some ⟨oc, od, .func (PySem.W.fnOf name qual params body scope dV kV doc pm an cdv ct), osl⟩) (hcd : PySem.W.codeIn K cdv qual = true) (S : FnScope N ps scope) (len : ∀ vs H Q E, sp vs H Q E → vs.length = ps.length)
    (hbody : ∀ (A : Around) (outer : List Env) (s : Shared) (H : Hp) (vs : List V) (Q : VK) (E : XK), A.guards = some [] → Room k (A.deeper (envOfC qual scope s.heap.objs.size f cdv)) → sp vs H Q E →
      ∃ t, PSs (cxOf CX P w K mg base N qual scope f cdv A outer s H E) body t ∧ t { nx := fun _ H' => Q .non H', rt := Q } (start N vs) H) :
    FnG P w K mg base CX (k + 1) f (PySem.W.fnOf name qual params body scope dV kV doc pm an cdv ct) ps sp := by
  refine ⟨len, fun A outer s H args us vs Q E gd hr e0 hb r hsp => ?_⟩
  have KX : K.In s.heap := e0.mod.kin.keeps fun b o e => (e0.bs b o e).1
  refine codeAny_call_function hr.depth (KX _ _ lk) rfl S.co S.gen rfl (PySem.W.codeRec_of KX hcd) (hb _ _ _ _ ?_)
  refine wpAny_newFunctionEnv_cells S.kind (fun ⟨n, v⟩ hy => (S.par n (List.of_mem_zip hy).1).imp id fun q => ⟨q, PySem.W.cellsFrom_some _ _ _ (.inl q)⟩) fun env he s1 x => ?_
  subst he
  refine ⟨(e0.mod.nolimit.keeps fun b o e => (e0.bs b o e).1).keeps x.toInCall.keep, codeAny_func ?_⟩
  obtain ⟨t, ht, hq⟩ := hbody A outer s H vs Q E gd (hr.deeper _) hsp
  refine wpAny_mono (ht.run [] s1 (start N vs) H _ (inv_start S hr.hd e0 (len _ _ _ _ hsp) r x) hq) (fun fl s' hs => ?_) fun e s' hs => hs
  cases fl with
  | ret u => obtain ⟨v, σ', H', J, rv, q⟩ := hs; exact ⟨v, H', J.os, J.bare, J.base, J.hok, rv, q⟩
  | next => obtain ⟨σ', H', J, q⟩ := hs; exact ⟨V.non, H', J.os, J.bare, J.base, J.hok, rfl, q⟩
  | brk => obtain ⟨_, _, _, q⟩ := hs; exact False.elim q
  | cont => obtain ⟨_, _, _, q⟩ := hs; exact False.elim q
theorem Fun.okG {x qual : Str} {st : Stmt} (F : Fun K x qual st f fd) (S : FnScope N ps (defScope st)) (len : ∀ vs H Q E, sp vs H Q E → vs.length = ps.length)
    (hbody : ∀ (cdv : Value) (A : Around) (outer : List Env) (s : Shared) (H : Hp) (vs : List V) (Q : VK) (E : XK), A.guards = some [] → Room k (A.deeper (envOfC qual (defScope st) s.heap.objs.size f cdv)) → sp vs H Q E →
      ∃ t, PSs (cxOf CX0 P w K mg base N qual (defScope st) f cdv A outer s H E).nox (defBody st) t ∧ t { nx := fun _ H' => Q .non H', rt := Q } (start N vs) H) : FnG P w K mg base CX0 (k + 1) f fd ps sp := by
  obtain ⟨oc, od, kV, doc, pm, an, cdv, ct, osl, rfl, lk, hcd⟩ := F.ex
  refine fn_ofG lk hcd S len fun A outer s H vs Q E gd hr hsp => ?_
  obtain ⟨t, h, q⟩ := hbody cdv A outer s H vs Q E gd hr hsp
  exact ⟨t, h.nox, q⟩
end
section
variable {X : Cx} {CX : CXT} {k : Nat} {f C : Addr} {fd : FuncData} {ps : List Str} {sp : Sp} {dvs : List V} {ds : List Value} {E : XK} {x m : Str} {p pos apos : Pos} {e o : Expr} {es : List Expr} {ta : TE} {t : TA}
theorem run_fnG {pins : List (Addr × Obj)} {σ : St} {H : Hp} {s : Shared} {Q : VK} {us : List Value} {vs : List V} (F : FnG X.prog X.w X.K X.mg X.base CX k f fd ps sp) (gd : X.A.guards = some []) (hr : Room k X.A) (hb : Binds X.K fd ps ds) (hd : Vals dvs ds) (hx : Passes CX X E)
    (I : Inv X pins σ H s) (r : Vals vs us) (h : sp (vs ++ dvs) H Q E) : wpAny (model X.prog X.w) X.A (call (.ref f) us) (EP X pins σ Q) X.xe s := by
  have r2 : Vals (vs ++ dvs) (us ++ ds) := r.append hd
  refine wpAny_call (codeAny_mono (F.run X.A X.stack s H ⟨us, []⟩ (us ++ ds) (vs ++ dvs) Q E gd hr I.env0 (hb s us I.kIn (by rw [← r2.length]; exact F.len _ _ _ _ h)) r2 h) fun r s' hq => ?_)
  cases r with
  | error e => exact hx pins σ H s e s' I hq
  | ok fl =>
    cases fl with
    | ret u => exact I.after hq
    | next => exact False.elim hq
    | brk => exact False.elim hq
    | cont => exact False.elim hq
theorem pe_callG (F : FnG X.prog X.w X.K X.mg X.base CX k f fd ps sp) (gd : X.A.guards = some []) (hr : Room k X.A) (hg : Gl X x) (hm : X.mg x = some (.ref f)) (hk : PySem.W.keepIn X.K (.ref f) = true) (hb : Binds X.K fd ps ds) (hd : Vals dvs ds) (hx : Passes CX X E)
    (ha : PA X (e :: es) t) (hdb : (x == ("__debug__" : Str)) = false := by decide) (he : starEach (e :: es) X.env = (false, eval e X.env) :: starEach es X.env := by rfl) (hpl : (backTo pos (starEach es X.env)).any (·.1) = false := by rfl) :
    PE X (.Call (.Name x p) (e :: es) [] pos) (tCall sp dvs E t) :=
  ⟨fun pins s σ H Q I h => wpAny_Call_Name_kw (ld_glob I hg hm (PySem.W.callWith_K (h₀ := X.base) I.ok.mod.kin hk (thn (ha.run pos pins s σ H _ I h) fun us s1 ⟨vs, H1, I1, r, q⟩ => ⟨I1.kIn, run_fnG F gd hr hb hd hx I1 r q⟩) he hpl) hdb)⟩
/-! ### repr of data -/
theorem call_reprD (gd : X.A.guards = some []) (hu : X.A.units + 70 < cLine) : CallR X (.builtin "repr") (fun xs H Q => ∃ a d, xs = [V.ref a] ∧ Dp X.K H (.ref a) d ∧ d.showable = true ∧ d.hasDict = false ∧ d.depth ≤ 64 ∧ d.shown.length ≤ sizeLine ∧ Q (.str d.shown) H) := by
  intro pins s σ H xs us Q I r h
  obtain ⟨a, d, rfl, hd, hs, hnd, hdp, hz, q⟩ := h
  obtain ⟨u, rfl, ru⟩ := vals1 r
  obtain rfl : u = Value.ref a := ru
  obtain ⟨as, rd⟩ := Dp.reads I d _ _ hd rfl
  refine PySem.repr_of_reads' rd hs (fun z => by rw [hnd] at z; cases z) gd (by omega) (fun _ _ e => e) (fun h' u tk kp => ?_) hz
  exact ⟨.str d.shown, H, I.kept (t' := tk) kp, ⟨_, rfl⟩, q⟩
end
end L2

/-! The end of a law row with lambdas whose defs are told by FnG. -/
namespace L2
open PySem PySem.Spec PyProof.Rows LamX
section
variable {P : Program} {w : World} {K : PySem.W.Frag} {mg mb : Str → Option Value} {CX : CXT} {k : Nat} {fa a : Addr} {fd : FuncData} {x : Str} {sp : Sp} {s₁ : Shared} {vs : List Value} {ns : List Int} {cs : List (Addr × Addr)}
abbrev emptyTab : Obj := { cls := .none, data := .fields #[] }
/-- the call from an abstract heap that tracks at most the script and the tables -/
theorem law_coreT (KX : K.In s₁.heap) (gl : s₁.heap.Ns mainGlobals mg) (bl : s₁.heap.Ns builtinsNs mb) (boot : ∀ x : Str, x ≠ "__name__" → mb x = bootBuiltins x) (lim : s₁.heap.NoLimit) (gens : s₁.gens = #[])
    (tabs : ∀ p ∈ cs, s₁.heap.get? p.2 = some emptyTab) (notK : ∀ p ∈ cs, K.lookup p.2 = none) (code : ∀ p ∈ cs, PySem.W.CodeHd s₁.heap p.1 p.2)
    (main : ∃ (bm : Addr) (ob : Obj), mg "__builtins__" = some (.ref bm) ∧ bm ≠ builtinsNs ∧ s₁.heap.get? bm = some ob ∧ ob.cls = .type "module" ∧ ob.dict = some builtinsNs ∧ ob.data = .plain)
    (ha : s₁.heap.get? a = some { cls := .type "list", data := .seq vs.toArray }) (room : Room k callerA)
    (F : ∀ base : Heap, K.In base → base.Ns mainGlobals mg → (∀ p ∈ cs, TabB base mg p.1 p.2) → FnG P w K mg base CX k fa fd [x] sp) (bind : ∀ (s : Shared) (u : Value), BindsTo s fd ⟨[u], []⟩ [(x, u)]) (noX : ∀ H e s', CX [] H s₁ (fun _ _ _ => False) e s' → False)
    (H : Hp) (atT : ∀ p ∈ cs, H p.2 = some (.tbl #[])) (frozen : ∀ b, (∀ p ∈ cs, b ≠ p.2) → H b = none ∨ ∃ o xs, H b = some (.frz o (.lst xs))) (wish : sp [.ref a] H (fun v _ => v = .bl true) fun _ _ _ => False) (hok : HOk P w H s₁.heap)
    (only : ∀ b, H b ≠ none → b = a ∨ ∃ p ∈ cs, b = p.2) (free : H a ≠ none → K.lookup a = none) :
    codeAny (model P w) callerA (.call (.ref fa) ⟨[.ref a], []⟩) (fun r s' => r = .ok (.ret (.bool true)) ∧ OldK s₁.heap s'.heap ∧ s'.os = s₁.os ∧ AllBare s'.gens) s₁ := by
  have untracked : ∀ {b : Addr} {o : Obj}, s₁.heap.get? b = some o → (∀ vs n, o.data ≠ .seq vs n) → o.data ≠ .fields #[] → H b = none := fun {b o} e q1 q2 => by
    refine Classical.byContradiction fun hb => ?_
    rcases only b hb with rfl | ⟨p, hp, rfl⟩
    · rw [ha] at e
      exact q1 _ _ (by rw [← Option.some.inj e])
    · rw [tabs p hp] at e
      exact q2 (by rw [← Option.some.inj e])
  have dicts : ∀ {b : Addr} {m : Str → Option Value}, s₁.heap.Ns b m → (hidT s₁.heap H).Ns b m := fun {b m} ⟨o, es, ep, e, d, r⟩ =>
    ⟨o, es, ep, hidT_get e (untracked e (fun _ _ z => nomatch d.symm.trans z) fun z => nomatch d.symm.trans z), d, r⟩
  have KB : K.In (hidT s₁.heap H) := fun b o e => hidT_get (KX b o e) (by
    refine Classical.byContradiction fun hb => ?_
    rcases only b hb with rfl | ⟨p, hp, rfl⟩
    · rw [free hb] at e
      cases e
    · rw [notK p hp] at e
      cases e)
  have mod : L2.Mod K mg (hidT s₁.heap H) := ⟨KB, dicts gl, ⟨mb, dicts bl, boot⟩, let ⟨mc, l1, l2⟩ := lim; ⟨mc, dicts l1, l2⟩⟩
  have TB : ∀ p ∈ cs, TabB (hidT s₁.heap H) mg p.1 p.2 := fun p hp => by
    have tp := tabs p hp
    constructor
    · obtain ⟨o, us, file, tf, flags, tg, inF, text, tt, c1, c2, c3, c4, c5, c6, c7, c8, c9, c10⟩ := code p hp
      refine ⟨o, us, file, tf, flags, tg, inF, text, tt, hidT_get c1 (untracked c1 (fun _ _ z => nomatch c3.symm.trans z) fun z => ?_), c2, c3, c4, c5, c6, c7, c8, c9, c10⟩
      have z2 : us = #[] := by
        have := c3.symm.trans z
        injection this
      subst z2
      simp at c4
    · obtain ⟨bm, ob, b1, b2, b3, b4, b5, b6⟩ := main
      refine ⟨bm, ob, b1, b2, fun z => ?_, fun z => ?_, hidT_get b3 (untracked b3 (fun _ _ z => nomatch b6.symm.trans z) fun z => nomatch b6.symm.trans z), b4, b5, b6⟩
      · obtain ⟨o, es, ep, e, d, _⟩ := gl
        rw [z, e] at b3
        cases b3
        exact nomatch d.symm.trans b6
      · rw [z, tp] at b3
        cases b3
        exact nomatch b6
    · intro z
      obtain ⟨o, es, ep, e, d, _⟩ := gl
      rw [z, tp] at e
      cases e
      exact nomatch d
  have start : Env0 P w K mg (hidT s₁.heap H) callerA [] s₁ H := ⟨rfl, mod, fun b o e => of_hidT e, Nat.le_of_eq (hidT_size _ _), trivial, (fun b hb => by cases hb), hok, .of_eq gens⟩
  refine codeAny_mono ((F _ KB (dicts gl) TB).run callerA [] s₁ H ⟨[.ref a], []⟩ [.ref a] [.ref a] _ _ rfl room start (bind s₁ (.ref a)) (.cons rfl .nil) wish) fun r s' h => ?_
  cases r with
  | error e => exact (noX H e s' h).elim
  | ok fl =>
    cases fl with
    | next => exact False.elim h
    | brk => exact False.elim h
    | cont => exact False.elim h
    | ret u =>
      obtain ⟨v, H', os, bare, un, after, r', q⟩ := h
      obtain rfl : v = .bl true := q
      obtain rfl : u = Value.bool true := r'
      have stays : ∀ b o, (∀ p ∈ cs, b ≠ p.2) → s₁.heap.get? b = some o → s'.heap.get? b = some o := fun b o nb e => by
        rcases frozen b nb with z | ⟨ob, xs, z⟩
        · exact un.keep b o e z (fun y => by cases y) (fun y => by cases y)
        · obtain ⟨e1, _⟩ := hok b _ z
          obtain ⟨e2, _⟩ := after b _ (un.frzs b ob _ z)
          rw [e] at e1
          cases e1
          exact e2
      have grows : ∀ p ∈ cs, ∃ more : Array Value, s'.heap.get? p.2 = some { cls := .none, data := .fields more } := fun p hp => by
        obtain ⟨more, z⟩ := un.tbls p.2 #[] (atT p hp)
        exact ⟨_, after p.2 _ z⟩
      have split : ∀ b : Addr, (∃ p ∈ cs, b = p.2) ∨ ∀ p ∈ cs, b ≠ p.2 := fun b => Classical.byCases .inl fun z => .inr fun p hp e => z ⟨p, hp, e⟩
      refine ⟨rfl, ⟨fun b o e => ?_, fun b o e => ?_⟩, os, bare⟩
      · rcases split b with ⟨p, hp, rfl⟩ | nb
        · obtain ⟨more, hm⟩ := grows p hp
          have e' := (tabs p hp).symm.trans e
          cases e'
          exact .inr (.inl ⟨((code p hp).tab (tabs p hp)).isCodeTable, rfl, #[], more, rfl, by rw [Array.empty_append]; exact hm⟩)
        · exact .inl (stays b o nb e)
      · rcases split b with ⟨p, hp, rfl⟩ | nb
        · obtain ⟨more, hm⟩ := grows p hp
          exact ⟨_, hm⟩
        · exact ⟨o, stays b o nb e⟩
open Classical in
/-- the script, if the text does not keep it, and the tables -/
noncomputable def startT (K : PySem.W.Frag) (a : Addr) (vs : List Value) (ns : List Int) (cs : List (Addr × Addr)) : Hp := fun b =>
  if b = a then (if K.lookup a = none then some (.frz { cls := .type "list", data := .seq vs.toArray } (.lst (ns.map V.int))) else none) else if ∃ p ∈ cs, b = p.2 then some (.tbl #[]) else none
theorem law_callT (KX : K.In s₁.heap) (gl : s₁.heap.Ns mainGlobals mg) (bl : s₁.heap.Ns builtinsNs mb) (boot : ∀ x : Str, x ≠ "__name__" → mb x = bootBuiltins x) (lim : s₁.heap.NoLimit) (gens : s₁.gens = #[])
    (tabs : ∀ p ∈ cs, s₁.heap.get? p.2 = some emptyTab) (notK : ∀ p ∈ cs, K.lookup p.2 = none) (code : ∀ p ∈ cs, PySem.W.CodeHd s₁.heap p.1 p.2)
    (main : ∃ (bm : Addr) (ob : Obj), mg "__builtins__" = some (.ref bm) ∧ bm ≠ builtinsNs ∧ s₁.heap.get? bm = some ob ∧ ob.cls = .type "module" ∧ ob.dict = some builtinsNs ∧ ob.data = .plain)
    (ha : s₁.heap.get? a = some { cls := .type "list", data := .seq vs.toArray }) (hi : IntsAre vs ns) (hl : ns.length ≤ sizeLine) (room : Room k callerA)
    (F : ∀ base : Heap, K.In base → base.Ns mainGlobals mg → (∀ p ∈ cs, TabB base mg p.1 p.2) → FnG P w K mg base CX k fa fd [x] sp) (bind : ∀ (s : Shared) (u : Value), BindsTo s fd ⟨[u], []⟩ [(x, u)]) (noX : ∀ H e s', CX [] H s₁ (fun _ _ _ => False) e s' → False)
    (hsp : ∀ H : Hp, (∀ p ∈ cs, H p.2 = some (.tbl #[])) → SqL K H a (ns.map V.int) → sp [.ref a] H (fun v _ => v = .bl true) fun _ _ _ => False) :
    codeAny (model P w) callerA (.call (.ref fa) ⟨[.ref a], []⟩) (fun r s' => r = .ok (.ret (.bool true)) ∧ OldK s₁.heap s'.heap ∧ s'.os = s₁.os ∧ AllBare s'.gens) s₁ := by
  have rv := vals_ints hi
  have apart : ∀ p ∈ cs, p.2 ≠ a := fun p hp z => by
    have e := tabs p hp
    rw [z, ha] at e
    cases e
  have atT : ∀ p ∈ cs, startT K a vs ns cs p.2 = some (.tbl #[]) := fun p hp => by
    unfold startT
    rw [if_neg (apart p hp), if_pos ⟨p, hp, rfl⟩]
  have atA : startT K a vs ns cs a = if K.lookup a = none then some (.frz { cls := .type "list", data := .seq vs.toArray } (.lst (ns.map V.int))) else none := by
    unfold startT
    rw [if_pos rfl]
  have list : SqL K (startT K a vs ns cs) a (ns.map V.int) := by
    cases hk : K.lookup a with
    | none => exact .inl (.inr ⟨_, by rw [atA, if_pos hk]⟩)
    | some o =>
      have e := KX a o hk
      rw [ha] at e
      cases e
      exact .inr ⟨_, vs.toArray, _, hk, rfl, rfl, rfl, by rw [List.size_toArray, hi.length]; exact hl, by simpa using rv⟩
  refine law_coreT KX gl bl boot lim gens tabs notK code main ha room F bind noX (startT K a vs ns cs) atT (fun b nb => ?_) (hsp _ atT list) (fun b u z => ?_) (fun b hb => ?_) fun z => ?_
  · by_cases hba : b = a
    · subst hba
      by_cases hk : K.lookup b = none
      · exact .inr ⟨_, _, by rw [atA, if_pos hk]⟩
      · exact .inl (by rw [atA, if_neg hk])
    · refine .inl ?_
      unfold startT
      rw [if_neg hba, if_neg fun ⟨p, hp, e⟩ => nb p hp e]
  · by_cases hba : b = a
    · subst hba
      rw [atA] at z
      by_cases hk : K.lookup b = none
      · rw [if_pos hk] at z
        cases z
        exact ⟨ha, by rw [List.length_map]; exact hl, vs, _, rv, ha⟩
      · rw [if_neg hk] at z
        cases z
    · unfold startT at z
      rw [if_neg hba] at z
      by_cases hp : ∃ p ∈ cs, b = p.2
      · rw [if_pos hp] at z
        cases z
        obtain ⟨p, h1, rfl⟩ := hp
        exact tabs p h1
      · rw [if_neg hp] at z
        cases z
  · by_cases hba : b = a
    · exact .inl hba
    · refine .inr (Classical.byContradiction fun hp => hb ?_)
      unfold startT
      rw [if_neg hba, if_neg hp]
  · refine Classical.byContradiction fun hk => z ?_
    rw [atA, if_neg hk]
end
/-- what is known of the law's promise at the head's heap -/
def LawT (l : PySem.W.OpenLaw) (w : World) (K : PySem.W.Frag) (CX : CXT) (k n : Nat) (x : Str) (mg : Str → Option Value) (fa : Addr) (h : Heap) : Prop :=
  ∃ (fd : FuncData) (cs : List (Addr × Addr)) (sp : Sp), (∀ p ∈ cs, h.get? p.2 = some emptyTab) ∧ (∀ p ∈ cs, K.lookup p.2 = none) ∧ (∀ p ∈ cs, PySem.W.CodeHd h p.1 p.2) ∧ (∀ (s : Shared) (u : Value), BindsTo s fd ⟨[u], []⟩ [(x, u)]) ∧
    (∀ (H : Hp) (a : Addr) (ns : List Int), ns.length ≤ n → (∀ p ∈ cs, H p.2 = some (.tbl #[])) → SqL K H a (ns.map V.int) → sp [.ref a] H (fun v _ => v = .bl true) fun _ _ _ => False) ∧
    ∀ base : Heap, K.In base → base.Ns mainGlobals mg → (∀ p ∈ cs, TabB base mg p.1 p.2) → FnG l.prog w K mg base CX k fa fd [x] sp
theorem walk_ofT {l : PySem.W.OpenLaw} {n k : Nat} {q : Program} {loose : List Str} {XP : (Str → Option Value) → Heap → Prop} {YP : World → Heap → Prop} {d : DefRec} {K : Params → PySem.W.Frag} {CX : World → CXT} {x : Str}
    (hn : l.most = some n) (hn2 : n ≤ sizeLine) (hdf : d.params.defaults = []) (hr : Room k callerA) (hY : ∀ (w : World) (h : Heap), YP w h → (K w.params).In h)
    (F : ∀ (w : World) (mg : Str → Option Value) (fa : Addr) (h : Heap), YP w h → (K w.params).In h → h.Ns mainGlobals mg → (∀ (d' : DefRec) (x : Str) (c P : Addr), (recsOf q).find? (fun e => e.name == x) = some d' → PySem.W.tabIn (K w.params) x = some (c, P) → PySem.W.CodeHd h c P ∧ h.get? P = some emptyTab) → mg d.name = some (.ref fa) → LawT l w (K w.params) (CX w) k n x mg fa h)
    (hCX : ∀ (w : World) (G : Hp) (s0 : Shared) (er : Value) (s1 : Shared), CX w [] G s0 (fun _ _ _ => False) er s1 → False) : PySem.W.WalkO q loose XP YP l.row.toRowW d [] (fun f vs => PySem.call f vs) := by
  refine Att.attach_call hn hdf ?_
  intro w s₀ s₁ mg mb fa _ _ _ _ a vs ns G Y _ _ _ hmg hobj hints hlen hg
  obtain ⟨fd, cs, sp, t1, t2, t3, hb, hsp, hF⟩ := F w mg fa _ Y (hY w _ Y) G.T.g (fun d' x c P h1 h2 => PySem.W.tab_of G.T (hY w _ Y) h1 h2) hmg
  exact law_callT (hY w _ Y) G.T.g G.T.b G.T.builtins G.T.nolimit hg t1 t2 t3 G.T.bmain hobj hints (Nat.le_trans hlen hn2) hr hF hb (fun H e s' => hCX w H s₁ e s') fun H hH hS => hsp H a ns hlen hH hS
end L2

/-! repr of lists whose elements have a __repr__ of their own. -/
namespace L2
open PySem PySem.Spec PyProof.Rows
theorem rl_depth {A : Around} {args : Args} : (A.under (.builtin "list.__repr__.loop" args)).depth ≤ A.depth + 1 := by
  first | exact Nat.le_of_eq rfl | simp [Around.under, Code.weight, Code.isCreation, Code.isGuard, Code.isCaller, Code.frames, Code.isFrame, guardIds]
theorem rl_units {A : Around} {args : Args} : (A.under (.builtin "list.__repr__.loop" args)).units ≤ A.units + 1 := by
  first | exact Nat.le_of_eq rfl | simp [Around.under, Code.cUnits, Code.frames, Code.isFrame]
theorem rl_frames {A : Around} {args : Args} : (A.under (.builtin "list.__repr__.loop" args)).frames = A.frames := by
  first | rfl | simp [Around.under, Code.envs, Code.isFrame, pushEnvs]
theorem rl_handled {A : Around} {args : Args} : (A.under (.builtin "list.__repr__.loop" args)).handled = A.handled := by
  first | rfl | simp [Around.under]
theorem Room.rl {k : Nat} {A : Around} (r : Room (k + 1) A) (args : Args) : Room k (A.under (.builtin "list.__repr__.loop" args)) :=
  ⟨by rw [rl_handled]; exact r.hd, by have := r.dp; have := @rl_depth A args; omega, by have := r.un; have := @rl_units A args; omega⟩
/-- v is shown as t, wherever there is room; J holds of the heap before and behind -/
def Sh (X : Cx) (k : Nat) (J : Hp → Prop) (v : V) (t : Str) : Prop :=
  ∀ (A' : Around) (pins : List (Addr × Obj)) (s : Shared) (σ : St) (H : Hp) (u : Value) (b : Nat) (E : Value → Shared → Prop) (Q : Str → Shared → Prop), A'.frames = some X.stack → Room k A' → Inv X pins σ H s → J H → RelV v u → b + t.length ≤ sizeLine →
    (∀ s' H', Inv X pins σ H' s' → J H' → Q t s') → wpAny (model X.prog X.w) A' (pyReprUnder b u) Q E s
theorem Sh.mono {X : Cx} {j k : Nat} {J : Hp → Prop} {v : V} {t : Str} (S : Sh X j J v t) (h : j ≤ k) : Sh X k J v t := fun A' pins s σ H u b E Q hf hr => S A' pins s σ H u b E Q hf (hr.mono h)
section
variable {X : Cx} {k : Nat} {J : Hp → Prop}
theorem sh_int {i : Int} (hi : i.natAbs.log2 < 1920) : Sh X k J (.int i) (toString i) := by
  intro A' pins s σ H u b E Q hf hr I j r hb q
  obtain ⟨t, rfl⟩ := r
  exact ReprIs.int t hi b hb A' E s Q fun tk => q _ H (I.tok tk) j
/-- an instance that has its own __repr__ -/
theorem sh_own {C g a : Addr} {sp : Sp} {t : Str} (hs : PySem.W.findIn X.K (.ref C) "__repr__" = some (some (.ref g))) (hf : PySem.W.isFn X.K (.ref g) = true) (F : FnR X.prog X.w X.K X.mg X.base CX0 k g sp)
    (hi : ∀ H, J H → ∃ dx fs, H a = some (.ins C dx fs)) (hsp : ∀ H, J H → sp [.ref a] H (fun r H' => r = .str t ∧ J H') E0) : Sh X k J (.ref a) t := by
  intro A' pins s σ H u b E Q hfr hr I j r hb q
  obtain rfl : u = Value.ref a := r
  obtain ⟨dx, fs, ha⟩ := hi H j
  obtain ⟨mA, M, _⟩ := ins_get I.hok ha
  obtain ⟨od, It, _⟩ := M.look
  refine wpAny_pyReprUnder_ref (by omega) ?_
  unfold pyReprObjUnder pyReprObjBy
  refine wpAny_bind (wpAny_cRoomFor hr.units0 ?_)
  refine wpAny_bind (wpAny_bind (It.type.here ((PySem.W.looks_findIn I.kIn hs).here ?_)))
  show wpAny _ _ (if (some (Value.ref g)).isNone = true then _ else _) _ _ _
  rw [if_neg (by simp)]
  have hcall : wpAny (model X.prog X.w) A' (call (.ref g) [.ref a]) (fun v s' => ∃ y tk, v = .str y tk ∧ Q y s') E s := by
    refine wpAny_call (codeAny_mono (F A' X.stack s H [.ref a] [.ref a] _ E0 hr ⟨hfr, I.env0.mod, I.env0.bs, I.env0.bsz, I.env0.funs, I.env0.frf, I.env0.hok, I.env0.bare⟩ (.cons rfl .nil) (hsp H j)) fun r s' hq => ?_)
    cases r with
    | error e => exact False.elim hq
    | ok fl =>
      cases fl with
      | ret u =>
        obtain ⟨v, H', I', rv, ev, j'⟩ := I.after hq
        subst ev
        obtain ⟨tk, rfl⟩ := rv
        exact ⟨t, tk, rfl, q _ _ I' j'⟩
      | next => exact False.elim hq
      | brk => exact False.elim hq
      | cont => exact False.elim hq
  refine wpAny_bind (m := callSpecialIfBoundBy? _ (.ref a) (Str.ofString "__repr__")) ?_
  simp only [callSpecialIfBoundBy?, bindSpecialIfBound?]
  refine wpAny_holding (wpAny_bind (wpAny_bind (wpAny_bind (It.type.here ((PySem.W.looks_findIn I.kIn hs).here ?_)))))
  refine wpAny_bind (wpAny_askSetting (wpAny_ite ?_))
  have fin : ∀ {Q' : Option Value → Shared → Prop}, (∀ y tk s', Q y s' → Q' (some (.str y tk)) s') → wpAny (model X.prog X.w) A' (call (.ref g) ([.ref a] ++ []) >>= fun v => pure (some v)) Q' E s := fun {Q'} hq => wpAny_bind (wpAny_mono hcall (fun v s' ⟨y, tk, e, h'⟩ => by subst e; exact wpAny_pure (hq y tk s' h')) fun _ _ h' => h')
  have fin2 : ∀ y tk s', Q y s' → wpAny (model X.prog X.w) A' (do if ← isInstance (.str y tk) (.type "str") then pure (Value.str y tk) else raiseError "TypeError" s!"__repr__ returned non-string (type {← typeNameOf (.str y tk)})") (fun v s' => ∃ x u, v = .str x u ∧ Q x s') E s' := fun y tk s' h => by
    refine wpAny_bind (wpAny_isInstance (T := "str") (b := true) rfl isSubtype_str_str ?_)
    exact wpAny_pure ⟨y, tk, rfl, h⟩
  split
  · exact wpAny_bind ((PySem.W.bind_fn I.kIn _ (beq_iff_eq.mp hf)).here (wpAny_pure (fin fin2)))
  · exact wpAny_tryCatch (wpAny_bind ((PySem.W.bind_fn I.kIn _ (beq_iff_eq.mp hf)).here (wpAny_pure (fin fin2))))
end
end L2

namespace L2
open PySem PySem.Spec PyProof.Rows
theorem in1_depth {A : Around} : A.in1.depth ≤ A.depth + 1 := by
  first | exact Nat.le_of_eq rfl | exact Nat.le_succ _ | simp [Around.in1]
theorem Room.in1' {k : Nat} {A : Around} (r : Room (k + 1) A) : Room k A.in1 :=
  ⟨r.hd, by have := r.dp; have := @in1_depth A; omega, by have := r.un; have e : A.in1.units = A.units + 1 := rfl; omega⟩
section
variable {X : Cx} {k : Nat} {J : Hp → Prop}
/-- repr(x), x an instance with its own __repr__ -/
theorem call_reprO {C g : Addr} {sp : Sp} {E : XK} (hs : PySem.W.findIn X.K (.ref C) "__repr__" = some (some (.ref g))) (hf : PySem.W.isFn X.K (.ref g) = true) (F : FnR X.prog X.w X.K X.mg X.base CX0 k g sp) (hr : Room (k + 1) X.A) :
    CallR X (.builtin "repr") (fun us H Q => ∃ a dx fs, us = [.ref a] ∧ H a = some (.ins C dx fs) ∧ sp [.ref a] H (fun v H' => ∃ t, v = .str t ∧ Q (.str t) H') E0) := by
  rintro pins s σ H _ us Q I r ⟨a, dx, fs, rfl, ha, q⟩
  rcases vals1 r with ⟨_, rfl, rfl⟩
  have M := (ins_get I.hok ha).choose_spec.1
  obtain ⟨od, It, _⟩ := M.look
  obtain ⟨m, hF⟩ := I.fr
  refine PySem.W.repr_K (by have := hr.un; show X.A.units + 1 < cLine; omega) hF I.ok.mod.kin It hs hf ?_
  have run := F X.A.in1 X.stack s H [.ref a] [.ref a] _ E0 hr.in1' I.env0.in1 (show Vals [V.ref a] [Value.ref a] from .cons rfl .nil) q
  refine wpAny_call (codeAny_mono run ?_)
  rintro (er | fl) s1 z
  · exact False.elim z
  · cases fl with
    | ret u =>
      obtain ⟨_, H1, J1, rv, t, rfl, w⟩ := I.after z
      obtain ⟨tk, rfl⟩ := rv
      exact ⟨.str t, H1, J1, ⟨tk, rfl⟩, w⟩
    | _ => exact False.elim z
end
end L2

/-! How values are shown, wherever a repr may be under way: B, the containers that must not be under way. -/
namespace L2
open PySem PySem.Spec PyProof.Rows
def Clr (g : List Code) (B : Addr → Prop) : Prop := ∀ c, B c → Clear g c
theorem Clr.nil (B : Addr → Prop) : Clr [] B := fun c _ => Clear.nil c
/-- v is shown as t: within a container, by !r, by repr(..); J holds of the heap before and behind -/
structure Sg (X : Cx) (k : Nat) (J : Hp → Prop) (B : Addr → Prop) (v : V) (t : Str) : Prop where
  under : ∀ (A' : Around) (g : List Code) (pins : List (Addr × Obj)) (s : Shared) (σ : St) (H : Hp) (u : Value) (b : Nat) (E : Value → Shared → Prop) (Q : Str → Shared → Prop), A'.frames = some X.stack → A'.guards = some g → Clr g B → Room k A' → Inv X pins σ H s → J H → RelV v u → b + t.length ≤ sizeLine →
    (∀ s' H', Inv X pins σ H' s' → J H' → Q t s') → wpAny (model X.prog X.w) A' (pyReprUnder b u) Q E s
  obj : ∀ (A' : Around) (g : List Code) (pins : List (Addr × Obj)) (s : Shared) (σ : St) (H : Hp) (u : Value) (E : Value → Shared → Prop) (Q : Value → Shared → Prop), A'.frames = some X.stack → A'.guards = some g → Clr g B → Room k A' → Inv X pins σ H s → J H → RelV v u → t.length ≤ sizeLine →
    (∀ s' H' tk, Inv X pins σ H' s' → J H' → Q (.str t tk) s') → wpAny (model X.prog X.w) A' (pyReprObj u) Q E s
  call : ∀ (A' : Around) (g : List Code) (pins : List (Addr × Obj)) (s : Shared) (σ : St) (H : Hp) (u : Value) (E : Value → Shared → Prop) (Q : Value → Shared → Prop), A'.frames = some X.stack → A'.guards = some g → Clr g B → Room (k + 1) A' → Inv X pins σ H s → J H → RelV v u → t.length ≤ sizeLine →
    (∀ s' H' tk, Inv X pins σ H' s' → J H' → Q (.str t tk) s') → wpAny (model X.prog X.w) A' (PySem.call (.builtin "repr") [u]) Q E s
theorem Sg.mono {X : Cx} {j k : Nat} {J : Hp → Prop} {B B' : Addr → Prop} {v : V} {t : Str} (S : Sg X j J B v t) (h : j ≤ k) (hB : ∀ b, B b → B' b) : Sg X k J B' v t :=
  ⟨fun A' g pins s σ H u b E Q hf hg hc hr => S.under A' g pins s σ H u b E Q hf hg (fun c hc' => hc c (hB c hc')) (hr.mono h), fun A' g pins s σ H u E Q hf hg hc hr => S.obj A' g pins s σ H u E Q hf hg (fun c hc' => hc c (hB c hc')) (hr.mono h),
   fun A' g pins s σ H u E Q hf hg hc hr => S.call A' g pins s σ H u E Q hf hg (fun c hc' => hc c (hB c hc')) (hr.mono (Nat.succ_le_succ h))⟩
section
variable {X : Cx} {k : Nat} {J : Hp → Prop} {B : Addr → Prop}
theorem sg_int {i : Int} (hi : i.natAbs.log2 < 1920) : Sg X k J B (.int i) (toString i) :=
  ⟨fun A' g pins s σ H u b E Q hf hg hc hr I j r hb q => by
    obtain ⟨t, rfl⟩ := r
    exact ReprIs.int t hi b hb A' E s Q fun tk => q _ H (I.tok tk) j,
  fun A' g pins s σ H u E Q hf hg hc hr I j r hb q => by
    obtain ⟨t, rfl⟩ := r
    exact pyReprObj_int hi (q _ H _ (I.tok _) j),
  fun A' g pins s σ H u E Q hf hg hc hr I j r hb q => by
    obtain ⟨t, rfl⟩ := r
    exact PySem.P.repr_of_int hi (q _ H _ (I.tok _) j)⟩
theorem sg_str {x : Str} (hx : (reprText x).length ≤ sizeLine) : Sg X k J B (.str x) (reprText x) :=
  ⟨fun A' g pins s σ H u b E Q hf hg hc hr I j r hb q => by
    obtain ⟨t, rfl⟩ := r
    exact ReprIs.str x t hx b hb A' E s Q fun tk => q _ H (I.tok tk) j,
  fun A' g pins s σ H u E Q hf hg hc hr I j r hb q => by
    obtain ⟨t, rfl⟩ := r
    exact pyReprObj_str (q _ H _ (I.tok _) j) hx,
  fun A' g pins s σ H u E Q hf hg hc hr I j r hb q => by
    obtain ⟨t, rfl⟩ := r
    exact PySem.P.repr_of_str (q _ H _ (I.tok _) j) hx⟩
theorem sg_bl {x : Bool} : Sg X k J B (.bl x) (if x then "True" else "False") :=
  ⟨fun A' g pins s σ H u b E Q hf hg hc hr I j r hb q => by
    obtain rfl : u = Value.bool x := r
    exact ReprIs.bool x b hb A' E s Q fun tk => q _ H (I.tok tk) j,
  fun A' g pins s σ H u E Q hf hg hc hr I j r hb q => by
    obtain rfl : u = Value.bool x := r
    exact pyReprObj_bool (q _ H _ (I.tok _) j),
  fun A' g pins s σ H u E Q hf hg hc hr I j r hb q => by
    obtain rfl : u = Value.bool x := r
    exact PySem.P.repr_of_bool (q _ H _ (I.tok _) j)⟩
theorem sg_non : Sg X k J B .non "None" :=
  ⟨fun A' g pins s σ H u b E Q hf hg hc hr I j r hb q => by
    obtain rfl : u = Value.none := r
    exact ReprIs.none b hb A' E s Q fun tk => q _ H (I.tok tk) j,
  fun A' g pins s σ H u E Q hf hg hc hr I j r hb q => by
    obtain rfl : u = Value.none := r
    exact pyReprObj_none (q _ H _ (I.tok _) j),
  fun A' g pins s σ H u E Q hf hg hc hr I j r hb q => by
    obtain rfl : u = Value.none := r
    exact PySem.P.repr_of_none (q _ H _ (I.tok _) j)⟩
/-- the empty list -/
theorem sg_nil {a : Addr} (hJ : ∀ H, J H → H a = some (.lst [])) : Sg X k J B (.ref a) "[]" :=
  ⟨fun A' g pins s σ H u b E Q hf hg hc hr I j r hb q => by
    obtain rfl : u = Value.ref a := r
    obtain ⟨_, its, nn, rv, ha⟩ := (show ObjOk X.prog X.w H s.heap a (.lst []) from I.hok a _ (hJ H j))
    cases rv
    exact wpAny_pyReprUnder_ref (by omega) (wpAny_pyReprObjUnder_list_empty ⟨_, ha, rfl⟩ hr.units0 ha rfl ⟨_, _, rfl, q _ H (I.tok _) j⟩),
  fun A' g pins s σ H u E Q hf hg hc hr I j r hb q => by
    obtain rfl : u = Value.ref a := r
    obtain ⟨_, its, nn, rv, ha⟩ := (show ObjOk X.prog X.w H s.heap a (.lst []) from I.hok a _ (hJ H j))
    cases rv
    exact wpAny_pyReprObj_list_empty ⟨_, ha, rfl⟩ hr.units0 ha rfl (q _ H _ (I.tok _) j),
  fun A' g pins s σ H u E Q hf hg hc hr I j r hb q => by
    obtain rfl : u = Value.ref a := r
    obtain ⟨_, its, nn, rv, ha⟩ := (show ObjOk X.prog X.w H s.heap a (.lst []) from I.hok a _ (hJ H j))
    cases rv
    exact call_repr_slot (by have := hr.un; omega) ⟨_, ha, rfl⟩ F.slot_list_repr.toG (call_list_repr_empty ⟨_, ha, rfl⟩ ha rfl ⟨_, _, rfl, q _ H _ (I.tok _) j⟩)⟩
end
end L2

namespace L2
open PySem PySem.Spec PyProof.Rows
abbrev lobj (acc : Array Value) (c : Nat) : Obj := { cls := .type "list", dict := none, data := .seq acc c, slots := #[] }
/-- a shown list bounds its length and its items' texts -/
theorem shown_in_line {xs : List V} {ts : List Str} (same : ts.length = xs.length) (fits : (listText ts).length ≤ sizeLine) : xs.length ≤ sizeLine ∧ ∀ t ∈ ts, t.length ≤ sizeLine := by
  obtain ⟨all, each, _⟩ := textFrom_len ts 0 "["
  have whole : (listText ts).length = (textFrom 0 "[" ts).length + 1 := strLen_append _ _
  have none_ : ¬ (0 : Nat) > 0 := by decide
  simp only [none_, if_false] at all
  exact ⟨by omega, fun t ht => Nat.le_trans (each t ht) (by omega)⟩
section
variable {X : Cx} {k : Nat} {J : Hp → Prop} {B : Addr → Prop}
theorem rg_run {A : Around} {g : List Code} {R : Result → Shared → Prop} {a P : Addr} {xs : List V} {ts : List Str} {b : Nat} {pins : List (Addr × Obj)} {σ : St} (hfr : A.frames = some X.stack) (hg : A.guards = some g) (hcl : Clr g B) (hna : ¬ B a) (hr : Room (k + 1) A) (hJ : ∀ H, J H → H a = some (.lst xs))
    (hlen : ts.length = xs.length) (hT : ∀ (i : Nat) (v : V), xs[i]? = some v → ∃ t, ts[i]? = some t ∧ Sg X k J B v t) (hsz : b + (listText ts).length ≤ sizeLine)
    (hP1 : X.s_0.heap.objs.size ≤ P) (hP2 : ∀ p ∈ X.pn ++ pins, p.1 ≠ P)
    (hR : ∀ s' H' u, Inv X pins σ H' s' → J H' → R (.ok (.ret (.str (listText ts) u))) s') :
    ∀ (n i : Nat) (s : Shared) (H : Hp) (acc : Array Value) (c : Nat) (done : List (Str × Tok)), xs.length - i = n → i ≤ xs.length → Inv X ((P, lobj acc c) :: pins) σ H s → J H → acc.toList = strValues done → done.map (·.1) = ts.take i →
    codeAny (model X.prog X.w) A (.builtin "list.__repr__.loop" ⟨[.ref a, rawInt i, .ref P, rawInt ((b + piled (ts.take i) : Nat) : Int)], []⟩) R s := by
  obtain ⟨hsz1, hsz2⟩ := shown_in_line hlen (Nat.le_trans (Nat.le_add_left _ _) hsz)
  have hsz3 : (listText ts).length ≤ sizeLine := by omega
  have hp3 := piled_le_listText ts
  have drop : ∀ {acc : Array Value} {c : Nat} {H : Hp} {s : Shared}, Inv X ((P, lobj acc c) :: pins) σ H s → Inv X pins σ H s := fun I => I.pins_of fun p hp => I.pin p (List.mem_append_right _ (List.mem_cons_of_mem _ hp))
  intro n
  induction n with
  | zero =>
    intro i s H acc c done hk hi I j hacc hdone
    have hin : i = xs.length := by omega
    obtain ⟨_, its, nn, rv, ha⟩ := (show ObjOk X.prog X.w H s.heap a (.lst xs) from I.hok a _ (hJ H j))
    have hlv := rv.length
    obtain ⟨hPo, hPn, hPl, hPf, _⟩ := I.pin (P, lobj acc c) (List.mem_append_right _ List.mem_cons_self)
    refine codeAny_builtin F.entry_list_repr_loop ?_
    show wpAny _ _ (Builtin.«list.__repr__.loop» ⟨[.ref a, .int i 0, .ref P, .int ((b + piled (ts.take i) : Nat) : Int) 0], []⟩) _ _ s
    rw [repr_loop_tree]
    refine wpAny_bind (wpAny_listItems ha rfl ?_)
    have over : its.toArray[(i : Int).toNat]? = none := by simp [hin, hlv]
    have whole : done.map (·.1) = ts := by simpa [hin, ← hlen] using hdone
    rw [over]
    dsimp only
    unfold reprEnd
    exact wpAny_bind (wpAny_listItems hPo rfl (by rw [hacc, repr_fold, whole]; exact wpAny_bind (wpAny_pure (wpAny_bind (wpAny_mkStr (wpAny_pure (hR _ H _ ((drop I).tok _) j)) hsz3)))))
  | succ n ih =>
    intro i s H acc c done hk hi I j hacc hdone
    have hlt : i < xs.length := by omega
    obtain ⟨_, its, nn, rv, ha⟩ := (show ObjOk X.prog X.w H s.heap a (.lst xs) from I.hok a _ (hJ H j))
    have hlv := rv.length
    obtain ⟨t, ht, hrep⟩ := hT i xs[i] (by simp [hlt])
    obtain ⟨u, hu, ru⟩ := rv.get (show xs[i]? = some xs[i] by simp [hlt])
    have grown := And.intro (piled_take_succ ht) (piled_take_le ts (i + 1))
    obtain ⟨hp1, hp2⟩ := grown
    have here : its.toArray[(i : Int).toNat]? = some u := by simpa using hu
    refine codeAny_builtin F.entry_list_repr_loop ?_
    change wpAny _ _ (Builtin.«list.__repr__.loop» ⟨[.ref a, .int i 0, .ref P, .int ((b + piled (ts.take i) : Nat) : Int) 0], []⟩) _ _ s
    rw [repr_loop_tree]
    refine wpAny_bind (wpAny_listItems ha rfl ?_)
    rw [here, Int.toNat_natCast]
    dsimp only
    refine wpAny_bind (wpAny_holding (hrep.under _ _ ((P, lobj acc c) :: pins) s σ H u (b + piled (ts.take i) + 1) _ _ (by rw [rl_frames]; exact hfr) (guards_under_guard (isGuard_list_loop _) hg) (fun c hc => (hcl c hc).cons (a := a) fun e => hna (e ▸ hc)) (hr.rl _) I j ru (by omega) fun s1 H1 I1 j1 => ?_))
    have short := hsz2 t (List.mem_of_getElem? ht)
    refine wpAny_bind (wpAny_mkStr (wpAny_bind ?_) short)
    change wpAny _ _ (updateSeq P _) _ _ _
    have hasz : acc.size ≤ sizeLine := by
      have gathered := congrArg List.length hacc
      have told := congrArg List.length hdone
      simp only [strValues, List.length_map, List.length_take, Array.length_toList] at gathered told
      omega
    obtain ⟨hPo, hPn, hPl, hPf, _⟩ := I1.pin (P, lobj acc c) (List.mem_append_right _ List.mem_cons_self)
    refine wpAny_updateSeq hPo rfl (wpAny_pure ⟨F.quiet_list_repr_loop _, ?_⟩) hasz
    rw [show ((i : Int) + 1) = ((i + 1 : Nat) : Int) by omega, show b + piled (ts.take i) + (t.length + 2) = b + piled (ts.take (i + 1)) by omega]
    obtain ⟨c', hself⟩ : ∃ c', (s1.heap.update P (Obj.mapSeq (·.push (.str t s1.toks)))).get? P = some (lobj (acc.push (.str t s1.toks)) c') := ⟨_, Heap.get?_update_self _ hPo rfl⟩
    refine ih (i + 1) _ H1 (acc.push (.str t s1.toks)) c' (done ++ [(t, s1.toks)]) (by omega) hlt ?_ j1 (by simp [hacc, strValues]) (by simp [List.take_add_one, ht, hdone])
    refine Inv.pins_of (pins := pins) ?_ fun p hp => ?_
    · refine ((drop I1).tok (s1.toks + 1)).turned (it := P) (t' := s1.toks + 1) (fun b o hb e => (Heap.get?_update_other _ _ (fun h : P = b => hb h.symm)).trans e) hPn hPl (.inr hP1) (fun x c' hc z => ?_) hP2
      obtain ⟨v, o, ho, hd⟩ := I1.cell x c' hc
      rw [z, hPo] at ho
      cases ho
      cases hd
    · rcases List.mem_cons.mp hp with rfl | hp
      · exact ⟨hself, hPn, hPl, hPf, fun v z => by cases z⟩
      · obtain ⟨q1, q2, q3, q4, q5⟩ := I1.pin p (List.mem_append_right _ (List.mem_cons_of_mem _ hp))
        exact ⟨(Heap.get?_update_other _ _ (fun h : P = p.1 => hP2 p (List.mem_append_right _ hp) h.symm)).trans q1, q2, q3, q4, q5⟩
/-- what listReprAt does -/
theorem rg_at {A : Around} {g : List Code} {R : Result → Shared → Prop} {a : Addr} {xs : List V} {ts : List Str} {b : Nat} {pins : List (Addr × Obj)} {σ : St} {s : Shared} {H : Hp} (hfr : A.frames = some X.stack) (hg : A.guards = some g) (hcl : Clr g fun c => c = a ∨ B c) (hna : ¬ B a) (hr : Room (k + 1) A) (I : Inv X pins σ H s) (j : J H) (hJ : ∀ H, J H → H a = some (.lst xs)) (hne : xs ≠ [])
    (hlen : ts.length = xs.length) (hT : ∀ (i : Nat) (v : V), xs[i]? = some v → ∃ t, ts[i]? = some t ∧ Sg X k J B v t) (hsz : b + (listText ts).length ≤ sizeLine)
    (hR : ∀ s' H' u, Inv X pins σ H' s' → J H' → R (.ok (.ret (.str (listText ts) u))) s') :
    wpAny (model X.prog X.w) A.in1 (Builtin.listReprAt b ⟨[.ref a], []⟩) (fun fin s' => match fin with | .done f => R (.ok f) s' | .again c' => c'.quiet = true ∧ codeAny (model X.prog X.w) A c' R s') (fun e s' => R (.error e) s') s := by
  obtain ⟨_, its, nn, rv, ha⟩ := (show ObjOk X.prog X.w H s.heap a (.lst xs) from I.hok a _ (hJ H j))
  cases its with
  | nil =>
    cases rv
    exact absurd rfl hne
  | cons x l =>
    have hca : Clear g a := hcl a (.inl rfl)
    refine wpAny_list_repr_head (A := A.in1) (g := g) hg (fun v rest kw hm => listSameRef_of_ne (hca _ _ _ _ hm)) ha rfl ?_
    refine wpAny_bind (m := newList []) (wpAny_newObj_type ?_)
    refine wpAny_pure ⟨F.quiet_list_repr_loop _, ?_⟩
    have kk : ∀ b o, s.heap.get? b = some o → (s.heap.push (lobj #[] 0)).get? b = some o := fun b o e => Heap.get?_push_of_some _ e
    have I1 : Inv X pins σ H { s with heap := s.heap.push (lobj #[] 0), toks := s.toks } := I.kept (t' := s.toks) kk
    have hget : (s.heap.push (lobj #[] 0)).get? s.heap.objs.size = some (lobj #[] 0) := Heap.get?_push_size _ rfl
    have nP : ∀ p ∈ X.pn ++ pins, p.1 ≠ s.heap.objs.size := fun p hp => Nat.ne_of_lt (Heap.lt_size (I.pin p hp).1)
    have I2 : Inv X ((s.heap.objs.size, lobj #[] 0) :: pins) σ H { s with heap := s.heap.push (lobj #[] 0), toks := s.toks } := I1.pins_of fun p hp => by
      rcases List.mem_cons.mp hp with rfl | hp
      · exact ⟨hget, I.hok.fresh (Nat.le_refl _), Nat.ne_of_gt I.lt, I.nofs (Nat.le_refl _), fun v z => by cases z⟩
      · exact I1.pin p (List.mem_append_right _ hp)
    exact rg_run (A := A) (R := R) (b := b) (σ := σ) (pins := pins) hfr hg (fun c hc => hcl c (.inr hc)) hna hr hJ hlen hT hsz I.sz nP hR xs.length 0 _ H #[] 0 [] (by omega) (Nat.zero_le _) I2 j rfl rfl
theorem rg_call {A : Around} {g : List Code} {E : Value → Shared → Prop} {Q : Value → Shared → Prop} {a : Addr} {xs : List V} {ts : List Str} {pins : List (Addr × Obj)} {σ : St} {s : Shared} {H : Hp} (hfr : A.frames = some X.stack) (hg : A.guards = some g) (hcl : Clr g fun c => c = a ∨ B c) (hna : ¬ B a) (hr : Room (k + 1) A) (I : Inv X pins σ H s) (j : J H) (hJ : ∀ H, J H → H a = some (.lst xs)) (hne : xs ≠ [])
    (hlen : ts.length = xs.length) (hT : ∀ (i : Nat) (v : V), xs[i]? = some v → ∃ t, ts[i]? = some t ∧ Sg X k J B v t) (hsz : (listText ts).length ≤ sizeLine)
    (hR : ∀ s' H' u, Inv X pins σ H' s' → J H' → Q (.str (listText ts) u) s') : wpAny (model X.prog X.w) A (call (.builtin "list.__repr__") [.ref a]) Q E s := by
  obtain ⟨_, its, nn, rv, ha⟩ := (show ObjOk X.prog X.w H s.heap a (.lst xs) from I.hok a _ (hJ H j))
  exact wpAny_call (codeAny_call_builtin F.slot_list_repr.plain F.entry_list_repr (F.slot_list_repr.check _ _ _ _ _ _ _ _ ⟨_, ha, rfl⟩ (F.args_list_repr_1 _)
    (rg_at (R := callEnd Q E) (b := 0) hfr hg hcl hna hr I j hJ hne hlen hT (by omega) hR)))
/-- a list -/
theorem sg_list {a : Addr} {xs : List V} {ts : List Str} (hJ : ∀ H, J H → H a = some (.lst xs)) (hne : xs ≠ []) (hna : ¬ B a) (hlen : ts.length = xs.length) (hT : ∀ (i : Nat) (v : V), xs[i]? = some v → ∃ t, ts[i]? = some t ∧ Sg X k J B v t) :
    Sg X (k + 1) J (fun c => c = a ∨ B c) (.ref a) (listText ts) :=
  ⟨fun A' g pins s σ H u b E Q hf hg hc hr I j r hb q => by
    obtain rfl : u = Value.ref a := r
    obtain ⟨_, its, nn, rv, ha⟩ := (show ObjOk X.prog X.w H s.heap a (.lst xs) from I.hok a _ (hJ H j))
    refine wpAny_pyReprUnder_ref (by omega) (wpAny_pyReprObjUnder_twin (twin := "list.__repr__.under") ⟨_, ha, rfl⟩ F.slot_list_repr.toG rfl hr.units0 ?_)
    exact call_twin_plain F.plain_list_repr_under F.entry_list_repr_under F.check_list_repr_under ⟨_, ha, rfl⟩ F.slot_list_repr.toG (F.args_list_repr_1 _)
      (rg_at (R := callEnd _ E) (b := b) hf hg hc hna hr I j hJ hne hlen hT hb fun s' H' u I' j' => ⟨⟨_, _, rfl⟩, _, _, rfl, q s' H' I' j'⟩),
  fun A' g pins s σ H u E Q hf hg hc hr I j r hb q => by
    obtain rfl : u = Value.ref a := r
    obtain ⟨_, its, nn, rv, ha⟩ := (show ObjOk X.prog X.w H s.heap a (.lst xs) from I.hok a _ (hJ H j))
    have hTy : s.TypeIs (.ref a) "list" := ⟨_, ha, rfl⟩
    unfold pyReprObj
    refine wpAny_bind (wpAny_cRoomFor hr.units0 ?_)
    refine wpAny_bind (wpAny_specialOf (name := Str.ofString "__repr__") hTy F.slot_list_repr.lookup ?_)
    refine wpAny_bind (m := callSpecialIfBound? (.ref a) (Str.ofString "__repr__")) (wpAny_callSpecialIfBound?_slot (name := Str.ofString "__repr__") hTy F.slot_list_repr ?_)
    refine rg_call hf hg hc hna hr I j hJ hne hlen hT hb fun s' H' u I' j' => ?_
    exact wpAny_bind (wpAny_isInstance (T := "str") (b := true) rfl isSubtype_str_str (wpAny_pure (q s' H' u I' j'))),
  fun A' g pins s σ H u E Q hf hg hc hr I j r hb q => by
    obtain rfl : u = Value.ref a := r
    obtain ⟨_, its, nn, rv, ha⟩ := (show ObjOk X.prog X.w H s.heap a (.lst xs) from I.hok a _ (hJ H j))
    refine call_repr_slot (by have := hr.un; omega) ⟨_, ha, rfl⟩ F.slot_list_repr.toG ?_
    exact rg_call (A := A'.in1) hf hg hc hna hr.in1' I j hJ hne hlen hT hb fun s' H' u I' j' => ⟨_, _, rfl, q s' H' u I' j'⟩⟩
end
end L2

namespace L2
open PySem PySem.Spec PyProof.Rows PySem.Builtin
inductive SgAll (X : Cx) (k : Nat) (J : Hp → Prop) (B : Addr → Prop) : List V → List Str → Prop
  | nil : SgAll X k J B [] []
  | cons {v : V} {t : Str} {vs : List V} {ts : List Str} : Sg X k J B v t → SgAll X k J B vs ts → SgAll X k J B (v :: vs) (t :: ts)
theorem SgAll.length {X : Cx} {k : Nat} {J : Hp → Prop} {B : Addr → Prop} : ∀ {vs : List V} {ts : List Str}, SgAll X k J B vs ts → ts.length = vs.length
  | _, _, .nil => rfl
  | _, _, .cons _ h => by simp [h.length]
theorem SgAll.at_ {X : Cx} {k : Nat} {J : Hp → Prop} {B : Addr → Prop} : ∀ {vs : List V} {ts : List Str}, SgAll X k J B vs ts → ∀ (i : Nat) (v : V), vs[i]? = some v → ∃ t, ts[i]? = some t ∧ Sg X k J B v t
  | _, _, .nil, i, v, h => by simp at h
  | _, _, .cons h r, 0, v, e => by
    obtain rfl := Option.some.inj e
    exact ⟨_, rfl, h⟩
  | _, _, .cons h r, i + 1, v, e => r.at_ i v (by simpa using e)
theorem SgAll.mono {X : Cx} {j k : Nat} {J : Hp → Prop} {B B' : Addr → Prop} (h : j ≤ k) (hB : ∀ b, B b → B' b) : ∀ {vs : List V} {ts : List Str}, SgAll X j J B vs ts → SgAll X k J B' vs ts
  | _, _, .nil => .nil
  | _, _, .cons a r => .cons (a.mono h hB) (r.mono h hB)
theorem tr_depth {A : Around} {args : Args} : (A.under (.builtin "tuple.__repr__" args)).depth ≤ A.depth + 1 := by
  first | exact Nat.le_of_eq rfl | simp [Around.under, Code.weight, Code.isCreation, Code.isGuard, Code.isCaller, Code.frames, Code.isFrame, guardIds]
theorem tr_frames {A : Around} {args : Args} : (A.under (.builtin "tuple.__repr__" args)).frames = A.frames := by
  first | rfl | simp [Around.under, Code.envs, Code.isFrame, pushEnvs]
theorem tr_handled {A : Around} {args : Args} : (A.under (.builtin "tuple.__repr__" args)).handled = A.handled := by
  first | rfl | simp [Around.under]
theorem tu_depth {A : Around} {args : Args} : (A.under (.builtin "tuple.__repr__.under" args)).depth ≤ A.depth + 1 := by
  first | exact Nat.le_of_eq rfl | simp [Around.under, Code.weight, Code.isCreation, Code.isGuard, Code.isCaller, Code.frames, Code.isFrame, guardIds]
theorem tu_frames {A : Around} {args : Args} : (A.under (.builtin "tuple.__repr__.under" args)).frames = A.frames := by
  first | rfl | simp [Around.under, Code.envs, Code.isFrame, pushEnvs]
theorem tu_handled {A : Around} {args : Args} : (A.under (.builtin "tuple.__repr__.under" args)).handled = A.handled := by
  first | rfl | simp [Around.under]
theorem Room.tr {k : Nat} {A : Around} (r : Room (k + 1) A) (args : Args) : Room k (A.under (.builtin "tuple.__repr__" args)) :=
  ⟨by rw [tr_handled]; exact r.hd, by have := r.dp; have := @tr_depth A args; omega, by have := r.un; have := units_under_tuple_repr A args; omega⟩
theorem Room.tu {k : Nat} {A : Around} (r : Room (k + 1) A) (args : Args) : Room k (A.under (.builtin "tuple.__repr__.under" args)) :=
  ⟨by rw [tu_handled]; exact r.hd, by have := r.dp; have := @tu_depth A args; omega, by have := r.un; have := units_under_tuple_repr_under A args; omega⟩
section
variable {X : Cx} {k : Nat} {J : Hp → Prop} {B : Addr → Prop}
theorem tg_fold {A : Around} {g : List Code} {E : Value → Shared → Prop} {pins : List (Addr × Obj)} {σ : St} (hfr : A.frames = some X.stack) (hg : A.guards = some g) (hcl : Clr g B) (hr : Room k A) :
    ∀ (vs : List V) (us : List Value) (ts : List Str) (acc : Array Str) (n : Nat) (s : Shared) (H : Hp) (Q : (Array Str × Nat) → Shared → Prop), Vals vs us → SgAll X k J B vs ts → n + piled ts ≤ sizeLine → Inv X pins σ H s → J H →
    (∀ s' H', Inv X pins σ H' s' → J H' → Q ⟨acc ++ ts.toArray, n + piled ts⟩ s') → wpAny (model X.prog X.w) A (forIn us (⟨acc, n⟩ : (Array Str × Nat)) tupBody) Q E s := by
  intro vs
  induction vs with
  | nil =>
    intro us ts acc n s H Q rv hT _ I j h
    cases rv
    cases hT
    have h0 := h s H I j
    simp only [List.forIn_nil]
    exact wpAny_pure (by simpa [piled] using h0)
  | cons x l ih =>
    intro us ts acc n s H Q rv hT hn I j h
    cases rv with
    | cons r rr =>
      cases hT with
      | cons hx hl =>
        rename_i t ts'
        rw [piled_cons] at hn
        rw [List.forIn_cons]
        refine wpAny_bind (wpAny_bind (hx.under _ _ pins s σ H _ (n + 1) _ _ hfr hg hcl hr I j r (by omega) fun s1 H1 I1 j1 => wpAny_pure ?_))
        refine ih _ ts' (acc.push t) (n + (t.length + 2)) _ H1 Q rr hl (by omega) I1 j1 fun s2 H2 I2 j2 => ?_
        have h1 := h s2 H2 I2 j2
        have e : n + piled (t :: ts') = n + (t.length + 2) + piled ts' := by rw [piled_cons]; omega
        rw [e] at h1
        simpa using h1
theorem tg_at {A : Around} {g : List Code} {R : Result → Shared → Prop} {a : Addr} {xs : List V} {ts : List Str} {b : Nat} {pins : List (Addr × Obj)} {σ : St} {s : Shared} {H : Hp} {id : String} {rest : List Value}
    (hcg : (Code.builtin id ⟨.ref a :: rest, []⟩).isGuard = true) (hru : Room k (A.under (.builtin id ⟨.ref a :: rest, []⟩))) (hfu : (A.under (.builtin id ⟨.ref a :: rest, []⟩)).frames = some X.stack) (hg : A.guards = some g) (hcl : Clr g fun c => c = a ∨ B c) (hna : ¬ B a) (I : Inv X pins σ H s) (j : J H) (hJ : ∀ H, J H → H a = some (.tup xs))
    (hT : SgAll X k J B xs ts) (hsz : b + (tupleText ts).length ≤ sizeLine) (hR : ∀ s' H' u, Inv X pins σ H' s' → J H' → R (.ok (.ret (.str (tupleText ts) u))) s') :
    wpOwn (model X.prog X.w) A (.builtin id ⟨.ref a :: rest, []⟩) (Builtin.tupleReprAt b ⟨[.ref a], []⟩) (fun fin s' => match fin with | .done f => R (.ok f) s' | .again c' => c'.quiet = true ∧ codeAny (model X.prog X.w) A c' R s') (fun e s' => R (.error e) s') s := by
  obtain ⟨_, its, rv, ob, ha, hc, hd⟩ := (show ObjOk X.prog X.w H s.heap a (.tup xs) from I.hok a _ (hJ H j))
  obtain ⟨n, hd⟩ := hd
  have hca : Clear g a := hcl a (.inl rfl)
  have hlen : ts.length = its.toArray.size := by rw [hT.length, rv.length]; simp
  have hp := piled_le_tupleText ts
  have hsz0 := Nat.le_trans (Nat.le_add_left (tupleText ts).length b) hsz
  rw [tuple_repr_tree, tupleReprUnderWay_eq]
  refine wpOwn_bind (wpOwn_stackTailAny hg (tupGuardF_off _) (tupGuardF_pos _) ?_)
  have away : (g.any fun c => tupGuardF (.ref a) (c, default)) = false := List.any_eq_false.mpr fun c hcm => by simp [tupGuardF_of_clear hca c hcm]
  rw [away]
  refine wpOwn_of_wpAny ?_
  show wpAny _ _ (tupleReprRest b (.ref a)) _ _ s
  unfold tupleReprRest Builtin.Tuple.tupleItemsOf
  refine wpAny_bind (wpAny_bind (wpAny_seqItems ha hd (wpAny_pure ?_)))
  rw [← Array.forIn_toList]
  refine wpAny_bind (tg_fold (pins := pins) (σ := σ) hfu (guards_under_guard hcg hg) (fun c hc => (hcl c (.inr hc)).cons (a := a) fun e => hna (e ▸ hc)) hru xs _ ts _ _ _ H _ rv hT (by omega) I j fun s1 H1 I1 j1 => ?_)
  refine wpAny_bind (wpAny_mkStr (wpAny_pure ?_) (by simpa [tupleText, hlen] using hsz0))
  have h1 := hR { s1 with toks := s1.toks + 1 } H1 s1.toks (I1.tok _) j1
  simpa [tupleText, hlen] using h1
end
end L2

namespace L2
open PySem PySem.Spec PyProof.Rows PySem.Builtin
section
variable {X : Cx} {k : Nat} {J : Hp → Prop} {B : Addr → Prop}
/-- a tuple -/
theorem sg_tup {a : Addr} {xs : List V} {ts : List Str} (hJ : ∀ H, J H → H a = some (.tup xs)) (hna : ¬ B a) (hT : SgAll X k J B xs ts) : Sg X (k + 1) J (fun c => c = a ∨ B c) (.ref a) (tupleText ts) :=
  ⟨fun A' g pins s σ H u b E Q hf hg hc hr I j r hb q => by
    obtain rfl : u = Value.ref a := r
    obtain ⟨_, its, rv, ob, ha, hcl, hd⟩ := (show ObjOk X.prog X.w H s.heap a (.tup xs) from I.hok a _ (hJ H j))
    refine wpAny_pyReprUnder_ref (by omega) (wpAny_pyReprObjUnder_twin (twin := "tuple.__repr__.under") ⟨_, ha, hcl⟩ F.slot_tuple_repr rfl hr.units0 ?_)
    exact call_twin_own (F.quiet_tuple_repr_under _) F.entry_tuple_repr_under F.check_tuple_repr_under ⟨_, ha, hcl⟩ F.slot_tuple_repr (F.args_tuple_repr_1 _)
      (tg_at (R := callEnd _ E) (b := b) (isGuard_tuple_repr_under _) (hr.tu _) (by rw [tu_frames]; exact hf) hg hc hna I j hJ hT hb fun s' H' u I' j' => ⟨⟨_, _, rfl⟩, _, _, rfl, q s' H' I' j'⟩),
  fun A' g pins s σ H u E Q hf hg hc hr I j r hb q => by
    obtain rfl : u = Value.ref a := r
    obtain ⟨_, its, rv, ob, ha, hcl, hd⟩ := (show ObjOk X.prog X.w H s.heap a (.tup xs) from I.hok a _ (hJ H j))
    have hTy : s.TypeIs (.ref a) "tuple" := ⟨_, ha, hcl⟩
    unfold pyReprObj
    refine wpAny_bind (wpAny_cRoomFor hr.units0 ?_)
    refine wpAny_bind (wpAny_specialOf (name := Str.ofString "__repr__") hTy F.slot_tuple_repr.lookup ?_)
    refine wpAny_bind (m := callSpecialIfBound? (.ref a) (Str.ofString "__repr__")) (wpAny_callSpecialIfBound?_slotG (name := Str.ofString "__repr__") hTy F.slot_tuple_repr ?_)
    refine wpAny_call (codeAny_call_builtin_own (Code.quiet_builtin _ (by decide +kernel)) F.entry_tuple_repr (F.slot_tuple_repr.check _ _ _ _ _ _ _ _ hTy (F.args_tuple_repr_1 _)
      (tg_at (R := callEnd _ E) (b := 0) (isGuard_tuple_repr _) (hr.tr _) (by rw [tr_frames]; exact hf) hg hc hna I j hJ hT (by omega) fun s' H' u I' j' => ?_)))
    exact wpAny_bind (wpAny_isInstance (T := "str") (b := true) rfl isSubtype_str_str (wpAny_pure (q s' H' u I' j'))),
  fun A' g pins s σ H u E Q hf hg hc hr I j r hb q => by
    obtain rfl : u = Value.ref a := r
    obtain ⟨_, its, rv, ob, ha, hcl, hd⟩ := (show ObjOk X.prog X.w H s.heap a (.tup xs) from I.hok a _ (hJ H j))
    have hTy : s.TypeIs (.ref a) "tuple" := ⟨_, ha, hcl⟩
    refine call_repr_slot (by have := hr.un; omega) hTy F.slot_tuple_repr ?_
    exact wpAny_call (codeAny_call_builtin_own (Code.quiet_builtin _ (by decide +kernel)) F.entry_tuple_repr (F.slot_tuple_repr.check _ _ _ _ _ _ _ _ hTy (F.args_tuple_repr_1 _)
      (tg_at (A := A'.in1) (R := callEnd _ E) (b := 0) (isGuard_tuple_repr _) (hr.in1'.tr _) (by rw [tr_frames]; exact hf) hg hc hna I j hJ hT (by omega) fun s' H' u I' j' => ⟨_, _, rfl, q s' H' u I' j'⟩)))⟩
/-- the empty dict -/
theorem sg_d0 {a : Addr} (hJ : ∀ H, J H → H a = some (.dK [])) (hB : B a) : Sg X (k + 1) J B (.ref a) (dictText []) :=
  ⟨fun A' g pins s σ H u b E Q hf hg hc hr I j r hb q => by
    obtain rfl : u = Value.ref a := r
    obtain ⟨_, hS, vs, rv, ob, es, ep, ha, hx, hd, hk, hp, hnd⟩ := (show ObjOk X.prog X.w H s.heap a (.dK []) from I.hok a _ (hJ H j))
    cases rv
    have he : es.toList = [] := by cases hes : es.toList with | nil => rfl | cons a b => rw [hes] at hp; cases hp
    refine (ReprK.dict (as := []) (h₀ := s.heap) (d := 0) ha hx.1 hd hS (by simp) (by rw [he]; exact .nil)) b hb A' g E s Q hg (fun c hc' => hc c (by rw [List.mem_singleton.mp hc']; exact hB)) (by have := hr.un; omega) (fun _ _ e => e) fun h' tk hkp => ?_
    exact q _ H (I.kept hkp) j,
  fun A' g pins s σ H u E Q hf hg hc hr I j r hb q => by
    obtain rfl : u = Value.ref a := r
    obtain ⟨_, hS, vs, rv, ob, es, ep, ha, hx, hd, hk, hp, hnd⟩ := (show ObjOk X.prog X.w H s.heap a (.dK []) from I.hok a _ (hJ H j))
    cases rv
    have he : es.toList = [] := by cases hes : es.toList with | nil => rfl | cons a b => rw [hes] at hp; cases hp
    refine wpAny_pyReprObj_dictK (as := []) (h₀ := s.heap) (d := 0) ha hx.1 hd hS (by simp) (by rw [he]; exact .nil) hg (fun c hc' => hc c (by rw [List.mem_singleton.mp hc']; exact hB)) (by have := hr.un; omega) (fun _ _ e => e) (fun h' u tk hkp => ?_) hb
    exact q _ H _ (I.kept hkp) j,
  fun A' g pins s σ H u E Q hf hg hc hr I j r hb q => by
    obtain rfl : u = Value.ref a := r
    obtain ⟨_, hS, vs, rv, ob, es, ep, ha, hx, hd, hk, hp, hnd⟩ := (show ObjOk X.prog X.w H s.heap a (.dK []) from I.hok a _ (hJ H j))
    cases rv
    have he : es.toList = [] := by cases hes : es.toList with | nil => rfl | cons a b => rw [hes] at hp; cases hp
    refine call_repr_slot (by have := hr.un; omega) ⟨_, ha, hx.1⟩ F.slot_dict_repr ?_
    refine call_dict_reprK (A := A'.in1) (as := []) (h₀ := s.heap) (d := 0) ha hx.1 hd hS (by simp) (by rw [he]; exact .nil) hg (fun c hc' => hc c (by rw [List.mem_singleton.mp hc']; exact hB)) (by have := hr.un; show A'.units + 1 + 1 < cLine; omega) (fun _ _ e => e) (fun h' u tk hkp => ?_) hb
    exact ⟨_, _, rfl, q _ H _ (I.kept hkp) j⟩⟩
/-- repr(v) -/
theorem call_sg (gd : X.A.guards = some []) (hr : Room (k + 1) X.A) : CallR X (.builtin "repr") (fun us H Q => ∃ (v : V) (t : Str) (J : Hp → Prop) (B : Addr → Prop), us = [v] ∧ J H ∧ Sg X k J B v t ∧ t.length ≤ sizeLine ∧ ∀ H', J H' → Q (.str t) H') := by
  intro pins s σ H xs us Q I r h
  obtain ⟨v, t, J, B, rfl, j, S, hz, q⟩ := h
  obtain ⟨u, rfl, ru⟩ := vals1 r
  exact S.call X.A [] pins s σ H u _ _ I.ok.frames gd (Clr.nil _) hr I j ru hz fun s' H' tk I' j' => ⟨.str t, H', I', ⟨tk, rfl⟩, q H' j'⟩
/-- {e!r} -/
def tFmtG (X : Cx) (k : Nat) (te : TE) : TE := fun σ H Q => te σ H fun v H1 => ∃ (t : Str) (J : Hp → Prop) (B : Addr → Prop), J H1 ∧ Sg X k J B v t ∧ t.length ≤ sizeLine ∧ ∀ H', J H' → Q (.str t) H'
theorem pe_fmtG {e : Expr} {te : TE} {pos : Pos} (gd : X.A.guards = some []) (hr : Room k X.A) (he : PE X e te) : PE X (.FormattedValue e 114 none pos) (tFmtG X k te) := by
  refine ⟨fun pins s σ H Q I h => ?_⟩
  refine wpAny_FormattedValue_repr (thn (he.run pins s σ H _ I h) fun u s1 ⟨v, H1, I1, rv, t, J, B, j, S, hz, q⟩ => ?_)
  refine S.obj X.A [] pins s1 σ H1 u _ _ I.ok.frames gd (Clr.nil _) hr I1 j rv hz fun s' H' tk I' j' => ?_
  exact wpAny_formatField_str ⟨.str t, H', I'.tok _, ⟨_, rfl⟩, q H' j'⟩ ⟨.str t, H', I'.tok _, ⟨_, rfl⟩, q H' j'⟩ hz
end
end L2

namespace L2
open PySem PySem.Spec PyProof.Rows
section
variable {X : Cx} {k : Nat} {J : Hp → Prop} {B : Addr → Prop}
theorem obj_own {C g a : Addr} {sp : Sp} {t : Str} (hs : PySem.W.findIn X.K (.ref C) "__repr__" = some (some (.ref g))) (hf : PySem.W.isFn X.K (.ref g) = true) (F : FnR X.prog X.w X.K X.mg X.base CX0 k g sp)
    (hi : ∀ H, J H → ∃ dx fs, H a = some (.ins C dx fs)) (hsp : ∀ H, J H → sp [.ref a] H (fun r H' => r = .str t ∧ J H') E0) :
    ∀ (A' : Around) (g : List Code) (pins : List (Addr × Obj)) (s : Shared) (σ : St) (H : Hp) (u : Value) (E : Value → Shared → Prop) (Q : Value → Shared → Prop), A'.frames = some X.stack → A'.guards = some g → Clr g B → Room k A' → Inv X pins σ H s → J H → RelV (.ref a) u → t.length ≤ sizeLine →
    (∀ s' H' tk, Inv X pins σ H' s' → J H' → Q (.str t tk) s') → wpAny (model X.prog X.w) A' (pyReprObj u) Q E s := by
  intro A' g' pins s σ H u E Q hfr _ _ hr I j r hb q
  obtain rfl : u = Value.ref a := r
  obtain ⟨dx, fs, ha⟩ := hi H j
  obtain ⟨mA, M, _⟩ := ins_get I.hok ha
  obtain ⟨od, It, _⟩ := M.look
  rw [pyReprObj_eq_pyReprObjBy]
  unfold pyReprObjBy
  refine wpAny_bind (wpAny_cRoomFor hr.units0 ?_)
  refine wpAny_bind (wpAny_bind (It.type.here ((PySem.W.looks_findIn I.kIn hs).here ?_)))
  show wpAny _ _ (if (some (Value.ref g)).isNone = true then _ else _) _ _ _
  rw [if_neg (by simp)]
  have hcall : wpAny (model X.prog X.w) A' (call (.ref g) [.ref a]) (fun v s' => ∃ y tk, v = .str y tk ∧ Q (.str y tk) s') E s := by
    refine wpAny_call (codeAny_mono (F A' X.stack s H [.ref a] [.ref a] _ E0 hr ⟨hfr, I.env0.mod, I.env0.bs, I.env0.bsz, I.env0.funs, I.env0.frf, I.env0.hok, I.env0.bare⟩ (.cons rfl .nil) (hsp H j)) fun r s' hq => ?_)
    cases r with
    | error e => exact False.elim hq
    | ok fl =>
      cases fl with
      | ret u =>
        obtain ⟨v, H', I', rv, ev, j'⟩ := I.after hq
        subst ev
        obtain ⟨tk, rfl⟩ := rv
        exact ⟨t, tk, rfl, q _ _ tk I' j'⟩
      | next => exact False.elim hq
      | brk => exact False.elim hq
      | cont => exact False.elim hq
  refine wpAny_bind (m := callSpecialIfBoundBy? _ (.ref a) (Str.ofString "__repr__")) ?_
  simp only [callSpecialIfBoundBy?, bindSpecialIfBound?]
  refine wpAny_holding (wpAny_bind (wpAny_bind (wpAny_bind (It.type.here ((PySem.W.looks_findIn I.kIn hs).here ?_)))))
  refine wpAny_bind (wpAny_askSetting (wpAny_ite ?_))
  have fin : ∀ {Q' : Option Value → Shared → Prop}, (∀ y tk s', Q (.str y tk) s' → Q' (some (.str y tk)) s') → wpAny (model X.prog X.w) A' (call (.ref g) ([.ref a] ++ []) >>= fun v => pure (some v)) Q' E s := fun {Q'} hq => wpAny_bind (wpAny_mono hcall (fun v s' ⟨y, tk, e, h'⟩ => by subst e; exact wpAny_pure (hq y tk s' h')) fun _ _ h' => h')
  have fin2 : ∀ y tk s', Q (.str y tk) s' → wpAny (model X.prog X.w) A' (do if ← isInstance (.str y tk) (.type "str") then pure (Value.str y tk) else raiseError "TypeError" s!"__repr__ returned non-string (type {← typeNameOf (.str y tk)})") Q E s' := fun y tk s' h => by
    refine wpAny_bind (wpAny_isInstance (T := "str") (b := true) rfl isSubtype_str_str ?_)
    exact wpAny_pure h
  split
  · exact wpAny_bind ((PySem.W.bind_fn I.kIn _ (beq_iff_eq.mp hf)).here (wpAny_pure (fin fin2)))
  · exact wpAny_tryCatch (wpAny_bind ((PySem.W.bind_fn I.kIn _ (beq_iff_eq.mp hf)).here (wpAny_pure (fin fin2))))
/-- an instance that has its own __repr__ -/
theorem sg_own {C g a : Addr} {sp : Sp} {t : Str} (hs : PySem.W.findIn X.K (.ref C) "__repr__" = some (some (.ref g))) (hf : PySem.W.isFn X.K (.ref g) = true) (F : FnR X.prog X.w X.K X.mg X.base CX0 k g sp)
    (hi : ∀ H, J H → ∃ dx fs, H a = some (.ins C dx fs)) (hsp : ∀ H, J H → sp [.ref a] H (fun r H' => r = .str t ∧ J H') E0) : Sg X k J B (.ref a) t :=
  ⟨fun A' g' pins s σ H u b E Q hfr _ _ hr I j r hb q => sh_own hs hf F hi hsp A' pins s σ H u b E Q hfr hr I j r hb q, obj_own hs hf F hi hsp,
  fun A' g' pins s σ H u E Q hfr _ _ hr I j r hb q => by
    obtain rfl : u = Value.ref a := r
    obtain ⟨dx, fs, ha⟩ := hi H j
    obtain ⟨mA, M, _⟩ := ins_get I.hok ha
    obtain ⟨od, It, _⟩ := M.look
    obtain ⟨m, hF⟩ := I.fr
    refine PySem.W.repr_K (by have := hr.un; show A'.units + 1 < cLine; omega) hF I.ok.mod.kin It hs hf ?_
    refine wpAny_call (codeAny_mono (F A'.in1 X.stack s H [.ref a] [.ref a] _ E0 hr.in1' ⟨hfr, I.env0.mod, I.env0.bs, I.env0.bsz, I.env0.funs, I.env0.frf, I.env0.hok, I.env0.bare⟩ (.cons rfl .nil) (hsp H j)) fun r s' hq => ?_)
    cases r with
    | error e => exact False.elim hq
    | ok fl =>
      cases fl with
      | ret u =>
        obtain ⟨v, H', I', rv, ev, j'⟩ := I.after hq
        subst ev
        obtain ⟨tk, rfl⟩ := rv
        exact q _ _ tk I' j'
      | next => exact False.elim hq
      | brk => exact False.elim hq
      | cont => exact False.elim hq⟩
end
end L2

namespace L2
open PySem PySem.Spec PyProof.Rows
/-- isinstance(e, c), e the exception that the suite holds, with attributes or without -/
theorem call_isEF {X : Cx} {a D : Addr} {oe : Obj} {d : Option Addr} {pn : List (Addr × Obj)} (C : ExcC X.K D) (hz : Zc (.ref D) d oe) (hf : ∃ vs, oe.data = .fields vs) :
    CallR (X.suite a ((a, oe) :: pn)) (.builtin "isinstance") (fun xs H Q => (d = none ∨ ∃ dd fs, d = some dd ∧ H dd = some (.xd fs)) ∧ rIsE X.K D a xs H Q) := by
  intro pins s σ H xs us Q I r h
  obtain ⟨hdd, c, cv, b, rfl, hcv, e, q⟩ := h
  cases r with
  | cons rx rr =>
    cases rr with
    | cons rt rr =>
      cases rr
      cases rx
      have ec := hcv _ rt
      subst ec
      obtain ⟨hget, _⟩ := I.pin (a, oe) (List.mem_append.mpr (.inl List.mem_cons_self))
      obtain ⟨vs, hv⟩ := hf
      have J : ∃ od, PySem.W.InstAt s.heap a oe D od := by
        obtain ⟨oc, od, oda, osl⟩ := oe
        obtain ⟨h1, h2⟩ := hz
        dsimp only at h1 h2 hv
        subst h1 h2 hv
        rcases hdd with rfl | ⟨dd, fs, rfl, ho⟩
        · exact ⟨none, hget, rfl, rfl, trivial⟩
        · obtain ⟨mA, hns, hr⟩ := (show ObjOk X.prog X.w H s.heap dd (.xd fs) from I.hok dd _ ho)
          obtain ⟨od, ho, hl⟩ := lookIn_ns hns
          exact ⟨some od, hget, rfl, rfl, ho⟩
      obtain ⟨od, J⟩ := J
      exact PySem.W.kia_one (PySem.W.kitx_exc (by obtain ⟨cd, hc, _⟩ := PySem.W.any_some C.hd; rw [hc]; rfl) C.hg C.hk C.hs C.ha C.hn C.ht C.hm) I.kIn J e (fun z => nomatch z) fun tk => ⟨.bl b, H, I.kept (t' := tk) fun _ _ z => z, rfl, q⟩
end L2

/-! An own exception's __init__ that begins with super().__init__(e): the def is walked by the layer, its first statement by the library's words for super(). -/
namespace L2
theorem List.getElem?_append_or {α : Type} {l r : List α} {i : Nat} {a : α} (h : (l ++ r)[i]? = some a) : l[i]? = some a ∨ r[i - l.length]? = some a := by
  by_cases z : i < l.length
  · exact .inl (by rw [← List.getElem?_append_left z]; exact h)
  · exact .inr (by rw [← List.getElem?_append_right (Nat.le_of_not_lt z)]; exact h)
open PySem PySem.Spec PyProof.Rows
/-- the context of a def with a captured __class__ -/
def cxS (CX : CXT) (P : Program) (w : World) (K : PySem.W.Frag) (mg : Str → Option Value) (base : Heap) (N : List Str) (fd : FuncData) (f : Addr) (A : Around) (outer : List Env) (s : Shared) (H : Hp) (E : XK) : Cx where
  prog := P
  w := w
  K := K
  mg := mg
  base := base
  A := A.deeper (callEnv fd s.heap.objs.size f)
  N := N
  s_0 := s
  H_0 := H
  env := callEnv fd s.heap.objs.size f
  outer := outer
  stack := callEnv fd s.heap.objs.size f :: outer
  ex := []
  calm := true
  fn := fun _ => false
  pn := []
  xe := fun e s' => wpAny (model P w) (A.deeper (callEnv fd s.heap.objs.size f)) (leaving (callEnv fd s.heap.objs.size f) e) (fun _ s'' => CX outer H s E e s'') (fun e' s'' => CX outer H s E e' s'') s'
/-- what the text says of such a def -/
structure SupScope (N ps : List Str) (fd : FuncData) (cc : Addr) : Prop where
  kind : fd.scope.kind = .function
  co : fd.scope.isCoroutine = false
  gen : fd.scope.isGenerator = false
  nd : N.Nodup
  pre : N.take ps.length = ps
  par : ∀ x ∈ ps, fd.scope.names.lookup x = some .local
  nocell : ∀ y ∈ fd.scope.names, y.2 ≠ .cell
  free : ∀ y ∈ fd.scope.names, y.2 = .free → y.1 = ("__class__" : Str)
  sup : fd.scope.names.lookup ("super" : Str) = some .globalImplicit
  cls : fd.scope.names.lookup ("__class__" : Str) = some .free
  glob : fd.globals = mainGlobals
  blt : fd.builtins = builtinsNs
  clo : fd.closure = [(("__class__" : Str), cc)]
section
variable {CX : CXT} {P : Program} {w : World} {K : PySem.W.Frag} {mg : Str → Option Value} {base : Heap} {N ps : List Str} {fd : FuncData} {f cc C : Addr} {A : Around} {outer : List Env} {s : Shared} {H : Hp} {E : XK} {us : List Value} {vs : List V} {cd1 : Option Addr} {sl1 : Array (Option Value)}
theorem invS_start (S : SupScope N ps fd cc) (hcc : K.lookup cc = some ⟨.type "cell", cd1, .cell (some (.ref C)), sl1⟩) (hd : A.handled = none) (e0 : Env0 P w K mg base A outer s H) (hl : vs.length = ps.length) (r : Vals vs us) {h0 : Heap} {tk : Nat}
    (hns : h0.Ns s.heap.objs.size (fun x => (ps.zip us).reverse.lookup x)) (hk : ∀ b o, s.heap.get? b = some o → h0.get? b = some o) :
    Inv (cxS CX P w K mg base N fd f A outer s H E) [] (start N vs) H { s with heap := h0, toks := tk } := by
  have hpl : ps.length ≤ N.length := by have := congrArg List.length S.pre; rw [List.length_take] at this; omega
  have noA : ∀ b : Addr, b ∉ (cxS CX P w K mg base N fd f A outer s H E).ex := fun b z => by cases z
  have ecl : (cxS CX P w K mg base N fd f A outer s H E).env.cells = [(("__class__" : Str), cc)] := S.clo
  have one : ∀ {x : Str} {c : Addr}, (cxS CX P w K mg base N fd f A outer s H E).env.cells.lookup x = some c → x = ("__class__" : Str) ∧ c = cc := fun {x c} h => by
    rw [ecl, List.lookup_cons] at h
    cases hb : x == ("__class__" : Str) with
    | true => rw [hb] at h; exact ⟨beq_iff_eq.mp hb, (Option.some.inj h).symm⟩
    | false => rw [hb] at h; cases h
  have hb0 := e0.bs cc _ (e0.mod.kin _ _ hcc)
  refine ⟨⟨e0.mod, S.kind, S.glob, S.blt, Nat.le_refl _, fun y z c h1 h2 => (one h1).1.trans (one h2).1.symm, fun y hy => ?_, (fun y c z _ => by cases z), fun _ => hd, Around.frames_deeper e0.frames, .inr ⟨rfl, rfl⟩, fun b z => absurd z (noA b), e0.bs, e0.bsz, fun b _ _ => noA b, fun b z => absurd z (noA b), e0.funs, e0.frf⟩,
    rfl, e0.bare, Un.kept hk, ⟨_, hns, fun i y v h1 h2 h3 => ?_⟩, fun y c h => ?_, e0.hok.fresh (Nat.le_refl _), fun y c h => ?_, (fun p hp => by cases hp), e0.hok.kept hk, ?_⟩
  · rcases hy with hy | hy
    · exact absurd rfl (S.nocell _ (PySem.mem_of_lookup hy))
    · have e : y = ("__class__" : Str) := S.free _ (PySem.mem_of_lookup hy) rfl
      exact ⟨cc, by rw [ecl, e]; rfl⟩
  · have given : vs[i]? = some v := by
      have z : (vs.map some ++ List.replicate (N.length - vs.length) none)[i]? = some (some v) := h2
      rcases List.getElem?_append_or z with z | z
      · simpa using z
      · exact absurd (List.eq_of_mem_replicate (List.mem_of_getElem? z)) (by simp)
    have par : ps[i]? = some y := by
      have lt : i < ps.length := hl ▸ (List.getElem?_eq_some_iff.mp given).1
      have z : N[i]? = some y := h1
      rw [← List.getElem?_take_of_lt lt, S.pre] at z
      exact z
    obtain ⟨u, hu, rv⟩ := r.get given
    exact ⟨u, rv, .inl ⟨S.par y (List.mem_of_getElem? par), NdefX.zip_look (S.pre ▸ S.nd.sublist (List.take_sublist ps.length N)) par hu⟩⟩
  · obtain ⟨_, rfl⟩ := one h
    exact ⟨_, _, hk _ _ hb0.1, rfl⟩
  · obtain ⟨_, rfl⟩ := one h
    exact hb0.2
  · show (start N vs).length = N.length
    unfold start
    rw [List.length_append, List.length_map, List.length_replicate]
    omega
end
end L2

namespace L2
open PySem PySem.Spec PyProof.Rows
/-- own classes, then the tail t -/
def refsTo (t : List Value) : List Value → Bool
  | .ref _ :: r => refsTo t r
  | l => decide (l = t)
theorem refsTo_contains {t : List Value} (Y : String) : ∀ l : List Value, refsTo t l = true → l.contains (.type Y) = t.contains (.type Y)
  | [], h => by
    have e : ([] : List Value) = t := of_decide_eq_true h
    rw [← e]
  | v :: r, h => by
    cases v with
    | ref c =>
      rw [List.contains_cons, refsTo_contains Y r h]
      rfl
    | _ =>
      have e := of_decide_eq_true h
      rw [← e]
/-- what the written part says of the def's surroundings -/
structure SupK (B newId initId : String) (bmB : List Value) (P : Program) (K : PySem.W.Frag) (mg : Str → Option Value) (C f : Addr) (fd : FuncData) (ar : Arg) : Prop where
  fn : ∃ oc od osl, K.lookup f = some ⟨oc, od, .func fd, osl⟩
  hp : (fd.params.posonlyargs ++ fd.params.args).head? = some ar
  loc : fd.scope.names.lookup ar.arg = some .local
  code : ∃ cda k1 k2 vsc k3 file tf, fd.code = .ref cda ∧ K.lookup cda = some ⟨k1, k2, .fields vsc, k3⟩ ∧ vsc[2]? = some (.str file tf) ∧ ((P.main.file : Str) == file) = true
  top : (P.main.scope.names.lookup ("super" : Str)).isSome = false
  ms : mg "super" = none
  cls : ∃ nm q N bs bm sn sub ab col dd k0 k1 k2 k3 k5, K.lookup C = some (excClassObj nm q C N bs bm true sn sub ab col dd k0 k1 k2 k3 k5 newId) ∧ refsTo bmB bm = true
  sup : PySem.W.ks_superIn K C C "__init__" = some (some (.builtin initId))
  sB : PySem.W.subIn K (.ref C) (.type B) = some true
  sC : PySem.W.subIn K (.ref C) (.ref C) = some true
  op : PySem.W.nsIn K cStatics "thirdparty.any" = some none
section
variable {CX : CXT} {P : Program} {w : World} {K : PySem.W.Frag} {mg : Str → Option Value} {base : Heap} {N ps : List Str} {fd : FuncData} {f cc C a : Addr} {A : Around} {outer : List Env} {s0 s : Shared} {H0 H : Hp} {E : XK} {σ : St} {cd1 : Option Addr} {sl1 : Array (Option Value)} {ar : Arg}
  {e : Expr} {ta : TA} {p0 p1 p2 p3 p4 : Pos} {body : List Stmt} {R : Hp → Prop} {B newId initId : String} {bmB : List Value}
theorem boot_super : bootBuiltins ("super" : Str) = some (.type "super") := by decide +kernel
theorem sup_run (S : SupScope N ps fd cc) (hcc : K.lookup cc = some ⟨.type "cell", cd1, .cell (some (.ref C)), sl1⟩) (FB : ExcBaseFacts B newId initId bmB) (KF : PySem.W.KxsFacts B initId) (T : SupK B newId initId bmB P K mg C f fd ar) (h0 : N[0]? = some ar.arg)
    (I : Inv (cxS CX P w K mg base N fd f A outer s0 H0 E) [] σ H s) (hσ : σ[0]? = some (some (.ref a))) (ea : H a = some (exo a C none)) (ha : PA (cxS CX P w K mg base N fd f A outer s0 H0 E) [e] ta)
    (h : ta σ H fun vs H1 => vs.length ≤ 1000 ∧ H1 a = some (exo a C none) ∧ R H1)
    (hst : starEach [e] (callEnv fd s0.heap.objs.size f) = [(false, eval e (callEnv fd s0.heap.objs.size f))] := by rfl)
    {pl : Sem Bool}
    (hcall : eval (.Call (.Attribute (.Call (.Name "super" p0) [] [] p1) "__init__" p2) [e] [] p3) (callEnv fd s0.heap.objs.size f) = (do
      let ov ← attributeBase (.Call (.Name "super" p0) [] [] p1) "__init__" (callEnv fd s0.heap.objs.size f) (eval (.Call (.Name "super" p0) [] [] p1) (callEnv fd s0.heap.objs.size f))
      standAt p2.atName
      let (f', first) ← holding [ov] (getMethod ov "__init__" pl)
      callWith p3 f' first (backTo p3 (starEach [e] (callEnv fd s0.heap.objs.size f))) []) := by rfl) :
    PySem.wpAt (model P w) (A.deeper (callEnv fd s0.heap.objs.size f)) (.func body (callEnv fd s0.heap.objs.size f)) (eval (.Call (.Attribute (.Call (.Name "super" p0) [] [] p1) "__init__" p2) [e] [] p3) (callEnv fd s0.heap.objs.size f))
      (fun _ s' => ∃ H', Inv (cxS CX P w K mg base N fd f A outer s0 H0 E) [] σ H' s' ∧ R H') (cxS CX P w K mg base N fd f A outer s0 H0 E).xe s := by
  obtain ⟨oc, od, osl, lkf⟩ := T.fn
  obtain ⟨cda, k1, k2, vsc, k3, file, tf, hco, hcda, hvs, hfile⟩ := T.code
  have KX : K.In s.heap := I.kIn
  refine ks_wpAt_MethodCall (pl := pl) ?_ hcall
  refine ks_wpAt_super_base (f := f) (cc := cda) S.sup S.cls (by decide) rfl (KX _ _ lkf) rfl T.hp hco (KX _ _ hcda) rfl hvs hfile T.top ?_
  -- super
  obtain ⟨mb, b1, b2⟩ := I.mod.blt
  have hkind : (callEnv fd s0.heap.objs.size f).scope.kind = .function := S.kind
  have hsup : (callEnv fd s0.heap.objs.size f).kindOf "super" = some .globalImplicit := S.sup
  have ldS : ∀ Q : Value → Shared → Prop, Q (.type "super") s → wpAny (model P w) (A.deeper (callEnv fd s0.heap.objs.size f)) (loadName (callEnv fd s0.heap.objs.size f) "super") Q (cxS CX P w K mg base N fd f A outer s0 H0 E).xe s := fun Q hq => by
    unfold loadName
    simp only [Env.blockKind, hkind, hsup, ScopeKind.isAnnotationScope, Bool.false_and, Bool.false_eq_true, if_false]
    exact Calls.loadGlobal_builtin (by show s.heap.Ns fd.globals mg; rw [S.glob]; exact I.mod.glob.keeps I.bk) T.ms (by show s.heap.Ns fd.builtins mb; rw [S.blt]; exact b1.keeps I.bk) ((b2 _ (by decide)).trans boot_super) hq
  refine ldS _ ⟨rfl, ?_⟩
  -- __class__
  have hcell : s.heap.IsCell cc (some (.ref C)) := ⟨_, KX _ _ hcc, rfl⟩
  refine wpAny_loadName_free hkind S.cls (by show fd.closure.lookup _ = _; rw [S.clo]; rfl) hcell ?_
  -- self
  obtain ⟨m, hns, hl⟩ := I.loc
  obtain ⟨u, ru, hlook⟩ := hl 0 ar.arg (.ref a) h0 hσ (.inl T.loc)
  obtain rfl : u = Value.ref a := ru
  have hml : m ar.arg = some (.ref a) := by
    rcases hlook with ⟨_, z⟩ | ⟨z, _⟩
    · exact z
    · have z' : fd.scope.names.lookup ar.arg = some .cell ∨ fd.scope.names.lookup ar.arg = some .free := z
      rw [T.loc] at z'
      rcases z' with z' | z' <;> cases z'
  refine wpAny_loadName_local hkind T.loc hns hml ?_
  -- the class, the object
  obtain ⟨nm, q, NN, bs, bm, sn, sub, ab, col, dd, c0, c1, c2, c3, c5, hC, hbm⟩ := T.cls
  have hCh := KX _ _ hC
  obtain ⟨t1, hoa⟩ := exo_at I.hok ea
  obtain ⟨hp, g, d, t, os⟩ := s
  refine ks_wpAny_isType_cls hCh rfl ⟨rfl, ?_⟩
  refine ks_wpAny_call_super hCh rfl hoa rfl (fun c z => nomatch z) (PySem.W.looks_subIn KX T.sC) (fun h1 hso k1' => ?_)
  -- the bound __init__
  have KX1 : K.In h1 := KX.keeps k1'
  have hcl : PySem.W.clsIn K C = some { name := nm, bases := bs, mro := .ref C :: bm, ns := NN, qualname := q, hasDict := true, slotNames := sn, subclasses := sub, abstract := ab, collection := col, hasDel := false } := by unfold PySem.W.clsIn; rw [hC] <;> rfl
  have hal : PySem.W.alongIn K "__init__" (((Value.ref C :: bm).dropWhile (· != .ref C)).drop 1) = some (some (.builtin initId)) := by
    have z := T.sup
    unfold PySem.W.ks_superIn at z
    rw [hcl] at z
    exact z
  have hoa1 := k1' _ _ hoa
  have inst1 : PySem.W.InstAt h1 a { cls := .ref C, dict := none, data := .fields #[.ref t1, .none, .none, .none, .bool false, .none] } C none := ⟨hoa1, rfl, rfl, trivial⟩
  have hI1 : PySem.W.Looks (model P w) h1 (isInstance (.ref a) (.type B)) true := inst1.type.andThen (PySem.W.looks_subIn KX1 T.sB)
  refine PySem.W.kxs_getMethod KF hso (PySem.W.looks_opaque KX1 T.op) (l₀ := .ref C :: bm) (fun A Q E s k q => wpAny_bind ((PySem.W.looks_clsIn KX1 hcl) A _ E s k (wpAny_pure q))) rfl KX1 hal hI1 (PySem.W.ks_ne KX1 inst1 hcl) (by decide) ?_
  -- its argument
  have kk : ∀ b o, hp.get? b = some o → (h1.push (PySem.W.kxs_mw initId a)).get? b = some o := fun b o z => Heap.get?_push_of_some _ (k1' b o z)
  have I2 : Inv (cxS CX P w K mg base N fd f A outer s0 H0 E) [] σ H ⟨h1.push (PySem.W.kxs_mw initId a), g, d, t + 1, os⟩ := I.kept (t' := t + 1) kk
  have hwr : (h1.push (PySem.W.kxs_mw initId a)).get? h1.objs.size = some (PySem.W.kxs_mw initId a) := Heap.get?_push_at rfl rfl
  have I1 : Inv (cxS CX P w K mg base N fd f A outer s0 H0 E) [] σ H ⟨h1, g, d, t + 1, os⟩ := I.kept (t' := t + 1) k1'
  have I3 : Inv (cxS CX P w K mg base N fd f A outer s0 H0 E) [(h1.objs.size, PySem.W.kxs_mw initId a)] σ H ⟨h1.push (PySem.W.kxs_mw initId a), g, d, t + 1, os⟩ := I2.pins_of fun p hp' => by
    obtain rfl := List.mem_singleton.mp hp'
    exact ⟨hwr, I1.hok.fresh (Nat.le_refl _), Nat.ne_of_gt I1.lt, I1.nofs (Nat.le_refl _), fun v z => by cases z⟩
  rw [hst]
  refine PySem.W.kxs_callWith (i := initId) (x := a) rfl ?_
  refine Calls.evalArgs_plain ?_
  have hrun := ha.run p3 [(h1.objs.size, PySem.W.kxs_mw initId a)] _ σ H _ I3 h
  rw [show starEach [e] (cxS CX P w K mg base N fd f A outer s0 H0 E).env = [(false, eval e (callEnv fd s0.heap.objs.size f))] from hst] at hrun
  refine thn hrun fun us s2 ⟨vs, H1, I4, r4, hl, ea4, q4⟩ => ?_
  have hu2 : s2.heap.get? h1.objs.size = some (PySem.W.kxs_mw initId a) := (I4.pin _ (List.mem_append_right _ (List.mem_singleton.mpr rfl))).1
  refine ⟨hu2, ?_⟩
  show wpAny _ _ (call (.ref h1.objs.size) us) _ _ _
  have I5 : Inv (cxS CX P w K mg base N fd f A outer s0 H0 E) [] σ H1 s2 := I4.pins_of (fun p hp' => by cases hp')
  obtain ⟨t4, ho4⟩ := exo_at I5.hok ea4
  have hC2 := I5.kIn _ _ hC
  have hz : us.length ≤ sizeLine := by
    rw [← Paired.length r4, sizeLine_eq]
    omega
  have fin : ∀ h', (∀ b o, b ≠ a → s2.heap.get? b = some o → h'.get? b = some o) → (∃ t5 : Addr, h'.get? a = some ({ cls := .ref C, dict := none, data := .fields #[.ref t5, .none, .none, .none, .bool false, .none] } : Obj)) → ∃ H', Inv (cxS CX P w K mg base N fd f A outer s0 H0 E) [] σ H' { s2 with heap := h' } ∧ R H' := fun h' k ⟨t5, hx⟩ => by
    have J := I5.write (t' := s2.toks) (x := a) (e := a) (o := exo a C none) (by rw [ea4]; exact True.intro) (.inl rfl) k ⟨_, hx⟩ (exo_ok hx)
    have eu : upd H1 a (exo a C none) = H1 := by
      funext b
      by_cases hb : b = a
      · rw [hb, upd_same, ea4]
      · rw [upd_ne hb]
    rw [eu] at J
    exact ⟨H1, J, q4⟩
  obtain ⟨hp2, g2, d2, tk2, os2⟩ := s2
  refine wpAny_call (codeAny_of_tree ?_)
  show wpAny _ _ (callAny (.ref h1.objs.size) ⟨us, []⟩) _ _ _
  simp only [callAny]
  refine wpAny_bind (wpAny_load hu2 ?_)
  simp only [PySem.W.kxs_mw, show (Value.type "method-wrapper" == Value.type "method" || Value.type "method-wrapper" == Value.type "builtin_function_or_method" || Value.type "method-wrapper" == Value.type "method-wrapper") = true by decide, if_true]
  refine PySem.W.KFB.if_so (by decide) ?_
  refine wpAny_bind (PySem.W.check_bound_init FB.toExcCallFacts hC2 ho4 rfl ?_)
  refine wpAny_bind (wpAny_pure (wpAny_pure ?_))
  refine ⟨plainId_quiet FB.init.plain _, codeAny_builtin FB.initEntry ?_⟩
  exact PySem.W.exc_init_tree (cls := .ref C) (t0 := t4) (dv := none) (c2 := .none) (c3 := .none) (b4 := .bool false) ho4 hz fun h' k e' t' => fin h' k ⟨_, e'⟩
end
end L2

namespace L2
open PySem PySem.Spec PyProof.Rows
section
variable {CX : CXT} {P : Program} {w : World} {K : PySem.W.Frag} {mg : Str → Option Value} {base : Heap} {k : Nat} {N ps : List Str} {fd : FuncData} {f cc C : Addr} {cd1 : Option Addr} {sl1 : Array (Option Value)} {ar : Arg} {sp : Sp}
  {e : Expr} {p0 p1 p2 p3 p4 : Pos} {rest : List Stmt} {B newId initId : String} {bmB : List Value}
/-- an own exception's __init__ that begins with super().__init__(e) -/
theorem fn_sup (S : SupScope N ps fd cc) (hcc : K.lookup cc = some ⟨.type "cell", cd1, .cell (some (.ref C)), sl1⟩) (FB : ExcBaseFacts B newId initId bmB) (KF : PySem.W.KxsFacts B initId) (T : SupK B newId initId bmB P K mg C f fd ar) (h0 : N[0]? = some ar.arg) (hcd : PySem.W.codeIn K fd.code fd.qualname = true)
    (hbody : fd.body = .stmts (.Expr (.Call (.Attribute (.Call (.Name "super" p0) [] [] p1) "__init__" p2) [e] [] p3) p4 :: rest)) (len : ∀ vs H Q E, sp vs H Q E → vs.length = ps.length)
    (hst : ∀ env, starEach [e] env = [(false, eval e env)] := by intro env; rfl) {pl : Env → Sem Bool}
    (hcall : ∀ env, eval (.Call (.Attribute (.Call (.Name "super" p0) [] [] p1) "__init__" p2) [e] [] p3) env = (do
      let ov ← attributeBase (.Call (.Name "super" p0) [] [] p1) "__init__" env (eval (.Call (.Name "super" p0) [] [] p1) env)
      standAt p2.atName
      let (f', first) ← holding [ov] (getMethod ov "__init__" (pl env))
      callWith p3 f' first (backTo p3 (starEach [e] env)) []) := by intro env; rfl)
    (hin : ∀ L, interactive (callEnv fd L f) = false) (hsw : ∀ L, swapsWith (.Call (.Attribute (.Call (.Name "super" p0) [] [] p1) "__init__" p2) [e] [] p3) none p4.line (callEnv fd L f) = pure false)
    (h : ∀ (A : Around) (outer : List Env) (s : Shared) (H : Hp) (vs : List V) (Q : VK) (E : XK), A.guards = some [] → Room k (A.deeper (callEnv fd s.heap.objs.size f)) → sp vs H Q E →
      ∃ (a : Addr) (ta : TA) (tr : TS), (start N vs)[0]? = some (some (.ref a)) ∧ H a = some (exo a C none) ∧ PA (cxS CX P w K mg base N fd f A outer s H E) [e] ta ∧ PSs (cxS CX P w K mg base N fd f A outer s H E) rest tr ∧
        ta (start N vs) H (fun us H1 => us.length ≤ 1000 ∧ H1 a = some (exo a C none) ∧ tr { nx := fun _ H' => Q .non H', rt := Q } (start N vs) H1)) :
    FnG P w K mg base CX (k + 1) f fd ps sp := by
  refine ⟨len, fun A outer s H args us vs Q E gd hr e0 hb r hsp => ?_⟩
  have KX : K.In s.heap := e0.mod.kin.keeps fun b o e => (e0.bs b o e).1
  obtain ⟨oc, od, osl, lkf⟩ := T.fn
  refine ks_codeAny_call_defAt hr.depth (KX _ _ lkf) rfl (e0.mod.nolimit.keeps fun b o e => (e0.bs b o e).1) (PySem.W.codeRec_of KX hcd) hbody hb S.nocell (fun x hx => S.par x.1 (List.of_mem_zip hx).1) (fun h1 hns kk => ?_) S.co S.gen S.kind
  obtain ⟨a, ta, tr, ha0, hea, hta, htr, hq⟩ := h A outer s H vs Q E gd (hr.deeper _) hsp
  have I := invS_start (CX := CX) (E := E) (f := f) S hcc hr.hd e0 (len _ _ _ _ hsp) r (tk := s.toks + (ps.zip us).length) hns kk
  refine ks_wpAt_execs_cons (ks_wpAt_Expr_any (PySem.wpAt_mono (sup_run (pl := pl _) S hcc FB KF T h0 I ha0 hea hta hq (hst _) (hcall _)) (fun v s1 ⟨H1, I1, q1⟩ => ?_) fun e s' hs => hs) (hin _) (hsw _))
  refine PySem.wpAt_of_wpAny (wpAny_mono (htr.run [] s1 _ H1 _ I1 q1) (fun fl s' hs => ?_) fun e s' hs => hs)
  cases fl with
  | ret u => obtain ⟨v, σ', H', J, rv, q⟩ := hs; exact ⟨v, H', J.os, J.bare, J.base, J.hok, rv, q⟩
  | next => obtain ⟨σ', H', J, q⟩ := hs; exact ⟨V.non, H', J.os, J.bare, J.base, J.hok, rfl, q⟩
  | brk => obtain ⟨_, _, _, q⟩ := hs; exact False.elim q
  | cont => obtain ⟨_, _, _, q⟩ := hs; exact False.elim q
end
end L2

namespace L2
open PySem PySem.Spec PyProof.Rows
theorem make_guards {A : Around} {C : Addr} {us : List Value} {kw : List (Str × Value)} : (A.under (.builtin "type.__call__" ⟨.ref C :: us, kw⟩)).guards = A.guards := by
  first | rfl | simp [Around.under]
theorem deeper_guards {A : Around} {env : Env} : (A.deeper env).guards = A.guards := by
  first | rfl | simp [Around.deeper]
/-- an exception object of C is laid: its args, then itself -/
theorem exc_laid {X : Cx} {pins : List (Addr × Obj)} {σ : St} {G : Hp} {s0 : Shared} {args : List Value} {C : Addr} (J : Inv X pins σ G s0) :
    (∀ b o, s0.heap.get? b = some o → ((s0.heap.push (PySem.W.kdv_tup args)).push (PySem.HandSPX.excO C s0.heap.objs.size)).get? b = some o) ∧
    Inv X pins σ (upd G (s0.heap.objs.size + 1) (exo (s0.heap.objs.size + 1) C none)) { s0 with heap := (s0.heap.push (PySem.W.kdv_tup args)).push (PySem.HandSPX.excO C s0.heap.objs.size) } := by
  have stays : ∀ b o, s0.heap.get? b = some o → ((s0.heap.push (PySem.W.kdv_tup args)).push (PySem.HandSPX.excO C s0.heap.objs.size)).get? b = some o := fun b o z => Heap.get?_push_of_some _ (Heap.get?_push_of_some _ z)
  exact ⟨stays, J.laid (t' := s0.toks) (o := exo (s0.heap.objs.size + 1) C none) stays (Nat.le_succ _) (exo_ok (by heap_get))⟩
/-- C(e, ..): an own exception over ValueError, whose __init__ is told where no repr is under way -/
theorem pmk_oexG {X : Cx} {CX : CXT} {x : Str} {C g : Addr} {n : Nat} {fd : FuncData} {ps : List Str} {pr : Sp} {ds : List Value} {dvs : List V} {e : Expr} {es : List Expr} {ta : TA} {p pos : Pos} (cls : OexC X.K C) (init : PySem.W.findIn X.K (.ref C) "__init__" = some (some (.ref g))) (isfn : PySem.W.typeIn X.K (.ref g) = some (.type "function"))
    (F : FnG X.prog X.w X.K X.mg X.base CX n g fd ps pr) (quiet : X.A.guards = some []) (room : Room (n + 1) X.A) (bn : Binds X.K fd ps ds) (dv : Vals dvs ds) (pass : Passes CX X (fun _ _ _ => False)) (gl : Gl X x) (at_ : X.mg x = some (.ref C)) (args : PA X (e :: es) ta)
    (nd : (x == ("__debug__" : Str)) = false := by decide) (st : starEach (e :: es) X.env = (false, eval e X.env) :: starEach es X.env := by rfl) (pl : (backTo pos (starEach es X.env)).any (·.1) = false := by rfl) :
    PMk X (.Call (.Name x p) (e :: es) [] pos) (tMkO C pr dvs ta) := by
  intro pins s0 σ G W J w
  have vals := args.run pos pins s0 σ G _ J w
  refine wpAny_Call_Name_kw (ld_glob J gl at_ (PySem.W.callWith_K (h₀ := X.base) J.ok.mod.kin cls.kC (thn vals ?_) st pl) nd)
  rintro us ⟨hp, gens, dr, tk, os⟩ ⟨as, G1, J1, rel, few, wish⟩
  refine ⟨J1.kIn, ?_⟩
  show wpAny _ _ (PySem.call (.ref C) us) _ _ _
  obtain ⟨_, _, _, _, bm, _, _, _, _, _, _, _, _, _, _, look, tail⟩ := cls.cls
  obtain ⟨stays, J2⟩ := exc_laid (args := us) (C := C) J1
  have w1 := wish (hp.objs.size + 1) (J1.hok.fresh (Nat.le_succ hp.objs.size))
  have rel2 : Vals (V.ref (hp.objs.size + 1) :: (as ++ dvs)) (Value.ref (hp.objs.size + 1) :: (us ++ ds)) := .cons rfl (rel.append dv)
  have many : (Value.ref (hp.objs.size + 1) :: us ++ ds).length = ps.length := rel2.length.symm.trans (F.len _ _ _ _ w1)
  have run := F.run _ X.stack _ _ ⟨Value.ref (hp.objs.size + 1) :: us, []⟩ _ _ _ (fun _ _ _ => False) (make_guards.trans quiet) (room.make C us []) (J2.env0.make C us []) (bn _ (Value.ref (hp.objs.size + 1) :: us) J2.kIn many) rel2 w1
  have line : us.length ≤ sizeLine := Nat.le_trans (Nat.le_of_eq (Paired.length rel).symm) (Nat.le_trans few (by rw [sizeLine_eq]; decide))
  refine wpAny_call (PySem.HandSPX.call_own PySem.F.excBase_ValueError (fun Y => PySem.HandSPX.refsVE_contains Y bm tail) (J1.kIn _ _ look) (PySem.W.looks_findIn J1.kIn init) (fun self => PySem.W.bind_fn J1.kIn self isfn) line (codeAny_mono run ?_))
  rintro (er | fl) s3 z
  · exact pass pins σ _ _ er s3 J2 z
  · cases fl with
    | ret u =>
      obtain ⟨_, G3, same, bare, un, ok, none_, rfl, d, fs, at3, own, new, w3⟩ := z
      exact ⟨none_, mk_end (raises_own cls.exC cls.tyC) J1 (Nat.le_succ _) stays un ok same bare at3 own new w3⟩
    | _ => exact z.elim
end L2

/-! x(lambda: body, e): the lambda is called by a def with two parameters; no repr is under way. -/
namespace L2
open PySem PySem.Spec PyProof.Rows LamX
section
variable {X : Cx} {pins : List (Addr × Obj)} {σ : L2.St} {H : Hp} {s : Shared}
theorem pe_actG {CXg : CXT} {Eg : XK} {Ng : List Str} {qg : Str} {sg : Scope} {g f c' : Addr} {cdg pm ctv : Value} {params : Arguments} {body : Expr} {scope : Scope} {k i : Nat} {a : Str} {pn : List (Addr × Obj)} {xe : Value → Shared → Prop} {W : WX} {t : XK → TE} {p1 p2 : Pos}
    (gd : X.A.guards = some []) (I : Inv X pins σ H s) (L : LamS X.env.scope scope) (hf : s.heap.get? f = some (PySem.W.kla_obj "<lambda>" (X.env.qual ++ "<lambda>") params body scope (cloFrom X.env.cells scope.names []) pm c' ctv)) (hfn : H f = none) (hfr : f ∉ frs X.stack)
    (hbind : bindArgs (PySem.W.kla_fn "<lambda>" (X.env.qual ++ "<lambda>") params body scope (cloFrom X.env.cells scope.names []) pm (.ref c') ctv) ⟨[], []⟩ = pure [])
    (tk : Takes ((cxOf CXg X.prog X.w X.K X.mg X.base Ng qg sg g cdg X.A X.stack s H Eg).tr pn xe) W) (hr : Room (k + 1) (X.A.deeper (envOfC qg sg s.heap.objs.size g cdg)))
    (hbody : ∀ (A : Around) (outer : List Env) (s : Shared) (H : Hp) (E : XK), A.guards = some [] → Room k (A.deeper (lamEnv X scope s.heap.objs.size f c')) → PE (lamCx X A outer s H E scope f c') body (t E))
    (hN : Ng[i]? = some a) (hv : Vis sg a) (hd : (a == ("__debug__" : Str)) = false := by decide) (hcd : (a == ("__classdict__" : Str)) = false := by decide) :
    PE ((cxOf CXg X.prog X.w X.K X.mg X.base Ng qg sg g cdg X.A X.stack s H Eg).tr pn xe) (.Call (.Name a p1) [] [] p2)
      (fun σZ HZ Q => σZ[i]? = some (some (.ref f)) ∧ HZ c' = some (CodeO c' (X.env.qual ++ "<lambda>")) ∧ t (WE W σZ) σ HZ Q) := by
  refine ⟨fun pZ sZ σZ HZ Q JZ h => ?_⟩
  obtain ⟨hs, hc, ht⟩ := h
  refine wpAny_Call_Name_kw (thn ((pe_var (pos := p1) (i := i) hN hv hd hcd).run pZ sZ σZ HZ (fun v H1 => v = .ref f ∧ H1 = HZ) JZ ⟨.ref f, hs, rfl, rfl⟩) fun u s1 ⟨v, H1, J1, r1, e1, e2⟩ => ?_)
  subst e1
  rw [e2] at J1
  obtain rfl : u = Value.ref f := r1
  have hfun := J1.base.keep f _ hf hfn hfr (fun z => nomatch (show f ∈ ([] : List Addr) from z))
  refine PySem.W.callWith_F0 ⟨_, _, _, _, hfun⟩ ?_
  have un : Un (frs X.stack) [] H HZ s.heap s1.heap := J1.base
  obtain ⟨⟨oc, vs, t, hoc, hdc, hvc⟩, _, _⟩ := J1.hok c' _ hc
  have gd2 : (X.A.deeper (envOfC qg sg s.heap.objs.size g cdg)).guards = some [] := deeper_guards.trans gd
  have rc : codeAny (model X.prog X.w) (X.A.deeper (envOfC qg sg s.heap.objs.size g cdg)) (.call (.ref f) ⟨[], []⟩) (CR (L2.CX X.prog X.w) (envOfC qg sg s.heap.objs.size g cdg :: X.stack) X.prog X.w HZ s1 Q (WE W σZ)) s1 := by
    refine PySem.W.kla_callFunE hr.depth hfun rfl L.co L.gen rfl ⟨c', oc, vs, t, rfl, hoc, hdc, hvc⟩ ?_
    rw [hbind]
    refine wpAny_pure (wpAny_newFunctionEnv (fun y hy => (L.own y hy).2) (fun y hy => absurd hy (by simp)) (fun h₁ hns hsb => ⟨J1.nolimit.fresh _ hsb, ?_⟩) L.kind)
    show codeAny _ _ (.expr body (lamEnv X scope s1.heap.objs.size f c')) _ _
    have kp : ∀ b o, s1.heap.get? b = some o → h₁.get? b = some o := fun b o e => hsb.extBut b o (Nat.ne_of_lt (Heap.lt_size e)) (Heap.get?_push_of_some _ e)
    have J := lam_start2 (E := WE W σZ) (f := f) (c' := c') (tk := s1.toks + ([] : List (Str × Value)).length) I L J1.env0 hr.hd un hns kp
    refine PySem.W.kla_codeExpr (wpAny_mono ((hbody _ _ s1 HZ _ gd2 (hr.deeper _)).run [] _ _ HZ Q J ht) (fun v s' hq => ?_) fun e s' hq => hq)
    obtain ⟨w', G, JG, rv, q⟩ := hq
    exact ⟨w', G, JG.os, JG.bare, JG.base, JG.hok, rv, q⟩
  have out := passAt tk σZ
  refine wpAny_call (codeAny_mono rc ?_)
  rintro (er | fl) s2 z
  · exact out pZ HZ s1 er s2 J1 z
  · cases fl with
    | ret u => exact J1.after z
    | _ => exact z.elim
end
end L2

/-! x op y, x == y, x != y, str(x): x an instance with own methods, y an instance, an int or a text. -/
namespace L2
open PySem PySem.Spec PyProof.Rows
section
variable {X : Cx} {k : Nat} {pins : List (Addr × Obj)} {σ : St} {H : Hp} {s : Shared}
theorem run_fnA {A' : Around} {f : Addr} {sp : Sp} {Q : VK} {us : List Value} {vs : List V} {E : Value → Shared → Prop} (F : FnR X.prog X.w X.K X.mg X.base CX0 k f sp) (hf : A'.frames = some X.stack) (hr : Room k A') (I : Inv X pins σ H s) (r : Vals vs us) (h : sp vs H Q E0) :
    wpAny (model X.prog X.w) A' (call (.ref f) us) (EP X pins σ Q) E s := by
  refine wpAny_call (codeAny_mono (F A' X.stack s H us vs Q E0 hr ⟨hf, I.env0.mod, I.env0.bs, I.env0.bsz, I.env0.funs, I.env0.frf, I.env0.hok, I.env0.bare⟩ r h) fun r s' hq => ?_)
  cases r with
  | error e => exact False.elim hq
  | ok fl =>
    cases fl with
    | ret u => exact I.after hq
    | next => exact False.elim hq
    | brk => exact False.elim hq
    | cont => exact False.elim hq
/-- the right side: an instance of C, an int, a text -/
inductive Side (C : Addr) (H : Hp) : V → Value → Prop where
  | ins {b dy : Addr} {gs : List (Str × V)} (h : H b = some (.ins C dy gs)) : Side C H (.ref b) (.ref C)
  | int (i : Int) : Side C H (.int i) (.type "int")
  | str (t : Str) : Side C H (.str t) (.type "str")
theorem Side.look {C : Addr} {y : V} {u tb : Value} (d : Side C H y tb) (I : Inv X pins σ H s) (r : RelV y u) : PySem.W.Looks (model X.prog X.w) s.heap (typeOf u) tb := by
  cases d with
  | ins h =>
    obtain rfl : u = Value.ref _ := r
    obtain ⟨mA, M, _⟩ := ins_get I.hok h
    obtain ⟨od, J, _⟩ := M.look
    exact J.type
  | int i =>
    obtain ⟨t, rfl⟩ := r
    exact PySem.W.Looks.of_pure rfl
  | str x =>
    obtain ⟨t, rfl⟩ := r
    exact PySem.W.Looks.of_pure rfl
/-- x op y, y an instance or an int -/
def rOwnM (C : Addr) (sp : Sp) : R2 := fun x y H Q => ∃ a dx fs, x = .ref a ∧ H a = some (.ins C dx fs) ∧ ((∃ b dy gs, y = .ref b ∧ H b = some (.ins C dy gs)) ∨ ∃ i, y = .int i) ∧ sp [x, y] H Q E0
theorem op_ownM {C g : Addr} {op : Operator} {sp : Sp} {fo ro : Option Value} (hc : PySem.W.selfFirst X.K C = true) (hs : PySem.W.findIn X.K (.ref C) (PySem.dunder op.info.2) = some (some (.ref g))) (hf : PySem.W.isFn X.K (.ref g) = true)
    (hr2 : PySem.W.findIn X.K (.ref C) (dunderR op.info.2) = some none) (h1 : PySem.W.findIn X.K (.type "int") (PySem.dunder op.info.2) = some fo) (h2 : PySem.W.findIn X.K (.type "int") (dunderR op.info.2) = some ro) (hsub : PySem.W.subIn X.K (.type "int") (.ref C) = some false)
    (F : FnR X.prog X.w X.K X.mg X.base CX0 k g sp) (hr : Room k X.A) : OpR X (binaryOp op) (rOwnM C sp) := by
  intro pins s σ H x y v u Q I rx ry h
  obtain ⟨a, dx, fs, rfl, ha, hy, q⟩ := h
  cases (show v = Value.ref a from rx)
  obtain ⟨mA, M, _⟩ := ins_get I.hok ha
  obtain ⟨od, J, _⟩ := M.look
  obtain ⟨m, hF⟩ := I.fr
  have run : wpAny (model X.prog X.w) X.A (call (.ref g) [.ref a, u]) (PySem.W.CmpBack (EP X pins σ Q)) X.xe s := by
    refine wpAny_mono (run_fnA (vs := [.ref a, y]) F I.ok.frames hr I (.cons rfl (.cons ry .nil)) q) (fun w s' z => ?_) fun _ _ x => x
    obtain ⟨z', H', I', rz, qz⟩ := z
    exact SlX.cmpback rz ⟨z', H', I', rz, qz⟩
  rcases hy with ⟨b, dy, gs, rfl, hb⟩ | ⟨i, rfl⟩
  · cases (show u = Value.ref b from ry)
    obtain ⟨mB, M', _⟩ := ins_get I.hok hb
    obtain ⟨od', J', _⟩ := M'.look
    exact PySem.W.binop_K hF I.ok.mod.kin J J'.type hc hs hf run
  · obtain ⟨t, rfl⟩ := ry
    exact PySem.W.ksp_binT (T := "int") hF I.ok.mod.kin J rfl hc hs hf hr2 (.inl rfl) h1 h2 hsub run
/-- what the own __eq__ is asked -/
def rOwnEq (C : Addr) (sp : Sp) (neg : Bool) : R2 := fun x y H Q => ∃ a dx fs tb, x = .ref a ∧ H a = some (.ins C dx fs) ∧ Side C H y tb ∧ sp [x, y] H (fun v H' => ∃ b, v = .bl b ∧ Q (.bl (xor neg b)) H') E0
theorem op_ownEq {C g : Addr} {sp : Sp} (hs : PySem.W.findIn X.K (.ref C) "__eq__" = some (some (.ref g))) (hf : PySem.W.isFn X.K (.ref g) = true) (hi : PySem.W.notFirst X.K C (.type "int") = true) (hst : PySem.W.notFirst X.K C (.type "str") = true)
    (F : FnR X.prog X.w X.K X.mg X.base CX0 k g sp) (hr : Room k X.A) : OpR X (compareOp .Eq) (rOwnEq C sp false) := by
  intro pins s σ H x y v u Q I rx ry h
  obtain ⟨a, dx, fs, tb, rfl, ha, hy, q⟩ := h
  cases (show v = Value.ref a from rx)
  obtain ⟨mA, M, _⟩ := ins_get I.hok ha
  obtain ⟨od, J, _⟩ := M.look
  obtain ⟨m, hF⟩ := I.fr
  have hn : PySem.W.notFirst X.K C tb = true := by
    cases hy with
    | ins _ => unfold PySem.W.notFirst; simp
    | int _ => exact hi
    | str _ => exact hst
  show wpAny _ _ (richCompare .Eq (.ref a) u) _ _ _
  refine PySem.W.cmp_K hr.units0 hF I.ok.mod.kin J (hy.look I ry) hn hs hf ?_
  refine wpAny_mono (run_fnA (vs := [.ref a, y]) F I.ok.frames hr I (.cons rfl (.cons ry .nil)) q) (fun w s' z => ?_) fun _ _ x => x
  obtain ⟨z', H', I', rz, b, rfl, qz⟩ := z
  obtain rfl : w = Value.bool b := rz
  exact ⟨.bl b, H', I', rfl, by rw [Bool.false_xor] at qz; exact qz⟩
theorem op_ownNe {C g : Addr} {sp : Sp} (hs : PySem.W.findIn X.K (.ref C) "__eq__" = some (some (.ref g))) (hf : PySem.W.isFn X.K (.ref g) = true) (hne : PySem.W.findIn X.K (.ref C) "__ne__" = some (some (.builtin "object.__ne__"))) (hm : PySem.W.mroIn X.K C (.type "object") = some true)
    (hi : PySem.W.notFirst X.K C (.type "int") = true) (hst : PySem.W.notFirst X.K C (.type "str") = true)
    (F : FnR X.prog X.w X.K X.mg X.base CX0 k g sp) (hr : Room (k + 1) X.A) : OpR X (compareOp .NotEq) (rOwnEq C sp true) := by
  intro pins s σ H x y v u Q I rx ry h
  obtain ⟨a, dx, fs, tb, rfl, ha, hy, q⟩ := h
  cases (show v = Value.ref a from rx)
  obtain ⟨mA, M, _⟩ := ins_get I.hok ha
  obtain ⟨od, J, _⟩ := M.look
  have hn : PySem.W.notFirst X.K C tb = true := by
    cases hy with
    | ins _ => unfold PySem.W.notFirst; simp
    | int _ => exact hi
    | str _ => exact hst
  have one : wpAny (model X.prog X.w) X.A (tryCompare (.ref a) "__ne__" u) (fun r s' => ∃ v, r = some v ∧ EP X pins σ Q v s') X.xe s := by
    unfold tryCompare
    have hc : wpAny (model X.prog X.w) X.A (call (.builtin "object.__ne__") [.ref a, u]) (fun v s' => ∃ b, v = .bool b ∧ EP X pins σ Q (.bool b) s') X.xe s := by
      refine wpAny_call (codeAny_call_builtin PySem.F.cmp_object.ne.plain PySem.F.cmpEntry_ne (PySem.W.check_slot PySem.F.cmpKind_ne PySem.F.cmpSplit_ne (J.type.andThen (PySem.W.looks_mroIn I.kIn hm)) (PySem.F.cmpArgs_ne _ _) ?_))
      unfold Builtin.«object.__ne__»
      refine wpAny_bind (m := slotArgs "__ne__" 1 _) (wpAny_pure ?_)
      refine wpAny_bind (m := cRoomFor _ _) (wpAny_cRoomFor (by have := hr.un; show X.A.units + 1 < cLine; omega) ?_)
      refine wpAny_bind (m := callSpecialIfBound? (.ref a) (Str.ofString "__eq__") [u]) (PySem.W.ifBound_K I.kIn J hs hf (wpAny_mono (run_fnA (A' := X.A.in1) (vs := [.ref a, y]) F I.ok.frames hr.in1 I (.cons rfl (.cons ry .nil)) q) (fun w s' z => ?_) fun _ _ x => x))
      obtain ⟨z', H', I', rz, b, rfl, qz⟩ := z
      obtain rfl : w = Value.bool b := rz
      refine wpAny_bind (m := truthy (.bool b)) (wpAny_truthy_bool (wpAny_pure ⟨_, rfl, .bl (!b), H', I', rfl, by rw [Bool.true_xor] at qz; exact qz⟩))
    refine wpAny_bind (m := callSpecialIfBound? (.ref a) (Str.ofString "__ne__") [u]) ?_
    simp only [callSpecialIfBound?, bindSpecialIfBound?]
    refine wpAny_holding (wpAny_bind (wpAny_bind (wpAny_bind (J.type.here ((PySem.W.looks_findIn I.kIn hne).here ?_)))))
    simp only [PySem.F.cmp_object.ne.bind]
    refine wpAny_bind (wpAny_askSetting (wpAny_ite ?_))
    have fin : ∀ {Q' : Option Value → Shared → Prop}, (∀ b s', EP X pins σ Q (.bool b) s' → Q' (some (.bool b)) s') → wpAny (model X.prog X.w) X.A (call (.builtin "object.__ne__") ([.ref a] ++ [u]) >>= fun v => pure (some v)) Q' X.xe s := fun {Q'} hq => wpAny_bind (wpAny_mono hc (fun v s' ⟨b, e, h'⟩ => by subst e; exact wpAny_pure (hq b s' h')) fun _ _ h' => h')
    split
    · exact wpAny_bind (wpAny_pure (wpAny_pure (fin fun b s' h' => wpAny_pure ⟨_, rfl, h'⟩)))
    · exact wpAny_tryCatch (wpAny_bind (wpAny_pure (wpAny_pure (fin fun b s' h' => wpAny_pure ⟨_, rfl, h'⟩))))
  have apart : (Value.ref C != tb) = true → PySem.W.subIn X.K tb (.ref C) = some false := fun z => by
    rcases Bool.or_eq_true_iff.mp hn with y | y
    · exact absurd (beq_iff_eq.mp y) (by intro e; rw [e] at z; simp at z)
    · exact beq_iff_eq.mp y
  show wpAny _ _ (richCompare .NotEq (.ref a) u) _ _ _
  simp only [richCompare, oneThing_ref, cmpInfo_NotEq]
  refine wpAny_holding (wpAny_bind (wpAny_cRoomFor hr.units0 (wpAny_bind (J.type.here (wpAny_bind ((hy.look I ry).here ?_))))))
  by_cases z : (Value.ref C != tb) = true
  · rw [if_pos z]
    exact wpAny_bind ((PySem.W.looks_subIn I.kIn (apart z)).here (wpAny_bind (wpAny_mono one (fun _ _ ⟨_, e, y⟩ => by subst e; exact wpAny_pure y) fun _ _ y => y)))
  · rw [if_neg z]
    first
      | exact wpAny_bind (wpAny_pure (wpAny_bind (wpAny_mono one (fun _ _ ⟨_, e, y⟩ => by subst e; exact wpAny_pure y) fun _ _ y => y)))
      | exact wpAny_bind (wpAny_mono one (fun _ _ ⟨_, e, y⟩ => by subst e; exact wpAny_pure y) fun _ _ y => y)
/-- str(x) by the own __str__ -/
theorem call_strO {C g : Addr} {sp : Sp} (hs : PySem.W.findIn X.K (.ref C) "__str__" = some (some (.ref g))) (hf : PySem.W.isFn X.K (.ref g) = true) (F : FnR X.prog X.w X.K X.mg X.base CX0 k g sp) (hr : Room (k + 2) X.A) :
    CallR X (.type "str") (fun us H Q => ∃ a dx fs, us = [.ref a] ∧ H a = some (.ins C dx fs) ∧ sp [.ref a] H (fun v H' => ∃ t, v = .str t ∧ Q (.str t) H') E0) := by
  rintro pins s σ H _ us Q I r ⟨a, dx, fs, rfl, ha, q⟩
  rcases vals1 r with ⟨_, rfl, rfl⟩
  have M := (ins_get I.hok ha).choose_spec.1
  obtain ⟨od, It, _⟩ := M.look
  refine PySem.W.kso_call (by have := hr.un; show X.A.units + 1 + 1 < cLine; omega) I.kIn It hs hf ?_
  refine wpAny_mono (run_fnA (A' := X.A.in1.in1) (vs := [.ref a]) F I.ok.frames hr.in1.in1 I (.cons rfl .nil) q) (fun w s' z => ?_) fun _ _ x => x
  obtain ⟨z', H', I', rz, t, rfl, qz⟩ := z
  obtain ⟨tk, rfl⟩ := rz
  exact ⟨.str t, H', I', ⟨tk, rfl⟩, qz⟩
end
end L2

/-! x op y, x == y, o.m(y): y a value of a built-in type; the own method may raise. -/
namespace PySem.W
open Lean Elab Tactic Meta PySem PySem.Calls PyProof.Rows
section
variable {prog : Program} {w : World} {A : Around} {E : Value → Shared → Prop} {s : Shared} {K : Frag} {x C L f : Addr} {h₀ : Heap} {m : Str → Option Value} {ox : Obj} {od : Option Obj} {T : String}
theorem bin_oth {op : Operator} {b : Value} {fo ro : Option Value} {Q : Value → Shared → Prop} (R : Fr h₀ L s.heap m) (KI : K.In h₀) (I : InstAt s.heap x ox C od) (hb : Looks (model prog w) s.heap (typeOf b) (.type T)) (first : selfFirst K C = true)
    (meth : findIn K (.ref C) (PySem.dunder op.info.2) = some (some (.ref f))) (fn : isFn K (.ref f) = true) (refl : findIn K (.ref C) (dunderR op.info.2) = some none)
    (to : findIn K (.type T) (PySem.dunder op.info.2) = some fo) (tr : findIn K (.type T) (dunderR op.info.2) = some ro) (sub : subIn K (.type T) (.ref C) = some false)
    (go : wpAny (model prog w) A (call (.ref f) [.ref x, b]) (CmpBack Q) E s) : wpAny (model prog w) A (binaryOp op (.ref x) b) Q E s := by
  have KX := KI.keeps R.keep
  obtain ⟨cd, rest, c1, c2⟩ := ksp_first first
  rcases hop : op.info with ⟨sy, n⟩
  rw [hop] at meth refl to tr
  have tried := ksp_try KX I meth fn go
  obtain ⟨hp, gs, dr, tk, os⟩ := s
  have T1 : Looks (model prog w) hp (typeOf (.ref x)) (.ref C) := I.type
  have T2 : Looks (model prog w) hp (typeOf b) (.type T) := hb
  have F1 : Looks (model prog w) hp (fillsNumberSlot (.ref C) n) true := fills_K KX c1 c2 meth
  obtain ⟨rt, F2⟩ : ∃ rt, Looks (model prog w) hp (fillsNumberSlot (.type T) n) rt := ⟨_, ksp_fillsT KX to tr⟩
  have S1 : Looks (model prog w) hp (isSubtype (.type T) (.ref C)) false := looks_subIn KX sub
  have P1 : Looks (model prog w) hp (numberSlotInPython (.ref C) n) true := ksp_inPy KX meth refl (.inl rfl)
  have P2 : Looks (model prog w) hp (numberSlotInPython (.type T) n) false := Looks.of_pure rfl
  have R1 : Looks (model prog w) hp (typeLookup (.type T) (dunderR n)) ro := looks_findIn KX tr
  have other : (Value.ref C == Value.type T) = false := by
    refine Bool.eq_false_iff.mpr fun z => ?_
    cases beq_iff_eq.mp z
  simp only [binaryOp, hop]
  refine wpAny_holding ?_
  refine wpAny_bind ?_
  unfold binaryOp1
  refine wpAny_bind (T1.at ?_)
  refine wpAny_bind (T2.at ?_)
  refine wpAny_bind (F1.at ?_)
  simp only [other, Bool.false_eq_true, if_false]
  cases rt
  all_goals
    ksp_lk
    refine wpAny_mono tried ?_ (fun _ _ z => z)
    rintro r s' ⟨v, rfl, q⟩
    ksp_lk
    exact q
end
end PySem.W
namespace L2
open PySem PySem.Spec PyProof.Rows
/-- a value of a built-in type other than int, and the type's name -/
inductive OddV (H : Hp) : V → String → Prop where
  | non : OddV H .non "NoneType"
  | bl (b : Bool) : OddV H (.bl b) "bool"
  | str (x : Str) : OddV H (.str x) "str"
  | lst {a : Addr} {xs : List V} (e : H a = some (.lst xs)) : OddV H (.ref a) "list"
  | tup {a : Addr} {xs : List V} (e : H a = some (.tup xs)) : OddV H (.ref a) "tuple"
  | dK {a : Addr} {kvs : List (Key × V)} (e : H a = some (.dK kvs)) : OddV H (.ref a) "dict"
theorem OddV.same {H H' : Hp} {v : V} {T : String} (s : ∀ b o, H b = some o → H' b = some o) (h : OddV H v T) : OddV H' v T := by
  cases h with
  | non => exact .non
  | bl b => exact .bl b
  | str x => exact .str x
  | lst e => exact .lst (s _ _ e)
  | tup e => exact .tup (s _ _ e)
  | dK e => exact .dK (s _ _ e)
theorem OddV.ty {K : PySem.W.Frag} {H : Hp} {v : V} {T : String} (h : OddV H v T) : TyX K H v (.type T) := by
  cases h with
  | non => exact .base .non
  | bl b => exact .base (.bl b)
  | str x => exact .base (.str x)
  | lst e => exact .base (.lst e)
  | tup e => exact .base (.tup e)
  | dK e => exact .base (.dK e)
/-- of a class of the text: no built-in type is below it -/
structure TyC (K : PySem.W.Frag) (C : Addr) (T : String) : Prop where
  kit : PySem.W.kitOne K (.type T) (.ref C) = some false
  sub : PySem.W.subIn K (.type T) (.ref C) = some false
structure OddC (K : PySem.W.Frag) (C : Addr) : Prop where
  non : TyC K C "NoneType"
  bl : TyC K C "bool"
  str : TyC K C "str"
  lst : TyC K C "list"
  tup : TyC K C "tuple"
  dK : TyC K C "dict"
theorem OddV.tyc {K : PySem.W.Frag} {C : Addr} {H : Hp} {v : V} {T : String} (h : OddV H v T) (c : OddC K C) : TyC K C T := by
  cases h with
  | non => exact c.non
  | bl b => exact c.bl
  | str x => exact c.str
  | lst e => exact c.lst
  | tup e => exact c.tup
  | dK e => exact c.dK
theorem OddV.notFirst {K : PySem.W.Frag} {C : Addr} {H : Hp} {v : V} {T : String} (h : OddV H v T) (c : OddC K C) : PySem.W.notFirst K C (.type T) = true := by
  unfold PySem.W.notFirst
  rw [(h.tyc c).sub]
  simp
/-- what a type says of an operator's names -/
def TyOp (K : PySem.W.Frag) (op : Operator) (T : String) : Prop := ∃ fo ro, PySem.W.findIn K (.type T) (PySem.dunder op.info.2) = some fo ∧ PySem.W.findIn K (.type T) (dunderR op.info.2) = some ro
theorem tyop {K : PySem.W.Frag} {op : Operator} (ho : op = .Add ∨ op = .Sub ∨ op = .Mult) {H : Hp} {v : V} {T : String} (h : OddV H v T) : TyOp K op T := by
  rcases ho with rfl | rfl | rfl <;> cases h <;> exact ⟨_, _, rfl, rfl⟩
section
variable {X : Cx} {CX : CXT} {k : Nat} {C g : Addr} {sp : Sp} {fd : FuncData} {ps : List Str} {E : XK} {a b : Expr} {ta tb : TE} {pos : Pos}
def tBinX (C : Addr) (sp : Sp) (E : XK) (ta tb : TE) : TE := fun σ H Q => ta σ H fun x H1 => tb σ H1 fun y H2 => ∃ a dx fs T, x = .ref a ∧ H2 a = some (.ins C dx fs) ∧ OddV H2 y T ∧ sp [x, y] H2 Q E
/-- a op b by the own method, which may raise -/
theorem pe_binX {op : Operator} (ho : op = .Add ∨ op = .Sub ∨ op = .Mult) (oc : OddC X.K C) (hc : PySem.W.selfFirst X.K C = true) (hs : PySem.W.findIn X.K (.ref C) (PySem.dunder op.info.2) = some (some (.ref g))) (hf : PySem.W.isFn X.K (.ref g) = true)
    (hr2 : PySem.W.findIn X.K (.ref C) (dunderR op.info.2) = some none) (F : FnG X.prog X.w X.K X.mg X.base CX k g fd ps sp) (gd : X.A.guards = some []) (hr : Room k X.A) (hb : Binds X.K fd ps []) (hx : Passes CX X E) (ha : PE X a ta) (hbb : PE X b tb) :
    PE X (.BinOp a op b pos) (tBinX C sp E ta tb) := by
  refine ⟨fun pins s σ H Q I h => ?_⟩
  refine wpAny_BinOp (binT ha hbb I (R := fun x y H2 => ∃ a dx fs T, x = .ref a ∧ H2 a = some (.ins C dx fs) ∧ OddV H2 y T ∧ sp [x, y] H2 Q E) h fun v u s2 x y H2 I2 rx ry q => ?_)
  obtain ⟨a0, dx, fs, T, rfl, h0, od, q⟩ := q
  cases (show v = Value.ref a0 from rx)
  obtain ⟨mA, M, _⟩ := ins_get I2.hok h0
  obtain ⟨oD, J, _⟩ := M.look
  obtain ⟨m, hF⟩ := I2.fr
  obtain ⟨PP, KX, pp, _⟩ := kit_of I2 ry (od.ty (K := X.K))
  obtain ⟨fo, ro, t1, t2⟩ := tyop (K := X.K) ho od
  refine PySem.W.bin_oth hF I2.ok.mod.kin J (KX.ty _ _ I2.kIn pp) hc hs hf hr2 t1 t2 (od.tyc oc).sub ?_
  have q' : sp ([.ref a0, y] ++ []) H2 Q E := by rw [List.append_nil]; exact q
  refine wpAny_mono (run_fnG (vs := [.ref a0, y]) (us := [.ref a0, u]) F gd hr hb .nil hx I2 (.cons rfl (.cons ry .nil)) q') (fun w s' z => ?_) fun _ _ x => x
  obtain ⟨z', H', I', rz, qz⟩ := z
  exact SlX.cmpback rz ⟨z', H', I', rz, qz⟩
/-- x == y, y of a built-in type -/
theorem op_eqOdd (oc : OddC X.K C) (hs : PySem.W.findIn X.K (.ref C) "__eq__" = some (some (.ref g))) (hf : PySem.W.isFn X.K (.ref g) = true) (F : FnR X.prog X.w X.K X.mg X.base CX0 k g sp) (hr : Room k X.A) :
    OpR X (compareOp .Eq) (fun x y H Q => ∃ a dx fs T, x = .ref a ∧ H a = some (.ins C dx fs) ∧ OddV H y T ∧ sp [x, y] H (fun v H' => ∃ b, v = .bl b ∧ Q (.bl b) H') E0) := by
  intro pins s σ H x y v u Q I rx ry h
  obtain ⟨a, dx, fs, T, rfl, ha, od, q⟩ := h
  cases (show v = Value.ref a from rx)
  obtain ⟨mA, M, _⟩ := ins_get I.hok ha
  obtain ⟨oD, J, _⟩ := M.look
  obtain ⟨m, hF⟩ := I.fr
  obtain ⟨PP, KX, pp, _⟩ := kit_of I ry (od.ty (K := X.K))
  show wpAny _ _ (richCompare .Eq (.ref a) u) _ _ _
  refine PySem.W.cmp_K hr.units0 hF I.ok.mod.kin J (KX.ty _ _ I.kIn pp) (od.notFirst oc) hs hf ?_
  refine wpAny_mono (run_fnA (vs := [.ref a, y]) F I.ok.frames hr I (.cons rfl (.cons ry .nil)) q) (fun w s' z => ?_) fun _ _ x => x
  obtain ⟨z', H', I', rz, b, rfl, qz⟩ := z
  obtain rfl : w = Value.bool b := rz
  exact ⟨.bl b, H', I', rfl, qz⟩
end
end L2

/-! def f(cls, *v) that may raise, where no repr is under way; C.m(..) by it, and C.m(). -/
namespace L2
open PySem PySem.Spec PyProof.Rows
def FnRG (P : Program) (w : World) (K : PySem.W.Frag) (mg : Str → Option Value) (base : Heap) (CX : CXT) (k : Nat) (f : Addr) (sp : Sp) : Prop :=
  ∀ (A : Around) (outer : List Env) (s : Shared) (H : Hp) (us : List Value) (vs : List V) (Q : VK) (E : XK), A.guards = some [] → Room k A → Env0 P w K mg base A outer s H → Vals vs us → sp vs H Q E → codeAny (model P w) A (.call (.ref f) ⟨us, []⟩) (CR CX outer P w H s Q E) s
section
variable {P : Program} {w : World} {K : PySem.W.Frag} {mg : Str → Option Value} {base : Heap} {CX : CXT} {k : Nat} {f : Addr} {N ps : List Str} {sp : Sp} {oc dV kV doc pm cdv ct : Value} {od an : Option Addr} {osl : Array (Option Value)} {nm ql : Str} {pr : Arguments} {bd : List Stmt} {sc : Scope}
theorem fn_starG {pv : Str} (L : K.lookup f = some ⟨oc, od, .func (PySem.W.fnOf nm ql pr bd sc dV kV doc pm an cdv ct), osl⟩) (cd : PySem.W.codeIn K cdv ql = true) (S : FnScope N (ps ++ [pv]) sc) (up : StX.CXUp CX)
    (bind : ∀ us more : List Value, us.length = ps.length → bindArgs (PySem.W.fnOf nm ql pr bd sc dV kV doc pm an cdv ct) ⟨us ++ more, []⟩ = (newTuple more >>= fun t => pure (ps.zip us ++ [(pv, t)])))
    (run : ∀ (A : Around) (outer : List Env) (s : Shared) (H : Hp) (vs : List V) (Q : VK) (E : XK), A.guards = some [] → Room k (A.deeper (envOfC ql sc s.heap.objs.size f cdv)) → sp vs H Q E → ∃ t, PSs (cxOf CX P w K mg base N ql sc f cdv A outer s H E) bd t ∧ t { nx := fun _ H' => Q .non H', rt := Q } (start N vs) H) :
    FnRG P w K mg base CX (k + 1) f (fun vs H Q E => ∃ ws more, vs = ws ++ more ∧ ws.length = ps.length ∧ more.length ≤ sizeLine ∧ ∀ p, H p = Option.none → sp (ws ++ [V.ref p]) (upd H p (.tup more)) Q E) := by
  rintro A outer s H us _ Q E gd hr e0 r ⟨ws, more, rfl, hl, hz, hq⟩
  obtain ⟨a1, a2, rfl, q1, q2⟩ := StX.vals_split r
  have free : H s.heap.objs.size = Option.none := e0.hok.fresh (Nat.le_refl _)
  have n1 : a1.length = ps.length := q1.length.symm.trans hl
  have n2 : a2.length ≤ sizeLine := by
    have := q2.length
    omega
  refine StX.run_bnd L cd S hr e0 (G := fun xs H2 => ∃ p, H p = Option.none ∧ xs = ws ++ [V.ref p] ∧ H2 = upd H p (.tup more)) (fun A' Ex Q' h => ?_) ?_
  · rw [bind a1 a2 n1]
    refine wpAny_bind ?_
    refine wpAny_newTuple (wpAny_pure ?_) n2
    have ok : ObjOk P w (upd H s.heap.objs.size (.tup more)) (s.heap.push ({ cls := .type "tuple", data := .seq a2.toArray } : Obj)) s.heap.objs.size (.tup more) :=
      ⟨hz, a2, q2, ⟨_, Heap.get?_push_size _ rfl, rfl, _, rfl⟩⟩
    have un := StX.un_laid (fs := frs outer) (s := s) (o := ({ cls := .type "tuple", data := .seq a2.toArray } : Obj)) (u := .tup more) free
    have keep : ∀ b o, s.heap.get? b = some o → (s.heap.push ({ cls := .type "tuple", data := .seq a2.toArray } : Obj)).get? b = some o := fun b o q => Heap.get?_push_of_some _ q
    have len : (ws ++ [V.ref s.heap.objs.size]).length = (ps ++ [pv]).length := by
      rw [List.length_append, List.length_append, hl]
      rfl
    have z := h _ _ (ws ++ [V.ref s.heap.objs.size]) (a1 ++ [Value.ref s.heap.objs.size]) (StX.env0_laid e0 ok) un rfl (fun e s' => up outer s H _ _ E e s' un keep rfl) (q1.append (.cons rfl .nil)) len ⟨_, free, rfl, rfl⟩
    rw [List.zip_append n1.symm] at z
    exact z
  · rintro s2 _ _ ⟨p, hp, rfl, rfl⟩ hr'
    exact run A outer s2 _ _ Q E gd hr' (hq p hp)
end
section
variable {X : Cx} {CX : CXT} {k : Nat} {C p g : Addr} {mc : Value} {sp : Sp} {E : XK} {o e : Expr} {es : List Expr} {m : Str} {pos apos : Pos} {ta : TE} {t : TA} {pl : Sem Bool}
end
theorem PE.or {X : Cx} {e : Expr} {t t' : TE} (h : PE X e t) (h' : PE X e t') : PE X e (fun σ H Q => t σ H Q ∨ t' σ H Q) := ⟨fun pins s σ H Q I q => q.elim (h.run pins s σ H Q I) (h'.run pins s σ H Q I)⟩
end L2

/-! Rules beside the layer: t[::-1], x op y and -x by own methods. -/
namespace HT
open PySem PySem.Spec PyProof.Rows
section
variable {prog : Program} {w : World} {A : Around} {E : Value → Shared → Prop} {s : Shared}
theorem fm_congr {α β : Type} {f g : α → Option β} : ∀ (l : List α), (∀ x ∈ l, f x = g x) → l.filterMap f = l.filterMap g
  | [], _ => rfl
  | a :: t, h => by
    rw [List.filterMap_cons, List.filterMap_cons, h a (by simp), fm_congr t (fun x hx => h x (by simp [hx]))]
theorem getItem_tuple_rev {t sl : Addr} {items : Array Value} {vs : Value} {Q : Value → Shared → Prop} (ht : IsTup s.heap t items) (hs : s.heap.IsSliceOf sl .none .none vs) (ps : IsPart vs (some (-1)))
    (h : Q (.ref s.heap.objs.size) { s with heap := s.heap.push { cls := .type "tuple", data := .seq items.toList.reverse.toArray } })
    (hsz : items.size ≤ sizeLine) : wpAny (model prog w) A (getItem (.ref t) (.ref sl)) Q E s := by
  have htake : sizeOk (.seq items.toList.reverse.toArray) := by simpa [sizeOk] using hsz
  rcases id hs with ⟨os, hos, hcs, hds⟩
  have kind : s.TypeIs (.ref sl) "slice" := ⟨os, hos, hcs⟩
  have three : ∀ {A' : Around} {R : Value × Value × Value → Shared → Prop} {E' : Value → Shared → Prop}, R (.none, .none, vs) s → wpAny (model prog w) A' (Builtin.Slice.sliceFields (.ref sl)) R E' s := fun z => wpAny_bind (wpAny_field hos hds (x := .none) rfl (wpAny_bind (wpAny_field hos hds (x := .none) rfl (wpAny_bind (wpAny_field hos hds (x := vs) rfl (wpAny_pure z))))))
  unfold getItem
  try with_reducible refine wpAny_holding ?_
  first | refine wpAny_bind (wpAny_pure ?_) | skip
  refine wpAny_bind (wpAny_sequenceKey ht.typeIs (by decide) (wpAny_bind (wpAny_callSpecial?_slot (name := Str.ofString "__getitem__") ht.typeIs PyProof.Rows.slot_tuple_getitem (wpAny_call_entry PyProof.Rows.slot_tuple_getitem ht.typeIs entry_tuple_getitem ?_ (args_tuple_getitem _ _)))))
  change wpAny _ _ (Builtin.Tuple.tupleItemsOf (.ref t) >>= _) _ _ s
  refine wpAny_bind (tupleItemsOf_ ht (wpAny_bind (wpAny_typeOf kind ?_)))
  rw [if_pos (by decide)]
  unfold Builtin.Slice.sliceApplied
  refine wpAny_bind (wpAny_bind (three (wpAny_bind (slicePart_ ps ?_))))
  change wpAny _ _ (if ((-1 : Int) == 0) = true then _ else _) _ _ s
  rw [if_neg (by decide)]
  refine wpAny_bind (slicePart_none (wpAny_bind (slicePart_none (wpAny_bind (wpAny_pure ?_)))))
  have hadj : Builtin.Slice.sliceAdjust none none (-1) (items.size : Int) = ((items.size : Int) - 1, -1) := rfl
  have hpl : Builtin.Slice.slicePlaces ((items.size : Int) - 1) (-1) (-1) = items.size := by
    unfold Builtin.Slice.slicePlaces
    have h1 : ¬ ((-1 : Int) > 0) := by omega
    simp only [h1, if_false]
    split
    · have e : ((items.size : Int) - 1 - -1 - 1) / (- -1) = (items.size : Int) - 1 := by
        rw [show (- -1 : Int) = 1 by decide, Int.ediv_one]; omega
      rw [e]; omega
    · omega
  show wpAny _ _ (match Builtin.Slice.sliceAdjust none none (-1) (items.size : Int) with | (lo, hi) => pure (lo, (-1 : Int), Builtin.Slice.slicePlaces lo hi (-1))) _ _ s
  rw [hadj]
  show wpAny _ _ (pure ((items.size : Int) - 1, (-1 : Int), Builtin.Slice.slicePlaces ((items.size : Int) - 1) (-1) (-1))) _ _ s
  rw [hpl]
  refine wpAny_pure ?_
  have hno : ¬ ((((items.size : Int) - 1) == 0 && (-1 : Int) == 1 && items.size == items.size) = true) := by
    intro q
    rw [Bool.and_eq_true, Bool.and_eq_true] at q
    exact absurd q.1.2 (by decide)
  show wpAny _ _ (if (((items.size : Int) - 1) == 0 && (-1 : Int) == 1 && items.size == items.size) = true then _ else _) _ _ s
  rw [if_neg hno]
  have hpick : ((List.range items.size).filterMap fun (k : Nat) => items[((items.size : Int) - 1 + (k : Int) * -1).toNat]?).toArray = items.toList.reverse.toArray := by
    congr 1
    have e : (List.range items.size).filterMap (fun (k : Nat) => items[((items.size : Int) - 1 + (k : Int) * -1).toNat]?) = ((List.range items.size).map fun k => items.size - 1 - k).filterMap (items[·]?) := by
      rw [List.filterMap_map]
      refine fm_congr _ fun k hk => ?_
      have := List.mem_range.mp hk
      have e2 : ((items.size : Int) - 1 + (k : Int) * -1).toNat = items.size - 1 - k := by omega
      show _ = items[items.size - 1 - k]?
      rw [e2]
    rw [e, PySem.W.krv_range, List.filterMap_reverse, PySem.W.krv_all]
  rw [hpick]
  have made : ∀ {A' : Around} {R : Value → Shared → Prop} {E' : Value → Shared → Prop}, R (.ref s.heap.objs.size) { s with heap := s.heap.push { cls := .type "tuple", data := .seq items.toList.reverse.toArray } } → wpAny (model prog w) A' (Builtin.Tuple.tupleExact items.toList.reverse.toArray) R E' s := fun z => wpAny_newObj_type z htake
  first
    | exact wpAny_bind (made (wpAny_pure ⟨_, rfl, wpAny_pure h⟩))
    | exact wpAny_bind (made ⟨_, rfl, wpAny_pure h⟩)
    | exact wpAny_bind (wpAny_bind (made (wpAny_pure ⟨_, rfl, wpAny_pure h⟩)))
    | exact wpAny_bind (made (wpAny_bind (wpAny_pure ⟨_, rfl, wpAny_pure h⟩)))
end
end HT
namespace L2
open PySem PySem.Spec PyProof.Rows
section
variable {X : Cx}
/-- t[::-1], t a tuple -/
def tRevT (K : PySem.W.Frag) (te : TE) : TE := fun σ H Q => te σ H fun x H1 => ∃ a xs, x = .ref a ∧ SqT K H1 a xs ∧ ∀ p, H1 p = none → Q (.ref p) (upd H1 p (.tup xs.reverse))
theorem pe_revT {e : Expr} {te : TE} {k : Nat} {p1 p2 p3 pos : Pos} (he : PE X e te) : PE X (.Subscript e (.Slice none none (some (.UnaryOp .USub (.Constant (.int 1) k p1) p2)) p3) pos) (tRevT X.K te) := by
  constructor
  intro pins s0 σ H W J w
  have back : PO X (some (.UnaryOp .USub (.Constant (.int 1) k p1) p2)) (tPart (tUn (rU fun i => .int (-i)) (tC (.int 1)))) := po_some (pe_un un_neg pe_int)
  refine Subscript_ (thn (he.run pins s0 σ H _ J w) ?_)
  rintro _ s1 ⟨_, H1, J1, rel, a, xs, rfl, tup, w1⟩
  cases rel
  refine wpAny_Slice (thn (po_none.run pins s1 σ H1 (fun o G => o = none ∧ G = H1) J1 ⟨rfl, rfl⟩) ?_)
  rintro _ s2 ⟨_, _, J2, n2, rfl, rfl⟩
  refine thn (po_none.run pins s2 σ _ (fun o G => o = none ∧ G = _) J2 ⟨rfl, rfl⟩) ?_
  rintro _ s3 ⟨_, _, J3, n3, rfl, rfl⟩
  refine thn (back.run pins s3 σ _ (fun o G => o = some (-1) ∧ G = _) J3 ⟨1, rfl, -1, rfl, rfl, rfl⟩) ?_
  rintro step s4 ⟨_, _, J4, part, rfl, rfl⟩
  cases n2
  cases n3
  have J5 := J4.kept (t' := s4.toks) (h' := s4.heap.push { cls := .type "slice", data := .fields #[.none, .none, step] }) fun _ _ z => Heap.get?_push_of_some _ z
  obtain ⟨its, vals, isTup, line⟩ := J5.tuple tup
  have many : its.toArray.size ≤ sizeLine := by
    rw [List.size_toArray, ← vals.length]
    exact line
  change wpAny (model X.prog X.w) X.A (subscriptTail e (.Slice none none (some (.UnaryOp .USub (.Constant (.int 1) k p1) p2)) p3) (.ref a) (.ref s4.heap.objs.size)) (EP X pins σ W) X.xe { s4 with heap := s4.heap.push { cls := .type "slice", data := .fields #[.none, .none, step] } }
  refine tail_any (ops := [.ref a, .ref s4.heap.objs.size]) isTup.typeIs (PyProof.Rows.slot_tuple_getitem.lookup) (HT.getItem_tuple_rev isTup (Heap.IsSliceOf.new _ .none .none step) part ?_ many) (by with_unfolding_all rfl)
  have laid := J5.laid (t' := s4.toks) (o := .tup xs.reverse) (fun _ _ z => Heap.get?_push_of_some _ z) (Nat.le_refl _) ⟨by rw [List.length_reverse]; exact line, _, vals.reverse, IsTup.new _ _⟩
  exact ⟨.ref _, _, laid, rfl, w1 _ (J5.hok.fresh (Nat.le_refl _))⟩
/-! ### own operators -/
section
variable {CX : CXT} {n : Nat} {C g : Addr} {sp : Sp} {E : XK}
/-- x op y, both instances of the class at C, whose def for op is at g -/
def rOwnB (C : Addr) (sp : Sp) (E : XK) : R2 := fun x y H Q => ∃ a dx fs b dy gs, x = .ref a ∧ y = .ref b ∧ H a = some (.ins C dx fs) ∧ H b = some (.ins C dy gs) ∧ sp [x, y] H Q E
theorem op_ownB {op : Operator} (hc : PySem.W.selfFirst X.K C = true) (hs : PySem.W.findIn X.K (.ref C) (PySem.dunder op.info.2) = some (some (.ref g))) (hf : PySem.W.isFn X.K (.ref g) = true) (F : FnR X.prog X.w X.K X.mg X.base CX n g sp)
    (hr : Room n X.A) (hx : Passes CX X E) : OpR X (binaryOp op) (rOwnB C sp E) := by
  intro pins s σ H x y v u Q I rx ry h
  obtain ⟨a, dx, fs, b, dy, gs, rfl, rfl, ha, hb, q⟩ := h
  cases (show v = Value.ref a from rx)
  cases (show u = Value.ref b from ry)
  obtain ⟨mA, M, _⟩ := ins_get I.hok ha
  obtain ⟨mB, M', _⟩ := ins_get I.hok hb
  obtain ⟨od, J, _⟩ := M.look
  obtain ⟨od', J', _⟩ := M'.look
  obtain ⟨m, hF⟩ := I.fr
  refine PySem.W.binop_K hF I.ok.mod.kin J J'.type hc hs hf ?_
  refine wpAny_mono (wpAny_call (run_fnR (us := [.ref a, .ref b]) (vs := [.ref a, .ref b]) F hr hx I (.cons rfl (.cons rfl .nil)) q)) (fun w s' z => ?_) fun _ _ x => x
  obtain ⟨z', H', I', rz, qz⟩ := z
  exact SlX.cmpback rz ⟨z', H', I', rz, qz⟩
/-- -x, x an instance -/
def rOwnU (C : Addr) (sp : Sp) (E : XK) : V → Hp → VK → Prop := fun x H Q => ∃ a dx fs, x = .ref a ∧ H a = some (.ins C dx fs) ∧ sp [x] H Q E
theorem un_own (hs : PySem.W.findIn X.K (.ref C) "__neg__" = some (some (.ref g))) (hf : PySem.W.isFn X.K (.ref g) = true) (F : FnR X.prog X.w X.K X.mg X.base CX n g sp)
    (hr : Room n X.A) (hx : Passes CX X E) : UnR X (unaryOp .USub) (rOwnU C sp E) := by
  intro pins s σ H x v Q I rx h
  obtain ⟨a, dx, fs, rfl, ha, q⟩ := h
  cases (show v = Value.ref a from rx)
  obtain ⟨mA, M, _⟩ := ins_get I.hok ha
  obtain ⟨od, J, _⟩ := M.look
  unfold unaryOp
  refine wpAny_holding ?_
  show wpAny _ _ (if (UnaryOp.USub == UnaryOp.Not) = true then _ else _) _ _ s
  rw [if_neg (by decide)]
  refine wpAny_bind (m := callSpecial? (.ref a) "__neg__") (PySem.W.special_fn I.kIn J hs (beq_iff_eq.mp hf) ?_)
  refine wpAny_mono (wpAny_call (run_fnR (us := [.ref a]) (vs := [.ref a]) F hr hx I (.cons rfl .nil) q)) (fun w s' z => ?_) fun _ _ x => x
  exact wpAny_pure z
end
end
end L2

/-! x op y: y an instance of another class; C(e, ..) by an __init__ with *args that may raise, where no repr is under way. -/
namespace PySem.W
open Lean Elab Tactic Meta PySem PySem.Calls PyProof.Rows
section
variable {prog : Program} {w : World} {A : Around} {E : Value → Shared → Prop} {s : Shared} {K : Frag} {x C D L f g : Addr} {h₀ : Heap} {m : Str → Option Value} {ox : Obj} {od : Option Obj}
theorem bin_ref {op : Operator} {b : Value} {Q : Value → Shared → Prop} (R : Fr h₀ L s.heap m) (KI : K.In h₀) (I : InstAt s.heap x ox C od) (hb : Looks (model prog w) s.heap (typeOf b) (.ref D)) (ne : C ≠ D) (first : selfFirst K C = true) (first2 : selfFirst K D = true)
    (meth : findIn K (.ref C) (PySem.dunder op.info.2) = some (some (.ref f))) (fn : isFn K (.ref f) = true) (refl : findIn K (.ref C) (dunderR op.info.2) = some none)
    (meth2 : findIn K (.ref D) (PySem.dunder op.info.2) = some (some (.ref g))) (refl2 : findIn K (.ref D) (dunderR op.info.2) = some none) (sub : subIn K (.ref D) (.ref C) = some false)
    (go : wpAny (model prog w) A (call (.ref f) [.ref x, b]) (CmpBack Q) E s) : wpAny (model prog w) A (binaryOp op (.ref x) b) Q E s := by
  have KX := KI.keeps R.keep
  obtain ⟨cd, rest, c1, c2⟩ := ksp_first first
  obtain ⟨cd2, rest2, d1, d2⟩ := ksp_first first2
  rcases hop : op.info with ⟨sy, n⟩
  rw [hop] at meth refl meth2 refl2
  have tried := ksp_try KX I meth fn go
  obtain ⟨hp, gs, dr, tk, os⟩ := s
  have T1 : Looks (model prog w) hp (typeOf (.ref x)) (.ref C) := I.type
  have T2 : Looks (model prog w) hp (typeOf b) (.ref D) := hb
  have F1 : Looks (model prog w) hp (fillsNumberSlot (.ref C) n) true := fills_K KX c1 c2 meth
  have F2 : Looks (model prog w) hp (fillsNumberSlot (.ref D) n) true := fills_K KX d1 d2 meth2
  have S1 : Looks (model prog w) hp (isSubtype (.ref D) (.ref C)) false := looks_subIn KX sub
  have P1 : Looks (model prog w) hp (numberSlotInPython (.ref C) n) true := ksp_inPy KX meth refl (.inl rfl)
  have P2 : Looks (model prog w) hp (numberSlotInPython (.ref D) n) true := ksp_inPy KX meth2 refl2 (.inl rfl)
  have other : (Value.ref C == Value.ref D) = false := by
    refine Bool.eq_false_iff.mpr fun z => ?_
    cases beq_iff_eq.mp z
    exact ne rfl
  simp only [binaryOp, hop]
  refine wpAny_holding ?_
  refine wpAny_bind ?_
  unfold binaryOp1
  refine wpAny_bind (T1.at ?_)
  refine wpAny_bind (T2.at ?_)
  refine wpAny_bind (F1.at ?_)
  simp only [other, Bool.false_eq_true, if_false]
  ksp_lk
  refine wpAny_mono tried ?_ (fun _ _ z => z)
  rintro r s' ⟨v, rfl, q⟩
  ksp_lk
  exact q
end
end PySem.W
namespace L2
open PySem PySem.Spec PyProof.Rows
section
variable {X : Cx} {CX : CXT} {k : Nat} {C D g g2 : Addr} {sp : Sp} {fd : FuncData} {ps : List Str} {E : XK} {a b : Expr} {ta tb : TE} {pos : Pos}
def tBinY (C D : Addr) (sp : Sp) (E : XK) (ta tb : TE) : TE := fun σ H Q => ta σ H fun x H1 => tb σ H1 fun y H2 => ∃ a dx fs b dy gs, x = .ref a ∧ y = .ref b ∧ H2 a = some (.ins C dx fs) ∧ H2 b = some (.ins D dy gs) ∧ sp [x, y] H2 Q E
/-- a op b by the own method, which may raise; b is an instance of another class -/
theorem pe_binY {op : Operator} (ne : C ≠ D) (hc : PySem.W.selfFirst X.K C = true) (hc2 : PySem.W.selfFirst X.K D = true) (hs : PySem.W.findIn X.K (.ref C) (PySem.dunder op.info.2) = some (some (.ref g))) (hf : PySem.W.isFn X.K (.ref g) = true)
    (hr2 : PySem.W.findIn X.K (.ref C) (dunderR op.info.2) = some none) (hs2 : PySem.W.findIn X.K (.ref D) (PySem.dunder op.info.2) = some (some (.ref g2))) (hr3 : PySem.W.findIn X.K (.ref D) (dunderR op.info.2) = some none) (hsub : PySem.W.subIn X.K (.ref D) (.ref C) = some false)
    (F : FnG X.prog X.w X.K X.mg X.base CX k g fd ps sp) (gd : X.A.guards = some []) (hr : Room k X.A) (hb : Binds X.K fd ps []) (hx : Passes CX X E) (ha : PE X a ta) (hbb : PE X b tb) :
    PE X (.BinOp a op b pos) (tBinY C D sp E ta tb) := by
  refine ⟨fun pins s σ H Q I h => ?_⟩
  refine wpAny_BinOp (binT ha hbb I (R := fun x y H2 => ∃ a dx fs b dy gs, x = .ref a ∧ y = .ref b ∧ H2 a = some (.ins C dx fs) ∧ H2 b = some (.ins D dy gs) ∧ sp [x, y] H2 Q E) h fun v u s2 x y H2 I2 rx ry q => ?_)
  obtain ⟨a0, dx, fs, b0, dy, gs, rfl, rfl, h0, h1, q⟩ := q
  cases (show v = Value.ref a0 from rx)
  cases (show u = Value.ref b0 from ry)
  obtain ⟨mA, M, _⟩ := ins_get I2.hok h0
  obtain ⟨oD, J, _⟩ := M.look
  obtain ⟨mB, M', _⟩ := ins_get I2.hok h1
  obtain ⟨oD', J', _⟩ := M'.look
  obtain ⟨m, hF⟩ := I2.fr
  refine PySem.W.bin_ref hF I2.ok.mod.kin J J'.type ne hc hc2 hs hf hr2 hs2 hr3 hsub ?_
  have q' : sp ([.ref a0, .ref b0] ++ []) H2 Q E := by rw [List.append_nil]; exact q
  refine wpAny_mono (run_fnG (vs := [.ref a0, .ref b0]) (us := [.ref a0, .ref b0]) F gd hr hb .nil hx I2 (.cons rfl (.cons rfl .nil)) q') (fun w s' z => ?_) fun _ _ x => x
  obtain ⟨z', H', I', rz, qz⟩ := z
  exact SlX.cmpback rz ⟨z', H', I', rz, qz⟩
/-- a op b, b an int -/
def tBinI (C : Addr) (sp : Sp) (E : XK) (ta tb : TE) : TE := fun σ H Q => ta σ H fun x H1 => tb σ H1 fun y H2 => ∃ a dx fs i, x = .ref a ∧ y = .int i ∧ H2 a = some (.ins C dx fs) ∧ sp [x, y] H2 Q E
theorem pe_binI {op : Operator} {fo ro : Option Value} (hc : PySem.W.selfFirst X.K C = true) (hs : PySem.W.findIn X.K (.ref C) (PySem.dunder op.info.2) = some (some (.ref g))) (hf : PySem.W.isFn X.K (.ref g) = true)
    (hr2 : PySem.W.findIn X.K (.ref C) (dunderR op.info.2) = some none) (h1 : PySem.W.findIn X.K (.type "int") (PySem.dunder op.info.2) = some fo) (h2 : PySem.W.findIn X.K (.type "int") (dunderR op.info.2) = some ro) (hsub : PySem.W.subIn X.K (.type "int") (.ref C) = some false)
    (F : FnG X.prog X.w X.K X.mg X.base CX k g fd ps sp) (gd : X.A.guards = some []) (hr : Room k X.A) (hb : Binds X.K fd ps []) (hx : Passes CX X E) (ha : PE X a ta) (hbb : PE X b tb) :
    PE X (.BinOp a op b pos) (tBinI C sp E ta tb) := by
  refine ⟨fun pins s σ H Q I h => ?_⟩
  refine wpAny_BinOp (binT ha hbb I (R := fun x y H2 => ∃ a dx fs i, x = .ref a ∧ y = .int i ∧ H2 a = some (.ins C dx fs) ∧ sp [x, y] H2 Q E) h fun v u s2 x y H2 I2 rx ry q => ?_)
  obtain ⟨a0, dx, fs, i, rfl, rfl, h0, q⟩ := q
  cases (show v = Value.ref a0 from rx)
  obtain ⟨t, rfl⟩ := ry
  obtain ⟨mA, M, _⟩ := ins_get I2.hok h0
  obtain ⟨oD, J, _⟩ := M.look
  obtain ⟨m, hF⟩ := I2.fr
  refine PySem.W.ksp_binT (T := "int") hF I2.ok.mod.kin J rfl hc hs hf hr2 (.inl rfl) h1 h2 hsub ?_
  have q' : sp ([.ref a0, .int i] ++ []) H2 Q E := by rw [List.append_nil]; exact q
  refine wpAny_mono (run_fnG (vs := [.ref a0, .int i]) (us := [.ref a0, .int i t]) F gd hr hb .nil hx I2 (.cons rfl (.cons ⟨t, rfl⟩ .nil)) q') (fun w s' z => ?_) fun _ _ x => x
  obtain ⟨z', H', I', rz, qz⟩ := z
  exact SlX.cmpback rz ⟨z', H', I', rz, qz⟩
end
/-- what a call's end says, told again of the caller: errors by hx, a value by the wish -/
theorem ended {X : Cx} {CX : CXT} {E : XK} {pins : List (Addr × Obj)} {σ : L2.St} {H : Hp} {s0 : Shared} {W : VK} {R : Value → Shared → Prop} (pass : Passes CX X E) (J : Inv X pins σ H s0)
    (back : ∀ u s1, EP X pins σ W u s1 → R u s1) : ∀ (r : Except Value Flow) (s1 : Shared), CR CX X.stack X.prog X.w H s0 W E r s1 → (match r with | .ok (.ret u) => R u s1 | .ok _ => False | .error er => X.xe er s1) := by
  rintro (er | fl) s1 z
  · exact pass pins σ H s0 er s1 J z
  · cases fl with
    | ret u => exact back u s1 (J.after z)
    | _ => exact z
/-- a new instance of C by an __init__ that is told where no repr is under way -/
theorem made_by {X : Cx} {CX : CXT} {n : Nat} {C g : Addr} {pr : Sp} {E : XK} {pins : List (Addr × Obj)} {σ : L2.St} {H : Hp} {s0 : Shared} {W : VK} {args : List Value} {as : List V} (mk : Mk X.K C g) (init : FnRG X.prog X.w X.K X.mg X.base CX n g pr) (quiet : X.A.guards = some []) (room : Room (n + 1) X.A) (pass : Passes CX X E) (J : Inv X pins σ H s0) (rel : Vals as args)
    (wish : ∀ o od, H o = none → H od = none → od ≠ o → pr (.ref o :: as) (upd (upd H od (.own o)) o (.ins C od [])) (fun v H2 => v = .non ∧ W (.ref o) H2) E) : wpAny (model X.prog X.w) X.A (PySem.call (.ref C) args) (EP X pins σ W) X.xe s0 := by
  have J2 : Inv X pins σ _ _ := Inv.made (C := C) J
  have w := wish _ _ (J.hok.fresh (Nat.le_succ s0.heap.objs.size)) (J.hok.fresh (Nat.le_refl s0.heap.objs.size)) (Nat.ne_of_lt (Nat.lt_succ_self _))
  have run := init _ X.stack _ _ (Value.ref (s0.heap.objs.size + 1) :: args) _ _ E (make_guards.trans quiet) (room.make C args []) (J2.env0.make C args []) (show Vals (V.ref (s0.heap.objs.size + 1) :: as) _ from .cons rfl rel) w
  refine wpAny_call (make_map (f := g) J.kIn mk.makes mk.init (beq_iff_eq.mp mk.fn) (codeAny_mono run fun r s1 z => ?_))
  have d := ended (W := fun v H2 => v = .non ∧ W (.ref (s0.heap.objs.size + 1)) H2) (R := fun u s2 => RelV .non u ∧ EP X pins σ W (.ref (s0.heap.objs.size + 1)) s2) pass J2 (fun u s2 ⟨v, H2, I2, ru, ev, q⟩ => ⟨by rw [← ev]; exact ru, .ref _, H2, I2, rfl, q⟩) r s1 z
  cases r with
  | error er => exact d
  | ok fl =>
    cases fl with
    | ret u => exact d
    | _ => exact d.elim
theorem pe_makeRG {X : Cx} {CX : CXT} {n : Nat} {C g : Addr} {pr : Sp} {E : XK} {nm : Str} {e1 : Expr} {er : List Expr} {ta : TA} {pn pc : Pos} (mk : Mk X.K C g) (init : FnRG X.prog X.w X.K X.mg X.base CX n g pr) (quiet : X.A.guards = some []) (room : Room (n + 1) X.A) (gl : Gl X nm) (at_ : X.mg nm = some (.ref C)) (pass : Passes CX X E) (args : PA X (e1 :: er) ta) (nd : (nm == ("__debug__" : Str)) = false := by decide)
    (st : starEach (e1 :: er) X.env = (false, eval e1 X.env) :: starEach er X.env := by rfl) (pl : (backTo pc (starEach er X.env)).any (·.1) = false := by rfl) : PE X (.Call (.Name nm pn) (e1 :: er) [] pc) (StX.tMakeR C pr E ta) :=
  ⟨fun pins s0 σ H W J w => wpAny_Call_Name_kw (ld_glob J gl at_ (PySem.W.callWith_K (h₀ := X.base) J.ok.mod.kin mk.kp (thn (args.run pc pins s0 σ H _ J w) fun us s1 ⟨as, H1, J1, rel, w1⟩ => ⟨J1.kIn, made_by mk init quiet room pass J1 rel w1⟩) st pl) nd)⟩
end L2

/-! a, b = xs of a list. -/
namespace L2
open PySem PySem.Spec PyProof.Rows
section
variable {X : Cx}
/-- a, b = xs, xs a list -/
def gTupL (K : PySem.W.Frag) (n : Nat) (t : TGs) : TG := fun v σ H Q => ∃ a xs, v = .ref a ∧ SqL K H a xs ∧ xs.length = n ∧ t xs σ H Q
theorem pg_tupL {es : List Expr} {k : Nat} {t : TGs} {n : Nat} {pos : Pos} (hc : X.calm = true) (h : PGs X es t)
    (hn : (assignEach es X.env).length = n := by rfl) (hst : (assignEach es X.env).findIdx? (·.1) = none := by rfl) : PG X (.Tuple es k pos) (gTupL X.K n t) := by
  refine ⟨fun pins s σ H v u Q I r hw => ?_⟩
  obtain ⟨a, xs, e1, hq, hl, hw⟩ := hw
  subst e1
  cases r
  obtain ⟨its, rv, ht, hz⟩ := I.list hq
  rw [assign_Tuple]
  refine wpAny_bind (wpAny_standAt ?_)
  unfold unpack
  rw [hst]
  refine wpAny_bind (wpAny_holding ?_)
  have e : (assignEach es X.env).length = its.toArray.size := by simp [hn, ← hl, rv.length]
  rw [e]
  refine PySem.W.kun_itemsOf (I.ok.hd hc) ht.isList fun h' hx => ?_
  have I1 : Inv X pins σ H { s with heap := h' } := I.kept (t' := s.toks) fun b o e => hx b o (Nat.ne_of_lt (Heap.lt_size e)) e
  exact h.run pins _ σ H xs _ Q I1 (by simpa using rv) hw
end
end L2

/-! o.m(k = v): a method with keywords alone. -/
namespace L2
open PySem PySem.Spec PyProof.Rows
def g2 : List Value → List Value → List Value
  | [u], [w] => [u, w]
  | _, _ => []
def gV2 : List V → List V → List V
  | [u], [w] => [u, w]
  | _, _ => []
/-- one by position (self), one by name -/
theorem KBinds.two {K : PySem.W.Frag} {fd : FuncData} {a b : Str} (h : ∀ u w : Value, bindArgs fd ⟨[u], [(b, w)]⟩ = pure [(a, u), (b, w)]) : KBinds K fd [a, b] [b] g2 gV2 :=
  ⟨fun s us ws _ hl => by
    match us, ws, hl with
    | [u], [w], _ => exact .of_eq (h u w)
    | [], _, hl => simp [g2] at hl
    | _ :: _ :: _, _, hl => simp [g2] at hl
    | [_], [], hl => simp [g2] at hl
    | [_], _ :: _ :: _, hl => simp [g2] at hl, fun {vs us zs ws} r rz => by
    cases r with
    | nil => exact .nil
    | cons r1 r2 =>
      cases r2 with
      | cons _ _ => exact .nil
      | nil =>
        cases rz with
        | nil => exact .nil
        | cons z1 z2 =>
          cases z2 with
          | nil => exact .cons r1 (.cons z1 .nil)
          | cons _ _ => exact .nil⟩
def tMethK (C : Addr) (m : Str) (sp : Sp) (E : XK) (ta : TE) (tk : TA) : TE := fun σ H Q => ta σ H fun x H1 => ∃ a dx fs, x = .ref a ∧ H1 a = some (.ins C dx fs) ∧ fs.lookup m = none ∧ tk σ H1 fun zs H2 => sp (gV2 [x] zs) H2 Q E
theorem pe_methK {X : Cx} {CX : CXT} {k : Nat} {C f : Addr} {m : Str} {fd : FuncData} {ps ks : List Str} {sp : Sp} {E : XK} {o : Expr} {kws : List Keyword} {ta : TE} {tk : TA} {apos pos : Pos} {pl : Sem Bool} (he : PE X o ta) (c : Cls X.K C) (hm : Meth X.K C m f) (F : FnOk X.prog X.w X.K X.mg X.base CX k f fd ps sp) (hr : Room k X.A)
    (hb : KBinds X.K fd ps ks g2 gV2) (hx : Passes CX X E) (hkw : PK X kws tk)
    (hall : (backToKw pos (keywordEach kws X.env)).all (·.1.isSome) = true := by rfl) (hks : (backToKw pos (keywordEach kws X.env)).filterMap (·.1) = ks := by rfl)
    (hpl : ((backTo pos (starEach [] X.env)).any (·.1) || (backToKw pos (keywordEach kws X.env)).any (·.1.isNone)) = false := by rfl)
    (ht : eval (.Call (.Attribute o m apos) [] kws pos) X.env = (do
      let ov ← eval o X.env
      standAt apos.atName
      let (f, first) ← holding [ov] (getMethod ov m pl)
      callWith pos f first (backTo pos (starEach [] X.env)) (backToKw pos (keywordEach kws X.env))) := by rfl) :
    PE X (.Call (.Attribute o m apos) [] kws pos) (tMethK C m sp E ta tk) := by
  constructor
  intro pins s0 σ H W J w
  have obj := he.run pins s0 σ H _ J w
  refine PySem.W.methodCall_KW (pl := pl) (thn obj ?_) ht
  rintro _ s1 ⟨_, H1, J1, rel, a, dx, fs, rfl, ea, lk, w1⟩
  cases rel
  refine getmeth_ok J1 ea c hm lk (PySem.W.callWith_KW0 (h₀ := X.base) (first := [.ref a]) J.ok.mod.kin hm.kp hall (thn (hkw.run pos pins s1 σ H1 _ J1 w1) ?_) hpl)
  rintro vals s2 ⟨zs, H2, J2, rz, w2⟩
  refine ⟨J2.kIn, ?_⟩
  rw [hks]
  exact run_fnk (us := [.ref a]) (vs := [.ref a]) F hr hb hx J2 (Paired.cons rfl Paired.nil) rz w2
end L2

/-! try: .. except x1 as n: .. except x2 as n: ..; one of the clauses takes whatever the body lets out. -/
namespace L2
open PySem PySem.Spec PyProof.Rows
abbrev Suite := Addr → Value → Option Addr → TS
/-- behind a clause its name is gone -/
def Ends.gone (D : Ends) (i : Nat) : Ends where
  nx := fun τ G => D.nx (τ.set i none) G
  rt := D.rt
  bk := fun τ G => D.bk (τ.set i none) G
  ct := fun τ G => D.ct (τ.set i none) G
/-- the first clause that fits has what it wants -/
def Fits (K : PySem.W.Frag) (i : Nat) (D : Ends) : List (Value × Suite) → WX
  | [] => fun _ _ _ _ => False
  | one :: more => fun cls d τ G => (PySem.W.exmOne K cls one.1 = some true ∧ ∀ a, G a = none → one.2 a cls d (D.gone i) (τ.set i (some (.ref a))) G) ∨ (PySem.W.exmOne K cls one.1 = some false ∧ Fits K i D more cls d τ G)
inductive Clauses (X : Cx) (n : Str) : List ExceptHandler → List (Value × Suite) → Prop
  | nil : Clauses X n [] []
  | cons {x : Str} {one : Value × Suite} {st : Stmt} {sts : List Stmt} {p1 p2 : Pos} {hs : List ExceptHandler} {more : List (Value × Suite)} (named : Names X x one.1)
      (suite : ∀ (a : Addr) (oe : Obj) (cls : Value) (d : Option Addr) (pn : List (Addr × Obj)), Zc cls d oe → (∃ vs, oe.data = .fields vs) → PSs (X.suite a ((a, oe) :: pn)) (st :: sts) (one.2 a cls d)) (rest : Clauses X n hs more) :
      Clauses X n (.ExceptHandler (some (.Name x p1)) (some n) (st :: sts) p2 :: hs) (one :: more)
section
variable {X : Cx} {n : Str} {i : Nat} {D : Ends} {pins : List (Addr × Obj)} {τ : St} {G : Hp} {a B : Addr} {cls : Value} {d : Option Addr}
/-- the handlers, once the exception at a has landed: every landing of it keeps the invariant, and a is apart -/
theorem fits_go {base : Heap} {hp : Heap} {s0 : Shared} {oe : Obj} {vs : Array Value} (nd : X.N.Nodup) (slot : X.N[i]? = some n) (loc : X.env.kindOf n = some .local) (stk : X.stack = X.env :: X.outer) (frm : X.env.frame = some X.env.locals)
    (fly : HandSPX.FlyingZ base (X.env :: X.outer) a (Zc cls d) hp) (inv : ∀ h', HandSPX.FlyingZ base (X.env :: X.outer) a (Zc cls d) h' → hp.UpToSlots h' → Inv X pins τ G { s0 with heap := h' }) (here : Inv X pins τ G { s0 with heap := hp }) (free : G a = none) (apart : a ≠ X.env.locals ∧ a ∉ X.fs)
    (obj : hp.get? a = some oe) (of : Zc cls d oe) (dat : oe.data = .fields vs) :
    ∀ {hs : List ExceptHandler} {l : List (Value × Suite)}, Clauses X n hs l → Fits X.K i D l cls d τ G → wpAny (model X.prog X.w) X.A (handleBy (.ref a) X.env hs) (SP X pins D) X.xe { s0 with heap := hp } := by
  intro hs l cl
  induction cl with
  | nil => exact fun z => z.elim
  | @cons x one st sts p1 p2 hs more named suite rest ih =>
    intro w
    have inSuite := here.suite obj dat free apart.1 apart.2
    have kind : PySem.W.Looks (model X.prog X.w) hp (typeOf (.ref a)) cls := fun _ _ _ _ keep z => wpAny_typeOf_ref (keep _ _ obj) (by rw [of.1]; exact z)
    refine wpAny_handleBy_cons (codeAny_handlers_test ?_) (fun z => by cases z)
    have asked : ∀ {Q : Value → Shared → Prop} {E : Value → Shared → Prop}, Q one.1 { s0 with heap := hp } → wpAny (model X.prog X.w) (X.A.mark (some (.ref a))) (eval (.Name x p1) X.env) Q E { s0 with heap := hp } := by
      intro Q E z
      rcases named with ⟨gl, nodebug, own | ⟨none_, boot, noname⟩⟩
      · exact ld_glob (X := X.suite a ((a, oe) :: (X.pn ++ pins))) inSuite gl own z nodebug
      · exact ld_blt (X := X.suite a ((a, oe) :: (X.pn ++ pins))) inSuite gl none_ boot z noname nodebug
    rcases w with ⟨yes, w⟩ | ⟨no, w⟩
    · refine asked ((PySem.W.exm_one (M := model X.prog X.w) here.kIn kind yes).here (codeAny_handlers_suite_as (HandSPX.lands_againZ fly fun h4 fly4 up4 => ?_)))
      have J := inv h4 fly4 up4
      obtain ⟨o4, v4, g4, z4, d4⟩ := fly4.there
      refine store_ok (X := X.suite a ((a, o4) :: (X.pn ++ pins))) (v := .ref a) (J.suite g4 d4 free apart.1 apart.2) nd slot (.inl loc) rfl (fun s5 J5 => ?_) (.inr loc)
      refine wpAny_mono ((suite a o4 cls d (X.pn ++ pins) z4 ⟨_, d4⟩).run [] s5 _ G (D.gone i) J5 (w a free)) (fun fl s6 z => ?_) (fun _ _ z => z.elim)
      have leave : ∀ {τ6 : St} {G6 : Hp} {R : Shared → Prop}, Inv (X.suite a ((a, o4) :: (X.pn ++ pins))) [] τ6 G6 s6 → (∀ s7, Inv X pins (τ6.set i none) G6 s7 → R s7) → wpAny (model X.prog X.w) X.A (do bindName X.env n .none; unbindBehindTheSuite X.env n p2) (fun _ s7 => R s7) X.xe s6 :=
        fun J6 k => gone_ok (J6.unsuite here.ok) nd slot loc k
      cases fl with
      | ret u => obtain ⟨v6, τ6, G6, J6, r6, q6⟩ := z; exact leave J6 fun s7 J7 => ⟨v6, _, G6, J7, r6, q6⟩
      | next => obtain ⟨τ6, G6, J6, q6⟩ := z; exact leave J6 fun s7 J7 => ⟨_, G6, J7, q6⟩
      | brk => obtain ⟨τ6, G6, J6, q6⟩ := z; exact leave J6 fun s7 J7 => ⟨_, G6, J7, q6⟩
      | cont => obtain ⟨τ6, G6, J6, q6⟩ := z; exact leave J6 fun s7 J7 => ⟨_, G6, J7, q6⟩
    · exact asked ((PySem.W.exm_one (M := model X.prog X.w) here.kIn kind no).here (ih w))
end
section
variable {X : Cx} {n : Str} {i : Nat} {body : List Stmt} {h0 : ExceptHandler} {hs : List ExceptHandler} {l : List (Value × Suite)} {pos : Pos} {tb : WX → TS}
theorem ps_try_fits (stk : X.stack = X.env :: X.outer) (frm : X.env.frame = some X.env.locals) (nd : X.N.Nodup) (slot : X.N[i]? = some n) (loc : X.env.kindOf n = some .local)
    (inner : ∀ (W : WX) (pn : List (Addr × Obj)) (xe : Value → Shared → Prop), Takes (X.tr pn xe) W → PassesOwn (model X.prog X.w) X.A X.env xe → PSs (X.tr pn xe) body (tb W))
    (cl : Clauses X n (h0 :: hs) l) : PS X (.Try body (h0 :: hs) [] [] pos) (fun D σ H => tb (Fits X.K i D l) D σ H) := by
  constructor
  intro pins s σ H D I w
  have frames : X.A.frames = some (X.env :: X.outer) := stk ▸ I.ok.frames
  have catching : Takes (X.tr (X.pn ++ pins) (fun ex s1 => wpAny (model X.prog X.w) X.A (noteFrame ex X.env) (fun _ s2 => wpAny (model X.prog X.w) X.A (setFlight ex none) (fun _ s3 => wpAny (model X.prog X.w) X.A (handleBy ex X.env (h0 :: hs)) (SP X pins D) X.xe s3) X.xe s2) X.xe s1)) (Fits X.K i D l) := by
    rintro _ s1 ⟨a, B, sI, _, τ, G, cls, d, rfl, J0, ground, up, sky, free, os, bare, fit⟩
    have J : Inv X pins τ G sI := J0.ofTry I.ok
    have any : ∀ h', HandSPX.FlyingZ B (X.env :: X.outer) a (Zc cls d) h' → s1.heap.UpToSlots h' → Inv X pins τ G { s1 with heap := h' } := fun h' fly to => J.landed ground fly.1 (up.trans to) os bare
    refine Sky.land Zc.steady frames frm (stk ▸ sky) fun h3 fly to => ?_
    obtain ⟨o3, v3, g3, z3, d3⟩ := fly.there
    have out : a ∉ frs (X.env :: X.outer) := fun inn => by
      obtain ⟨_, o, go, nofields⟩ := fly.2.2.1.mem inn
      exact nofields v3 (by rw [← d3, Option.some.inj (g3.symm.trans go)])
    refine fits_go (oe := o3) (vs := v3) (s0 := s1) nd slot loc stk frm fly (fun h' f2 t2 => any h' f2 (to.trans t2)) (any h3 fly to) free ⟨fun z => out ?_, fun z => out ?_⟩ g3 z3 d3 cl fit
    · exact List.mem_filterMap.mpr ⟨X.env, by simp, z ▸ frm⟩
    · obtain ⟨en, inOuter, fr⟩ := List.mem_filterMap.mp z
      exact List.mem_filterMap.mpr ⟨en, by simp [inOuter], fr⟩
  refine wpAny_Try_except (wpAny_mono ((inner _ _ _ catching PassesOwn.looking).run [] s σ H D (I.toTry _) w) (fun fl s1 z => ?_) (fun _ _ z => z))
  cases fl with
  | ret u => obtain ⟨v, τ, G, J, rel, q⟩ := z; exact ⟨v, τ, G, J.ofTry I.ok, rel, q⟩
  | next => obtain ⟨τ, G, J, q⟩ := z; exact wpAny_execs_nil ⟨τ, G, J.ofTry I.ok, q⟩
  | brk => obtain ⟨τ, G, J, q⟩ := z; exact ⟨τ, G, J.ofTry I.ok, q⟩
  | cont => obtain ⟨τ, G, J, q⟩ := z; exact ⟨τ, G, J.ofTry I.ok, q⟩
end
end L2

/-! x(lambda: body): the lambda is called by a def with one parameter; no repr is under way. -/
namespace L2
open PySem PySem.Spec PyProof.Rows LamX
/-- the def that calls what it got -/
def GivesTo1 (X : Cx) (Ng : List Str) (x : Str) (sg : Scope) (g : Addr) (cdg : Value) (bg : List Stmt) (a : Str) (q : Str) (k : Nat) (TT : (XK → Hp → VK → Prop) → Hp → VK → Prop) : Prop :=
  ∀ (f c' : Addr) (s : Shared) (H : Hp) (Q : VK) (tl : XK → Hp → VK → Prop),
    (∀ (W : WX) (pn : List (Addr × Obj)) (xe : Value → Shared → Prop) (p1 p2 : Pos), Takes ((cxOf C8.CX0 X.prog X.w X.K X.mg X.base Ng x sg g cdg X.A X.stack s H C8.E0).tr pn xe) W →
      PE ((cxOf C8.CX0 X.prog X.w X.K X.mg X.base Ng x sg g cdg X.A X.stack s H C8.E0).tr pn xe) (.Call (.Name a p1) [] [] p2) (fun σZ HZ Q => σZ[0]? = some (some (.ref f)) ∧ HZ c' = some (CodeO c' q) ∧ tl (WE W σZ) HZ Q)) →
    Room k (X.A.deeper (envOfC x sg s.heap.objs.size g cdg)) → H c' = some (CodeO c' q) → TT tl H Q →
    ∃ t, PSs (cxOf C8.CX0 X.prog X.w X.K X.mg X.base Ng x sg g cdg X.A X.stack s H C8.E0).nox bg t ∧ t { nx := fun _ H' => Q .non H', rt := Q } (L2.start Ng [.ref f]) H
theorem pe_lamcall1 {X : Cx} {T : List (Addr × Str)} {TT : (XK → Hp → VK → Prop) → Hp → VK → Prop} {x a : Str} {g c P : Addr} {k : Nat} {pg : Arguments} {bg : List Stmt} {sg : Scope} {dV kV doc pm cdv ct oc : Value} {an od : Option Addr} {osl : Array (Option Value)} {Ng : List Str}
    {params : Arguments} {body : Expr} {scope : Scope} {t : XK → TE} {p lpos pos : Pos} (quiet : X.A.guards = some []) (gl : Gl X x) (mod : X.mg x = some (.ref g)) (keep : PySem.W.keepIn X.K (.ref g) = true)
    (lk : X.K.lookup g = some ⟨oc, od, .func (PySem.W.fnOf x x pg bg sg dV kV doc pm an cdv ct), osl⟩) (code : PySem.W.codeIn X.K cdv x = true) (binds : L2.Binds X.K (PySem.W.fnOf x x pg bg sg dV kV doc pm an cdv ct) [a] []) (Sg : FnScope Ng [a] sg) (first : Ng[0]? = some a) (seen : Vis sg a)
    (gives : GivesTo1 X Ng x sg g cdv bg a (X.env.qual ++ "<lambda>") (k + 1) TT)
    (TB : TabB X.base X.mg c P) (own : X.env.code = .ref c) (inT : (P, X.env.qual ++ "<lambda>") ∈ T) (one : ∀ p ∈ T, p.1 = P → p.2 = X.env.qual ++ "<lambda>") (room : Room (k + 2) X.A) (L : LamS X.env.scope scope) (nodef : defaultsOf params X.env = ([], []))
    (nobind : ∀ (q : Str) (cl : List (Str × Addr)) (pm cv ctv : Value), bindArgs (PySem.W.kla_fn "<lambda>" q params body scope cl pm cv ctv) ⟨[], []⟩ = pure [])
    (inside : ∀ (A : Around) (outer : List Env) (s : Shared) (H : Hp) (E : XK) (f c' : Addr), A.guards = some [] → Room k (A.deeper (lamEnv X scope s.heap.objs.size f c')) → PE (lamCx X A outer s H E scope f c') body (t E))
    (nd1 : (x == ("__debug__" : Str)) = false := by decide) (nd2 : (a == ("__debug__" : Str)) = false := by decide) (nc : (a == ("__classdict__" : Str)) = false := by decide) :
    PE X (.Call (.Name x p) [.Lambda params body scope lpos] [] pos) (fun σ H Q => Tabs T H ∧ ∀ H1, ExtN H H1 → Tabs T H1 → TT (fun E H' Q' => t E σ H' Q') H1 Q) := by
  constructor
  rintro pins s0 σ H W J ⟨tabs, w⟩
  refine wpAny_Call_Name_kw (ld_glob J gl mod (PySem.W.callWith_K (h₀ := X.base) J.ok.mod.kin keep ?_ (by rfl) (by rfl)) nd1)
  show wpAny _ _ (spliced [(false, eval (.Lambda params body scope lpos) X.env)]) _ _ s0
  refine Calls.spliced_cons (lam_make2 J TB own inT one tabs nodef (L.has J.ok) fun f c' pm' ctv H1 s1 J1 grown tabs1 hf hfn hfr hco => Calls.spliced_nil ⟨J1.kIn, ?_⟩)
  have run : codeAny (model X.prog X.w) X.A (.call (.ref g) ⟨[.ref f], []⟩) (CR C8.CX0 X.stack X.prog X.w H1 s1 W C8.E0) s1 := by
    refine run_ofS (N := Ng) (ps := [a]) (us := [.ref f]) (vs := [.ref f]) lk code Sg room J1.env0 (binds s1 [.ref f] J1.kIn rfl) (show Vals [V.ref f] [Value.ref f] from .cons rfl .nil) rfl fun room2 => ?_
    obtain ⟨ts, hts, hq⟩ := gives f c' s1 H1 W (fun E H' Q' => t E σ H' Q') (fun V0 pn xe p1 p2 tk => pe_actG (i := 0) quiet J1 L hf hfn hfr (nobind _ _ _ _ _) tk room2 (fun A outer s H E q r => inside A outer s H E f c' q r) first seen nd2 nc) room2 hco (w H1 grown tabs1)
    exact ⟨ts, hts.nox, hq⟩
  have d := fun r s2 z => ended (X := X) (CX := C8.CX0) (E := C8.E0) (R := EP X pins σ W) (fun _ _ _ _ _ _ _ z => (show False from z).elim) J1 (fun _ _ y => y) r s2 z
  refine wpAny_call (codeAny_mono run fun r s2 z => ?_)
  have y := d r s2 z
  cases r with
  | error er => exact y
  | ok fl =>
    cases fl with
    | ret u => exact y
    | _ => exact y.elim
end L2

/-! x(lambda: body, y): the lambda is called by a def with two parameters; no repr is under way. -/
namespace L2
open PySem PySem.Spec PyProof.Rows LamX
/-- a name of the frame is read, and the state stays -/
theorem slot_read {X : Cx} {pins : List (Addr × Obj)} {σ : L2.St} {H : Hp} {s0 : Shared} {i : Nat} {y : Str} {pos : Pos} {v : V} (J : Inv X pins σ H s0) (nth : X.N[i]? = some y) (vis : Vis X.env.scope y) (at_ : σ[i]? = some (some v)) (nd : (y == ("__debug__" : Str)) = false) (nc : (y == ("__classdict__" : Str)) = false) :
    ∃ u, RelV v u ∧ ∀ (W E : Value → Shared → Prop), W u s0 → wpAny (model X.prog X.w) X.A (eval (.Name y pos) X.env) W E s0 := by
  obtain ⟨m, ns, slots⟩ := J.loc
  obtain ⟨u, rel, look⟩ := slots i y v nth at_ vis
  refine ⟨u, rel, fun W E w => wpAny_Name ?_ nd⟩
  rcases look with ⟨kind, here⟩ | ⟨kind | kind, c, has, cell⟩
  · exact wpAny_loadName_local J.ok.kind kind ns here w
  · exact wpAny_loadName_cell J.ok.kind kind has cell w
  · exact wpAny_loadName_free J.ok.kind kind has cell w nc
/-- the def that calls what it got, with a second argument -/
def GivesTo2 (X : Cx) (Ng : List Str) (x : Str) (sg : Scope) (g : Addr) (cdg : Value) (bg : List Stmt) (a : Str) (q : Str) (k : Nat) (TT : V → (XK → Hp → VK → Prop) → Hp → VK → Prop) : Prop :=
  ∀ (f c' : Addr) (s : Shared) (H : Hp) (v2 : V) (Q : VK) (tl : XK → Hp → VK → Prop),
    (∀ (W : WX) (pn : List (Addr × Obj)) (xe : Value → Shared → Prop) (p1 p2 : Pos), Takes ((cxOf C8.CX0 X.prog X.w X.K X.mg X.base Ng x sg g cdg X.A X.stack s H C8.E0).tr pn xe) W →
      PE ((cxOf C8.CX0 X.prog X.w X.K X.mg X.base Ng x sg g cdg X.A X.stack s H C8.E0).tr pn xe) (.Call (.Name a p1) [] [] p2) (fun σZ HZ Q => σZ[0]? = some (some (.ref f)) ∧ HZ c' = some (CodeO c' q) ∧ tl (WE W σZ) HZ Q)) →
    Room k (X.A.deeper (envOfC x sg s.heap.objs.size g cdg)) → H c' = some (CodeO c' q) → TT v2 tl H Q →
    ∃ t, PSs (cxOf C8.CX0 X.prog X.w X.K X.mg X.base Ng x sg g cdg X.A X.stack s H C8.E0).nox bg t ∧ t { nx := fun _ H' => Q .non H', rt := Q } (L2.start Ng [.ref f, v2]) H
theorem pe_lamcall2 {X : Cx} {T : List (Addr × Str)} {TT : V → (XK → Hp → VK → Prop) → Hp → VK → Prop} {x a b : Str} {g c P : Addr} {k : Nat} {pg : Arguments} {bg : List Stmt} {sg : Scope} {dV kV doc pm cdv ct oc : Value} {an od : Option Addr} {osl : Array (Option Value)} {Ng : List Str}
    {params : Arguments} {body : Expr} {scope : Scope} {t : XK → TE} {p lpos pos : Pos} {j : Nat} {y : Str} {py : Pos} (quiet : X.A.guards = some []) (gl : Gl X x) (mod : X.mg x = some (.ref g)) (keep : PySem.W.keepIn X.K (.ref g) = true)
    (lk : X.K.lookup g = some ⟨oc, od, .func (PySem.W.fnOf x x pg bg sg dV kV doc pm an cdv ct), osl⟩) (code : PySem.W.codeIn X.K cdv x = true) (binds : L2.Binds X.K (PySem.W.fnOf x x pg bg sg dV kV doc pm an cdv ct) [a, b] []) (Sg : FnScope Ng [a, b] sg) (first : Ng[0]? = some a) (seen : Vis sg a)
    (gives : GivesTo2 X Ng x sg g cdv bg a (X.env.qual ++ "<lambda>") (k + 1) TT)
    (TB : TabB X.base X.mg c P) (own : X.env.code = .ref c) (inT : (P, X.env.qual ++ "<lambda>") ∈ T) (one : ∀ p ∈ T, p.1 = P → p.2 = X.env.qual ++ "<lambda>") (room : Room (k + 2) X.A) (L : LamS X.env.scope scope) (nodef : defaultsOf params X.env = ([], []))
    (nobind : ∀ (q : Str) (cl : List (Str × Addr)) (pm cv ctv : Value), bindArgs (PySem.W.kla_fn "<lambda>" q params body scope cl pm cv ctv) ⟨[], []⟩ = pure [])
    (inside : ∀ (A : Around) (outer : List Env) (s : Shared) (H : Hp) (E : XK) (f c' : Addr), A.guards = some [] → Room k (A.deeper (lamEnv X scope s.heap.objs.size f c')) → PE (lamCx X A outer s H E scope f c') body (t E))
    (nth : X.N[j]? = some y) (visy : Vis X.env.scope y)
    (nd1 : (x == ("__debug__" : Str)) = false := by decide) (nd2 : (a == ("__debug__" : Str)) = false := by decide) (nc : (a == ("__classdict__" : Str)) = false := by decide) (nd3 : (y == ("__debug__" : Str)) = false := by decide) (nc3 : (y == ("__classdict__" : Str)) = false := by decide) :
    PE X (.Call (.Name x p) [.Lambda params body scope lpos, .Name y py] [] pos) (fun σ H Q => Tabs T H ∧ ∃ v2, σ[j]? = some (some v2) ∧ ∀ H1, ExtN H H1 → Tabs T H1 → TT v2 (fun E H' Q' => t E σ H' Q') H1 Q) := by
  constructor
  rintro pins s0 σ H W J ⟨tabs, v2, at2, w⟩
  refine wpAny_Call_Name_kw (ld_glob J gl mod (PySem.W.callWith_K (h₀ := X.base) J.ok.mod.kin keep ?_ (by rfl) (by rfl)) nd1)
  show wpAny _ _ (spliced ((false, eval (.Lambda params body scope lpos) X.env) :: backTo pos (starEach [.Name y py] X.env))) _ _ s0
  refine Calls.spliced_cons (lam_make2 J TB own inT one tabs nodef (L.has J.ok) fun f c' pm' ctv H1 s1 J1 grown tabs1 hf hfn hfr hco => ?_)
  show wpAny _ _ (spliced ((false, eval (.Name y py) X.env) :: backTo pos (starEach [] X.env))) _ _ s1
  obtain ⟨u2, rel2, read⟩ := slot_read (pos := py) J1 nth visy at2 nd3 nc3
  refine Calls.spliced_cons (read _ _ (Calls.spliced_nil ⟨J1.kIn, ?_⟩))
  have run : codeAny (model X.prog X.w) X.A (.call (.ref g) ⟨[.ref f, u2], []⟩) (CR C8.CX0 X.stack X.prog X.w H1 s1 W C8.E0) s1 := by
    refine run_ofS (N := Ng) (ps := [a, b]) (us := [.ref f, u2]) (vs := [.ref f, v2]) lk code Sg room J1.env0 (binds s1 [.ref f, u2] J1.kIn rfl) (show Vals [V.ref f, v2] [Value.ref f, u2] from .cons rfl (.cons rel2 .nil)) rfl fun room2 => ?_
    obtain ⟨ts, hts, hq⟩ := gives f c' s1 H1 v2 W (fun E H' Q' => t E σ H' Q') (fun V0 pn xe p1 p2 tk => pe_actG (i := 0) quiet J1 L hf hfn hfr (nobind _ _ _ _ _) tk room2 (fun A outer s H E q r => inside A outer s H E f c' q r) first seen nd2 nc) room2 hco (w H1 grown tabs1)
    exact ⟨ts, hts.nox, hq⟩
  have d := fun r s2 z => ended (X := X) (CX := C8.CX0) (E := C8.E0) (R := EP X pins σ W) (fun _ _ _ _ _ _ _ z => (show False from z).elim) J1 (fun _ _ y => y) r s2 z
  refine wpAny_call (codeAny_mono run fun r s2 z => ?_)
  have y := d r s2 z
  cases r with
  | error er => exact y
  | ok fl =>
    cases fl with
    | ret u => exact y
    | _ => exact y.elim
end L2

/-! C.m(e, ..) and C.m() of a classmethod, o.m(e, ..) that may raise: where no repr is under way. -/
namespace L2
open PySem PySem.Spec PyProof.Rows
theorem pe_cmethG {X : Cx} {CX : CXT} {n : Nat} {C p g : Addr} {mc : Value} {pr : Sp} {E : XK} {o e : Expr} {es : List Expr} {m : Str} {pos apos : Pos} {ta : TE} {t : TA} {pl : Sem Bool} (ob : PE X o ta) (rd : ClX.CRead X.K C mc) (met : ClX.CMet X.K C mc m p g) (F : FnRG X.prog X.w X.K X.mg X.base CX n g pr) (quiet : X.A.guards = some []) (room : Room n X.A) (pass : Passes CX X E) (args : PA X (e :: es) t)
    (st : starEach (e :: es) X.env = (false, eval e X.env) :: starEach es X.env := by rfl) (pn : (backTo pos (starEach es X.env)).any (·.1) = false := by rfl)
    (ht : eval (.Call (.Attribute o m apos) (e :: es) [] pos) X.env = (eval o X.env >>= fun ov => standAt apos.atName >>= fun _ => holding [ov] (getMethod ov m pl) >>= fun fb => callWith pos fb.1 fb.2 (backTo pos (starEach (e :: es) X.env)) (backToKw pos (keywordEach [] X.env))) := by rfl) :
    PE X (.Call (.Attribute o m apos) (e :: es) [] pos) (ClX.tCMeth C pr E ta t) := by
  constructor
  intro pins s0 σ H W J w
  refine PySem.W.methodCall_KW (pl := pl) (thn (ob.run pins s0 σ H _ J w) ?_) ht
  rintro _ s1 ⟨_, H1, J1, rel, rfl, w1⟩
  cases rel
  have unknown := ClX.base_none J1 (Nat.le_refl _)
  refine ClX.getmethcm_ok J1 rd met fun s2 J2 => ClX.callwith_cm J2 unknown met.fi (thn (args.run pos _ s2 σ H1 _ J2 w1) ?_) st pn
  rintro us s3 ⟨as, H2, J3, rv, w2⟩
  have run := F X.A X.stack s3 H2 (.ref C :: us) (.ref C :: as) W E quiet room J3.env0 (.cons rfl rv) w2
  refine ⟨⟨ClX.pin_at J3, J3.kIn⟩, wpAny_call (PySem.W.method_call (ClX.pin_at J3) (codeAny_mono run fun r s4 z => ?_))⟩
  have y := ended (R := EP X pins σ W) pass J3 (fun _ _ q => ClX.unpinE q) r s4 z
  cases r with
  | error er => exact y
  | ok fl =>
    cases fl with
    | ret u => exact y
    | _ => exact y.elim
/-- C.m() -/
theorem pe_cmeth0 {X : Cx} {CX : CXT} {n : Nat} {C p g : Addr} {mc : Value} {pr : Sp} {E : XK} {o : Expr} {m : Str} {pos apos : Pos} {ta : TE} {pl : Sem Bool} (ob : PE X o ta) (rd : ClX.CRead X.K C mc) (met : ClX.CMet X.K C mc m p g) (F : FnR X.prog X.w X.K X.mg X.base CX n g pr) (room : Room n X.A) (pass : Passes CX X E)
    (ht : eval (.Call (.Attribute o m apos) [] [] pos) X.env = (eval o X.env >>= fun ov => standAt apos.atName >>= fun _ => holding [ov] (getMethod ov m pl) >>= fun fb => callWith pos fb.1 fb.2 (backTo pos (starEach [] X.env)) (backToKw pos (keywordEach [] X.env))) := by rfl) :
    PE X (.Call (.Attribute o m apos) [] [] pos) (fun σ H Q => ta σ H fun x H1 => x = .ref C ∧ pr [.ref C] H1 Q E) := by
  constructor
  intro pins s0 σ H W J w
  refine PySem.W.methodCall_KW (pl := pl) (thn (ob.run pins s0 σ H _ J w) ?_) ht
  rintro _ s1 ⟨_, H1, J1, rel, rfl, w1⟩
  cases rel
  exact ClX.getmethcm_ok J1 rd met fun s2 J2 => PySem.W.callWith_M0 (K := X.K) ⟨ClX.pin_at J2, J2.kIn⟩ met.fi (ClX.run_cm F room pass J2 .nil w1)
def tMethW (C : Addr) (m : Str) (sp : Sp) (E : St → XK) (ta : TE) (t : TA) : TE := fun σ H Q => ta σ H fun x H1 => ∃ a dx fs, x = .ref a ∧ H1 a = some (.ins C dx fs) ∧ fs.lookup m = none ∧ t σ H1 fun vs H2 => sp (x :: vs) H2 Q (E σ)
/-- o.m(e, ..), where no repr is under way; what is let out goes by the slots -/
theorem pe_methW {X : Cx} {CX : CXT} {n : Nat} {C g : Addr} {m : Str} {fd : FuncData} {ps : List Str} {pr : Sp} {E : St → XK} {o e : Expr} {es : List Expr} {ta : TE} {t : TA} {apos pos : Pos} {pl : Sem Bool} (ob : PE X o ta) (c : Cls X.K C) (met : Meth X.K C m g) (F : FnG X.prog X.w X.K X.mg X.base CX n g fd ps pr) (quiet : X.A.guards = some []) (room : Room n X.A) (bn : Binds X.K fd ps []) (pass : ∀ σ, PassesAt CX X σ (E σ)) (args : PA X (e :: es) t)
    (st : starEach (e :: es) X.env = (false, eval e X.env) :: starEach es X.env := by rfl) (pn : (backTo pos (starEach es X.env)).any (·.1) = false := by rfl)
    (ht : eval (.Call (.Attribute o m apos) (e :: es) [] pos) X.env = (eval o X.env >>= fun ov => standAt apos.atName >>= fun _ => holding [ov] (getMethod ov m pl) >>= fun fb => callWith pos fb.1 fb.2 (backTo pos (starEach (e :: es) X.env)) (backToKw pos (keywordEach [] X.env))) := by rfl) :
    PE X (.Call (.Attribute o m apos) (e :: es) [] pos) (tMethW C m pr E ta t) := by
  constructor
  intro pins s0 σ H W J w
  refine PySem.W.methodCall_KW (pl := pl) (thn (ob.run pins s0 σ H _ J w) ?_) ht
  rintro _ s1 ⟨_, H1, J1, rel, a, dx, fs, rfl, ea, lk, w1⟩
  cases rel
  refine getmeth_ok J1 ea c met lk (PySem.W.callWith_K (first := [.ref a]) (h₀ := X.base) J.ok.mod.kin met.kp (thn (args.run pos pins s1 σ H1 _ J1 w1) ?_) st pn)
  rintro us s2 ⟨as, H2, J2, rv, w2⟩
  have all : Vals (.ref a :: as) (.ref a :: us) := .cons rfl rv
  have many : ((Value.ref a :: us) ++ []).length = ps.length := by
    rw [List.append_nil]
    exact all.length.symm.trans (F.len _ _ _ _ w2)
  have bound := bn s2 (.ref a :: us) J2.kIn many
  rw [List.append_nil] at bound
  have run := F.run X.A X.stack s2 H2 ⟨.ref a :: us, []⟩ (.ref a :: us) (.ref a :: as) W (E σ) quiet room J2.env0 bound all w2
  refine ⟨J2.kIn, wpAny_call (codeAny_mono run ?_)⟩
  rintro (er | fl) s3 z
  · exact pass σ pins H2 s2 er s3 J2 z
  · cases fl with
    | ret u => exact J2.after z
    | _ => exact z.elim
def tMethX (C : Addr) (m : Str) (sp : Sp) (E : XK) (ta : TE) (t : TA) : TE := fun σ H Q => ta σ H fun x H1 => ∃ a dx fs, x = .ref a ∧ H1 a = some (.ins C dx fs) ∧ fs.lookup m = none ∧ t σ H1 fun vs H2 => sp (x :: vs) H2 Q E
/-- o.m(e, ..), where no repr is under way; it may raise -/
theorem pe_methX {X : Cx} {CX : CXT} {n : Nat} {C g : Addr} {m : Str} {fd : FuncData} {ps : List Str} {pr : Sp} {E : XK} {o e : Expr} {es : List Expr} {ta : TE} {t : TA} {apos pos : Pos} {pl : Sem Bool} (ob : PE X o ta) (c : Cls X.K C) (met : Meth X.K C m g) (F : FnG X.prog X.w X.K X.mg X.base CX n g fd ps pr) (quiet : X.A.guards = some []) (room : Room n X.A) (bn : Binds X.K fd ps []) (pass : Passes CX X E) (args : PA X (e :: es) t)
    (st : starEach (e :: es) X.env = (false, eval e X.env) :: starEach es X.env := by rfl) (pn : (backTo pos (starEach es X.env)).any (·.1) = false := by rfl)
    (ht : eval (.Call (.Attribute o m apos) (e :: es) [] pos) X.env = (eval o X.env >>= fun ov => standAt apos.atName >>= fun _ => holding [ov] (getMethod ov m pl) >>= fun fb => callWith pos fb.1 fb.2 (backTo pos (starEach (e :: es) X.env)) (backToKw pos (keywordEach [] X.env))) := by rfl) :
    PE X (.Call (.Attribute o m apos) (e :: es) [] pos) (tMethX C m pr E ta t) := by
  constructor
  intro pins s0 σ H W J w
  refine PySem.W.methodCall_KW (pl := pl) (thn (ob.run pins s0 σ H _ J w) ?_) ht
  rintro _ s1 ⟨_, H1, J1, rel, a, dx, fs, rfl, ea, lk, w1⟩
  cases rel
  refine getmeth_ok J1 ea c met lk (PySem.W.callWith_K (first := [.ref a]) (h₀ := X.base) J.ok.mod.kin met.kp (thn (args.run pos pins s1 σ H1 _ J1 w1) ?_) st pn)
  rintro us s2 ⟨as, H2, J2, rv, w2⟩
  exact ⟨J2.kIn, run_fnG (vs := .ref a :: as) (us := .ref a :: us) F quiet room bn .nil pass J2 (.cons rfl rv) (by rw [List.append_nil]; exact w2)⟩
/-- o.m(e, ..), where no repr is under way; with no defaults -/
theorem pe_methG0 {X : Cx} {CX : CXT} {n : Nat} {C g : Addr} {m : Str} {fd : FuncData} {ps : List Str} {pr : Sp} {E : XK} {o e : Expr} {es : List Expr} {ta : TE} {t : TA} {apos pos : Pos} {pl : Sem Bool} (ob : PE X o ta) (c : Cls X.K C) (met : Meth X.K C m g) (F : FnG X.prog X.w X.K X.mg X.base CX n g fd ps pr) (quiet : X.A.guards = some []) (room : Room n X.A) (bn : Binds X.K fd ps []) (pass : Passes CX X E) (args : PA X (e :: es) t)
    (st : starEach (e :: es) X.env = (false, eval e X.env) :: starEach es X.env := by rfl) (pn : (backTo pos (starEach es X.env)).any (·.1) = false := by rfl)
    (ht : eval (.Call (.Attribute o m apos) (e :: es) [] pos) X.env = (eval o X.env >>= fun ov => standAt apos.atName >>= fun _ => holding [ov] (getMethod ov m pl) >>= fun fb => callWith pos fb.1 fb.2 (backTo pos (starEach (e :: es) X.env)) (backToKw pos (keywordEach [] X.env))) := by rfl) :
    PE X (.Call (.Attribute o m apos) (e :: es) [] pos) (tMeth C m pr [] E ta t) := by
  constructor
  intro pins s0 σ H W J w
  refine PySem.W.methodCall_KW (pl := pl) (thn (ob.run pins s0 σ H _ J w) ?_) ht
  rintro _ s1 ⟨_, H1, J1, rel, a, dx, fs, rfl, ea, lk, w1⟩
  cases rel
  refine getmeth_ok J1 ea c met lk (PySem.W.callWith_K (first := [.ref a]) (h₀ := X.base) J.ok.mod.kin met.kp (thn (args.run pos pins s1 σ H1 _ J1 w1) ?_) st pn)
  rintro us s2 ⟨as, H2, J2, rv, w2⟩
  exact ⟨J2.kIn, run_fnG (vs := .ref a :: as) (us := .ref a :: us) F quiet room bn .nil pass J2 (.cons rfl rv) w2⟩
end L2

/-! repr of a list of shown values -/
namespace L2
open PySem PySem.Spec PyProof.Rows
/-- v is shown as t, whatever is under way -/
abbrev Shn (X : Cx) (k : Nat) (J : Hp → Prop) (v : V) (t : Str) : Prop := Sg X k J (fun _ => False) v t
theorem call_reprL {X : Cx} {k : Nat} (quiet : X.A.guards = some []) (room : Room (k + 2) X.A) :
    CallR X (.builtin "repr") fun us H Q => ∃ (a : Addr) (xs : List V) (ts : List Str) (J : Hp → Prop), us = [.ref a] ∧ J H ∧ (∀ G, J G → G a = some (.lst xs)) ∧ xs ≠ [] ∧ ts.length = xs.length ∧
      (∀ (i : Nat) (v : V), xs[i]? = some v → ∃ t, ts[i]? = some t ∧ Shn X k J v t) ∧ (listText ts).length ≤ sizeLine ∧ ∀ G, J G → Q (.str (listText ts)) G := by
  rintro pins s σ H _ us Q I r ⟨a, xs, ts, J, rfl, j, there, some_, many, each, fits, q⟩
  rcases vals1 r with ⟨_, rfl, rfl⟩
  exact (sg_list there some_ (fun z => z) many each).call X.A [] pins s σ H _ _ _ I.ok.frames quiet (Clr.nil _) room I j rfl fits fun s1 H1 tk I1 j1 => ⟨.str _, H1, I1, ⟨tk, rfl⟩, q H1 j1⟩
end L2

/-! xs[-2::-1], xs a list of at least one item: all but the last, reversed -/
namespace L2
open PySem PySem.Spec PyProof.Rows
section
variable {X : Cx}
def tBack2 (K : PySem.W.Frag) (te : TE) : TE := fun σ H Q => te σ H fun x H1 => ∃ a xs, x = .ref a ∧ SqL K H1 a xs ∧ xs ≠ [] ∧ ∀ p, H1 p = none → Q (.ref p) (upd H1 p (.lst xs.dropLast.reverse))
theorem pick_back2 (items : Array Value) (h : 0 < items.size) : slicePick items (some (-2)) none (some (-1)) = items.toList.dropLast.reverse.toArray := by
  have where_ : sliceBounds (some (-2)) none (some (-1)) items.size = ((((items.size - 1 : Nat) : Int) - 1), -1, -1) := by
    simp only [sliceBounds]
    simp
    omega
  have front := pick_run items 0 (items.size - 1)
  rw [show (List.range (items.size - 1)).map (0 + ·) = List.range (items.size - 1) from by simp, List.drop_zero] at front
  unfold slicePick
  rw [where_]
  change ((sliceRange (((items.size - 1 : Nat) : Int) - 1) (-1) (-1)).filterMap (items[·]?)).toArray = _
  rw [PySem.W.krv_sliceRange, PySem.W.krv_range, List.filterMap_reverse, front, List.dropLast_eq_take, Array.length_toList]
theorem vals_init {xs : List V} {its : List Value} (r : Vals xs its) : Vals xs.dropLast its.dropLast := by
  simpa [List.dropLast_eq_take, r.length] using r.take (its.length - 1)
theorem pe_back2 {e : Expr} {te : TE} {k k2 : Nat} {p1 p2 p3 p4 p5 pos : Pos} (he : PE X e te) : PE X (.Subscript e (.Slice (some (.UnaryOp .USub (.Constant (.int 2) k2 p4) p5)) none (some (.UnaryOp .USub (.Constant (.int 1) k p1) p2)) p3) pos) (tBack2 X.K te) := by
  constructor
  intro pins s0 σ H W J w
  have minus : ∀ (m : Int) (k : Nat) (p q : Pos), PO X (some (.UnaryOp .USub (.Constant (.int m) k p) q)) (tPart (tUn (rU fun i => .int (-i)) (tC (.int m)))) := fun _ _ _ _ => po_some (pe_un un_neg pe_int)
  refine Subscript_ (thn (he.run pins s0 σ H _ J w) ?_)
  rintro _ s1 ⟨_, H1, J1, rel, a, xs, rfl, lst, some_, w1⟩
  cases rel
  refine wpAny_Slice (thn ((minus 2 k2 p4 p5).run pins s1 σ H1 (fun o G => o = some (-2) ∧ G = H1) J1 ⟨2, rfl, -2, rfl, rfl, rfl⟩) ?_)
  rintro low s2 ⟨_, _, J2, n2, rfl, rfl⟩
  refine thn (po_none.run pins s2 σ _ (fun o G => o = none ∧ G = _) J2 ⟨rfl, rfl⟩) ?_
  rintro up s3 ⟨_, _, J3, n3, rfl, rfl⟩
  refine thn ((minus 1 k p1 p2).run pins s3 σ _ (fun o G => o = some (-1) ∧ G = _) J3 ⟨1, rfl, -1, rfl, rfl, rfl⟩) ?_
  rintro step s4 ⟨_, _, J4, part, rfl, rfl⟩
  have J5 := J4.kept (t' := s4.toks) (h' := s4.heap.push { cls := .type "slice", data := .fields #[low, up, step] }) fun _ _ z => Heap.get?_push_of_some _ z
  obtain ⟨its, vals, isL, line⟩ := J5.list lst
  have many : its.toArray.size ≤ sizeLine := by
    rw [List.size_toArray, ← vals.length]
    exact line
  have any_ : 0 < its.toArray.size := by
    rw [List.size_toArray, ← vals.length]
    exact List.length_pos_iff.mpr some_
  change wpAny (model X.prog X.w) X.A (subscriptTail e (.Slice (some (.UnaryOp .USub (.Constant (.int 2) k2 p4) p5)) none (some (.UnaryOp .USub (.Constant (.int 1) k p1) p2)) p3) (.ref a) (.ref s4.heap.objs.size)) (EP X pins σ W) X.xe { s4 with heap := s4.heap.push { cls := .type "slice", data := .fields #[low, up, step] } }
  refine tail_any (ops := [.ref a, .ref s4.heap.objs.size]) isL.isList.typeIs (PySem.slot_list_getitem.lookup) (wpAny_getItem_list_slice isL.isList (Heap.IsSliceOf.new _ low up step) n2 n3 part (by decide) ?_ many) (by with_unfolding_all rfl)
  have short : xs.dropLast.reverse.length ≤ sizeLine := by
    rw [List.length_reverse, List.length_dropLast]
    omega
  have laid := J5.laid (t' := s4.toks) (o := .lst xs.dropLast.reverse) (fun _ _ z => Heap.get?_push_of_some _ z) (Nat.le_refl _) ⟨short, _, 0, (vals_init vals).reverse, Heap.get?_push_size _ rfl⟩
  rw [pick_back2 _ any_]
  exact ⟨.ref _, _, laid, rfl, w1 _ (J5.hok.fresh (Nat.le_refl _))⟩
end
end L2

/-! C(): an own exception without fields, whose __init__ says super().__init__(..) -/
namespace L2
open PySem PySem.Spec PyProof.Rows
section
variable {X : Cx}
/-- what happened after an exception object was laid at a, told of the heaps without a -/
theorem un_less {fs : List Addr} {H1 H2 : Hp} {hp hp2 h2 G : Heap} {a : Addr} {o : HO} (un : Un fs [] (upd H1 a o) H2 hp2 h2) (stays : ∀ b ob, hp.get? b = some ob → hp2.get? b = some ob) (above : hp.objs.size ≤ a) (new : H1 a = none) (same : ∀ b, b ≠ a → G.get? b = h2.get? b) : Un fs [] H1 (del H2 a) hp G := by
  have off : ∀ {b : Addr} {ob : Obj}, hp.get? b = some ob → b ≠ a := fun z e => absurd (Heap.lt_size z) (by rw [e]; exact Nat.not_lt.mpr above)
  have offH : ∀ {b : Addr} {t : HO}, H1 b = some t → b ≠ a := fun z e => by rw [e, new] at z; exact nomatch z
  have old : ∀ {b : Addr}, b ≠ a → upd H1 a o b = H1 b := fun z => upd_ne z
  constructor
  case keep => exact fun b ob z n p q => (same b (off z)).trans (un.keep b ob (stays b ob z) ((old (off z)).trans n) p q)
  case slot =>
    intro b ob z n p q
    obtain ⟨sl, r⟩ := un.slot b ob (stays b ob z) ((old (off z)).trans n) p q
    exact ⟨sl, (same b (off z)).trans r⟩
  case free => exact fun b ob z n q => (del_ne (off z)).trans (un.free b ob (stays b ob z) ((old (off z)).trans n) q)
  case there =>
    intro b ob z q
    obtain ⟨ob2, r⟩ := un.there b ob (stays b ob z) q
    exact ⟨ob2, (same b (off z)).trans r⟩
  case tups => exact fun b xs z => (del_ne (offH z)).trans (un.tups b xs ((old (offH z)).trans z))
  case frzs => exact fun b t v z => (del_ne (offH z)).trans (un.frzs b t v ((old (offH z)).trans z))
  case tbls =>
    intro b ps z
    obtain ⟨m, r⟩ := un.tbls b ps ((old (offH z)).trans z)
    exact ⟨m, (del_ne (offH z)).trans r⟩
/-- the tracked objects without the exception object -/
theorem hok_less {P : Program} {w : World} {H : Hp} {h G : Heap} {a C : Addr} (ok : HOk P w H h) (ea : H a = some (exo a C none)) (same : ∀ b, b ≠ a → G.get? b = h.get? b) : HOk P w (del H a) G := by
  intro b o z
  have nb : b ≠ a := by
    rintro rfl
    rw [del_same] at z
    exact nomatch z
  rw [del_ne nb] at z
  have own : ∀ {c : Addr}, H c = some (.own b) → c ≠ a := fun y => at_ne ea y exo_own
  refine (ok b o z).stay ?_ (fun c y => (del_ne (own y)).trans y) fun c xs y => (del_ne (at_ne ea y exo_tup)).trans y
  rintro c v (rfl | y) r
  · exact (same c nb).trans r
  · exact (same c (own y)).trans r
/-- C() -/
def tMkS0 (C : Addr) (sp : Sp) : St → Hp → XK → Prop := fun σ H Q => ∀ a, H a = none → sp [.ref a] (upd H a (exo a C none)) (fun v H2 => v = .non ∧ H2 a = some (exo a C none) ∧ Q (.ref C) none (del H2 a)) (fun _ _ _ => False)
/-- C is an own exception class over a built-in one -/
structure OexB (newId : String) (bmB : List Value) (K : PySem.W.Frag) (C : Addr) : Prop where
  cls : ∃ nm q N bs bm sn sub ab col dd k0 k1 k2 k3 k5, K.lookup C = some (excClassObj nm q C N bs bm true sn sub ab col dd k0 k1 k2 k3 k5 newId) ∧ refsTo bmB bm = true
  exc : PySem.W.subIn K (.ref C) (.type "BaseException") = some true ∧ PySem.W.typeIn K (.ref C) = some (.type "type") ∧ PySem.W.keepIn K (.ref C) = true
theorem pmk_sup0 {CX : CXT} {x : Str} {C g : Addr} {n : Nat} {fd : FuncData} {ps : List Str} {pr : Sp} {B newId initId : String} {bmB : List Value} {p pos : Pos} (FB : ExcBaseFacts B newId initId bmB) (cls : OexB newId bmB X.K C) (init : PySem.W.findIn X.K (.ref C) "__init__" = some (some (.ref g))) (isfn : PySem.W.typeIn X.K (.ref g) = some (.type "function"))
    (F : FnG X.prog X.w X.K X.mg X.base CX n g fd ps pr) (quiet : X.A.guards = some []) (room : Room (n + 1) X.A) (bn : Binds X.K fd ps []) (pass : Passes CX X (fun _ _ _ => False)) (gl : Gl X x) (at_ : X.mg x = some (.ref C))
    (nd : (x == ("__debug__" : Str)) = false := by decide) :
    PMk X (.Call (.Name x p) [] [] pos) (tMkS0 C pr) := by
  rintro pins ⟨hp, gens, dr, tk, os⟩ σ G W J w
  refine wpAny_Call_Name_kw (ld_glob J gl at_ (PySem.W.callWith_K0 J.kIn cls.exc.2.2 ?_) nd)
  change wpAny _ _ (PySem.call (.ref C) []) _ _ _
  obtain ⟨_, _, _, _, bm, _, _, _, _, _, _, _, _, _, _, look, tail⟩ := cls.cls
  obtain ⟨stays, J2⟩ := exc_laid (args := []) (C := C) J
  have unknown := J.hok.fresh (Nat.le_succ hp.objs.size)
  have w1 := w _ unknown
  have rel : Vals [V.ref (hp.objs.size + 1)] [Value.ref (hp.objs.size + 1)] := .cons rfl .nil
  have many : ([Value.ref (hp.objs.size + 1)] ++ []).length = ps.length := rel.length.symm.trans (F.len _ _ _ _ w1)
  have run := F.run _ X.stack _ _ ⟨[Value.ref (hp.objs.size + 1)], []⟩ _ _ _ (fun _ _ _ => False) (make_guards.trans quiet) (room.make C [] []) (J2.env0.make C [] []) (bn _ [Value.ref (hp.objs.size + 1)] J2.kIn many) rel w1
  refine wpAny_call (PySem.HandSPX.call_own FB (fun Y => refsTo_contains Y bm tail) (J.kIn _ _ look) (PySem.W.looks_findIn J.kIn init) (fun self => PySem.W.bind_fn J.kIn self isfn) (Nat.zero_le _) (codeAny_mono run ?_))
  rintro (er | fl) ⟨h3, gens3, dr3, tk3, os3⟩ z
  · exact pass pins σ _ _ er _ J2 z
  · cases fl with
    | ret u =>
      obtain ⟨_, G3, same, bare, un, ok, none_, rfl, ea, w3⟩ := z
      obtain ⟨_, obj⟩ := exo_at ok ea
      obtain ⟨h4, rest, gone⟩ := restrict h3 fun b => decide (b ≠ hp.objs.size + 1)
      have alike : ∀ b, b ≠ hp.objs.size + 1 → h4.get? b = h3.get? b := fun b nb => rest b (decide_eq_true nb)
      have lost : h4.get? (hp.objs.size + 1) = none := gone _ (by simp)
      have J4 := J.call' (ch := []) (s' := ⟨h4, gens3, dr3, tk3, os3⟩) same (un_less un stays (Nat.le_succ _) unknown alike) (hok_less ok ea alike) bare (fun b y => absurd y (by simp))
      have back : ∀ b o, h4.get? b = some o → h3.get? b = some o := by
        intro b o y
        rcases Nat.decEq b (hp.objs.size + 1) with nb | rfl
        · exact (alike b nb).symm.trans y
        · rw [lost] at y
          exact nomatch y
      exact ⟨none_, _, _, _, _, _, .ref C, none, rfl, J4, back, lost, obj, ⟨rfl, rfl⟩, rfl, rfl, del_same, rfl, bare, raises_own cls.exc.1 cls.exc.2.1, w3⟩
    | _ => exact z.elim
end
end L2

/-! sorted(xs), xs a list of plain data of any depth (numbers, texts, tuples of them) -/
namespace L2
open PySem PySem.Spec PyProof.Rows
section
variable {X : Cx}
theorem eachOf {β : Type} {val : β → V} : ∀ {bs : List β} {us : List Value}, Vals (bs.map val) us → PySem.W.EachIs (fun u b => RelV (val b) u) us bs
  | [], _, r => by
    cases r
    exact .nil
  | _ :: _, _, r => by
    cases r with
    | cons h t => exact .cons h (eachOf t)
theorem ofEach {β : Type} {val : β → V} : ∀ {bs : List β} {us : List Value}, PySem.W.EachIs (fun u b => RelV (val b) u) us bs → Vals (bs.map val) us
  | [], _, r => by
    cases r
    exact .nil
  | _ :: _, _, r => by
    cases r with
    | cons h t => exact .cons h (ofEach t)
theorem eachReads {pins : List (Addr × Obj)} {σ : St} {H : Hp} {s : Shared} (I : Inv X pins σ H s) {β : Type} {val : β → V} {enc : β → PyData} : ∀ {bs : List β} {us : List Value}, (∀ b ∈ bs, Dp X.K H (val b) (enc b)) → Vals (bs.map val) us →
    PySem.W.EachIs (fun u b => ∃ as, Reads s.heap u (enc b) as) us bs
  | [], _, _, r => by
    cases r
    exact .nil
  | b :: bs, _, d, r => by
    cases r with
    | cons h t => exact .cons (Dp.reads I (enc b) (val b) _ (d b List.mem_cons_self) h) (eachReads I (fun c m => d c (List.mem_cons_of_mem _ m)) t)
/-- how sorted answers: the items bs stand as val and read as enc; the new list holds them in order, equal ones as they stood -/
def rSortB (K : PySem.W.Frag) : List V → Hp → VK → Prop := fun vs H Q => ∃ (a : Addr) (β : Type) (val : β → V) (enc : β → PyData) (bs : List β), vs = [V.ref a] ∧ SqL K H a (bs.map val) ∧ (∀ b ∈ bs, Dp K H (val b) (enc b)) ∧
  (∀ b ∈ bs, (enc b).depth ≤ 60) ∧ PySem.W.AllAlike (bs.map enc) ∧ PySem.W.Sortable (bs.map enc) ∧ ∀ p, H p = none → Q (.ref p) (upd H p (.lst ((bs.mergeSort (PySem.W.dataLe false enc)).map val)))
theorem cr_sortB (room : X.A.units + 70 < cLine) : CallR X (.builtin "sorted") (rSortB X.K) := by
  intro pins s σ H vs us Q I r h
  obtain ⟨a, β, val, enc, bs, rfl, isL, data, flat, alk, ord, q⟩ := h
  obtain ⟨its, rv, hl, hz⟩ := I.list isL
  rw [Vals.ref1 r]
  rw [List.length_map] at hz
  refine PySem.W.sorted_data (R := fun u b => RelV (val b) u) (enc := enc) (bs := bs) hl.isList (eachOf rv) (eachReads I data rv) alk ord hz (fun b m => ?_) fun out many each => ?_
  · have := flat b m
    omega
  have gone : H (s.heap.objs.size + 1) = none := I.hok.fresh (Nat.le_succ _)
  obtain ⟨n, at_⟩ := sortedAll_at s.heap its out.toArray
  have vals := ofEach each
  have few : ((bs.mergeSort (PySem.W.dataLe false enc)).map val).length ≤ sizeLine := by
    rw [List.length_map, List.length_mergeSort]
    exact hz
  have J := I.laid (a := s.heap.objs.size + 1) (o := .lst ((bs.mergeSort (PySem.W.dataLe false enc)).map val)) (h' := sortedAll s.heap its out.toArray) (t' := s.toks) (fun b o e => sortedAll_old e) (Nat.le_succ _) ⟨few, out, n, vals, at_⟩
  exact ⟨V.ref (s.heap.objs.size + 1), _, J, rfl, q _ gone⟩
end

/-! {k: v} with a tuple for its one key -/
section
variable {X : Cx}
/-- the new dict stands empty while its pair is made -/
def tOneT (tk tv : TE) : TE := fun σ H Q => ∀ p, H p = none → tPairs [(tk, tv)] σ (upd H p (.dT [])) fun ps H2 => H2 p = some (.dT []) ∧ ∃ (b : Addr) (k : List Key) (y : V), ps = [(.ref b, y)] ∧ H2 b = some (.tup (k.map kV)) ∧ Q (.ref p) (upd H2 p (.dT [(k, y)]))
theorem pe_oneT {pos : Pos} {key value : Expr} {tk tv : TE} (room : X.A.units + 1 < cLine) (hk : PE X key tk) (hv : PE X value tv) : PE X (.Dict [some key] [value] pos) (tOneT tk tv) := by
  refine ⟨fun pins s σ H Q I q => ?_⟩
  have gone := I.hok.fresh (Nat.le_refl s.heap.objs.size)
  have I1 := I.laid (a := s.heap.objs.size) (o := .dT []) (h' := s.heap.push { cls := .type "dict", data := .dict #[] }) (t' := s.toks) (fun _ _ q => Heap.get?_push_of_some _ q) (Nat.le_refl _) (dt_empty s.heap I.big)
  have shape := zip_pairTrees [some key] [value] X.env pos rfl rfl
  have one := pairTrees_length [some key] [value] X.env pos rfl rfl
  have run := (pps_cons (pos := pos) hk hv pps_nil).run pins _ σ _ _ I1 (q _ gone)
  generalize pairTrees [some key] [value] X.env pos = trees at shape one run
  rw [arm_eval_Dict, shape, dictDisplay_pairs trees (fun z => by rw [z] at one; cases one) (by rw [one]; exact Nat.le_of_ble_eq_true rfl)]
  refine wpAny_bind (wpAny_standAt (wpAny_bind (wpAny_subDictH (knd := tupleKind (mixKind X.prog X.w)) (Q := fun d s' => wpAny (model X.prog X.w) X.A (pure (Value.ref d)) (EP X pins σ Q) X.xe s') (show X.A.units < cLine by omega) (by rw [one]; exact Nat.le_of_ble_eq_true rfl) (thn run ?_))))
  rintro ws s2 ⟨ps, H2, I2, rel, e, b, k, y, rfl, eb, q2⟩
  cases rel with
  | @cons _ w _ _ h1 h2 =>
    cases h2
    obtain ⟨wk, wv⟩ := w
    obtain ⟨rk, rv⟩ := h1
    obtain rfl : wk = Value.ref b := rk
    obtain ⟨z, hd, xs, rel, dd⟩ := dt_of I2.hok e
    cases rel
    refine ⟨[(k, b, wv)], ⟨rfl, rfl, key_of I2.hok eb, True.intro⟩, dd, fun h' tk' dd' hs => wpAny_pure ⟨.ref s.heap.objs.size, _, ?_, rfl, q2⟩⟩
    obtain ⟨o, es, ep, ho, h3, h4, h5, _, h6⟩ := dd'
    refine d_write I2 (by rw [e]; exact True.intro) hs ⟨o, ho⟩ ⟨by rw [sizeLine_eq]; exact Nat.le_of_ble_eq_true rfl, hd, [(k, b, wv)], .cons ⟨rfl, ?_, rv⟩ .nil, o, es, ep, ho, h3, h4, h5, h6⟩
    rw [upd_ne (ne_of eb e (fun z => nomatch z))]
    exact eb
end
end L2

/-! The texts of polynomials, in plain words. -/
namespace TXM
open PySem PySem.Builtin PySem.Builtin.Str PyProof.Rows
def tx (i : Int) : Str := Str.ofString (toString i)
theorem cps_app (a b : Str) : (a ++ b).cps.toList = a.cps.toList ++ b.cps.toList := by
  show (a.cps ++ b.cps).toList = _
  simp
theorem str_ext {a b : Str} (h : a.cps.toList = b.cps.toList) : a = b := by
  obtain ⟨x⟩ := a
  obtain ⟨y⟩ := b
  congr 1
  exact Array.toList_inj.mp h
theorem app_assoc (a b c : Str) : a ++ b ++ c = a ++ (b ++ c) := str_ext (by simp only [cps_app, List.append_assoc])
theorem empty_app (a : Str) : Str.empty ++ a = a := str_ext (by rw [cps_app]; rfl)
theorem app_empty (a : Str) : a ++ Str.empty = a := str_ext (by rw [cps_app]; exact List.append_nil _)
/-- signs that are seen -/
def Ink (x : Str) : Prop := ∀ c ∈ x.cps.toList, 33 ≤ c ∧ c < 127
def Low (x : Str) : Prop := ∀ c ∈ x.cps.toList, c < 127
theorem Ink.low {x : Str} (h : Ink x) : Low x := fun c hc => (h c hc).2
theorem Ink.app {x y : Str} (h : Ink x) (k : Ink y) : Ink (x ++ y) := fun c hc => by
  rw [cps_app] at hc
  exact (List.mem_append.mp hc).elim (h c) (k c)
theorem Low.app {x y : Str} (h : Low x) (k : Low y) : Low (x ++ y) := fun c hc => by
  rw [cps_app] at hc
  exact (List.mem_append.mp hc).elim (h c) (k c)
theorem ink_tx (i : Int) : Ink (tx i) := fun c hc => by
  by_cases h : c ≠ 45 ∧ (c < 48 ∨ 57 < c)
  · exact absurd hc (int_text_free' c h i)
  · omega
theorem Low.repr {x : Str} (h : Low x) : (reprText x).length ≤ 10 * x.length + 2 := StrLaws.reprText_len x fun c hc => by
  have := h c hc
  have e : (16 : Nat) ^ 8 = 4294967296 := by decide
  omega
theorem tx_ne (i : Int) : (tx i).cps.toList ≠ [] := by
  intro h
  unfold tx at h
  rw [signs_ofString] at h
  have h2 : (toString i).toList = [] := List.map_eq_nil_iff.mp h
  cases i with
  | ofNat n =>
    have e : (toString (Int.ofNat n)) = n.repr := rfl
    rw [e, Nat.toList_repr] at h2
    exact Nat.toDigits_ne_nil h2
  | negSucc n =>
    have e : (toString (Int.negSucc n)) = "-" ++ (n + 1).repr := rfl
    rw [e, String.toList_append] at h2
    simp at h2
/-! ### strip -/
theorem takeW {p : Nat → Bool} : ∀ (s m : List Nat), (∀ c ∈ s, p c = true) → (∀ c, m.head? = some c → p c = false) → (s ++ m).takeWhile p = s
  | [], m, _, hm => by
    cases m with
    | nil => rfl
    | cons c l => simp [List.takeWhile_cons, hm c rfl]
  | a :: s, m, hs, hm => by
    rw [List.cons_append, List.takeWhile_cons, if_pos (hs a (by simp)), takeW s m (fun c hc => hs c (by simp [hc])) hm]
theorem strip_mid {x : Str} {s1 m s2 : List Nat} (e : x.cps.toList = s1 ++ m ++ s2) (h1 : ∀ c ∈ s1, Unicode.isSpace c = true) (h2 : ∀ c ∈ s2, Unicode.isSpace c = true) (hh : ∀ c, m.head? = some c → Unicode.isSpace c = false) (hl : ∀ c, m.getLast? = some c → Unicode.isSpace c = false) (hm : m ≠ []) :
    Txt.strip x = ⟨m.toArray⟩ := by
  unfold Txt.strip
  rw [stripBy_eq]
  have hx : x.length = s1.length + m.length + s2.length := by
    show x.cps.size = _
    rw [← Array.length_toList, e]
    simp only [List.length_append]
  have lo : stripLo Unicode.isSpace true x = s1.length := by
    simp only [stripLo, if_true]
    rw [e, List.append_assoc, takeW s1 (m ++ s2) h1 (fun c hc => hh c (by
      cases m with
      | nil => exact absurd rfl hm
      | cons a l => exact hc))]
  have hi : stripHi Unicode.isSpace true x s1.length = s1.length + m.length := by
    simp only [stripHi, if_true]
    rw [e, List.append_assoc, List.drop_left, List.reverse_append, takeW s2.reverse m.reverse (fun c hc => h2 c (List.mem_reverse.mp hc)) (fun c hc => hl c (by rw [List.head?_reverse] at hc; exact hc)), List.length_reverse, hx]
    omega
  rw [lo, hi]
  refine str_ext ?_
  show (x.cps.extract s1.length (s1.length + m.length)).toList = m
  rw [Array.toList_extract, e]
  show ((s1 ++ m ++ s2).extract s1.length (s1.length + m.length)) = m
  rw [List.extract_eq_drop_take, List.append_assoc, List.drop_left, show s1.length + m.length - s1.length = m.length by omega, List.take_left]
/-! ### terms -/
def powT (e : Nat) : Str := if e = 1 then ("d" : Str) else ("d^" : Str) ++ tx e
def pieceT (c : Int) (e : Nat) : Str := if e = 0 then tx c.natAbs else if c.natAbs = 1 then powT e else tx c.natAbs ++ (" " : Str) ++ powT e
def frontT (first : Bool) (c : Int) : Str := if first then (if c < 0 then ("-" : Str) else ("" : Str)) else (if c < 0 then (" - " : Str) else (" + " : Str))
def goT (s : Str) : List (Int × Nat) → Str
  | [] => s
  | (c, e) :: l => goT (s ++ frontT (decide (s = Str.empty)) c ++ pieceT c e) l
/-- the terms that are not 0, the lowest first -/
def terms (r : List Int) : List (Int × Nat) := r.zipIdx.filter fun p => decide (p.1 ≠ 0)
def textT (r : List Int) : Str := if terms r = [] then ("0" : Str) else goT Str.empty (terms r).reverse
theorem goT_snoc : ∀ (l : List (Int × Nat)) (s : Str) (c : Int) (e : Nat), goT s (l ++ [(c, e)]) = goT s l ++ frontT (decide (goT s l = Str.empty)) c ++ pieceT c e
  | [], s, c, e => rfl
  | (a, b) :: l, s, c, e => by
    show goT (s ++ frontT (decide (s = Str.empty)) a ++ pieceT a b) (l ++ [(c, e)]) = _
    rw [goT_snoc l]
    rfl
theorem ink_d : Ink ("d" : Str) := by unfold Ink; decide +kernel
theorem ink_dh : Ink ("d^" : Str) := by unfold Ink; decide +kernel
theorem ink_pow (e : Nat) : Ink (powT e) := by
  unfold powT
  split
  · exact ink_d
  · exact ink_dh.app (ink_tx _)
theorem d_cps : ("d" : Str).cps.toList = [100] := by decide +kernel
theorem dh_cps : ("d^" : Str).cps.toList = [100, 94] := by decide +kernel
theorem sp_cps : (" " : Str).cps.toList = [32] := by decide +kernel
theorem e_cps : ("" : Str).cps.toList = [] := by decide +kernel
theorem pow_ne (e : Nat) : (powT e).cps.toList ≠ [] := by
  unfold powT
  split
  · rw [d_cps]; simp
  · rw [cps_app, dh_cps]; simp
theorem piece_ne (c : Int) (e : Nat) : (pieceT c e).cps.toList ≠ [] := by
  unfold pieceT
  split
  · exact tx_ne _
  · split
    · exact pow_ne _
    · rw [cps_app, cps_app, sp_cps]; simp
theorem low_lit_sp : Low (" " : Str) := by unfold Low; decide +kernel
theorem low_piece (c : Int) (e : Nat) : Low (pieceT c e) := by
  unfold pieceT
  split
  · exact (ink_tx _).low
  · split
    · exact (ink_pow _).low
    · exact ((ink_tx _).low.app low_lit_sp).app (ink_pow _).low
theorem low_front (b : Bool) (c : Int) : Low (frontT b c) := by
  unfold frontT
  split <;> split <;> (unfold Low; decide +kernel)
theorem low_goT : ∀ (l : List (Int × Nat)) (s : Str), Low s → Low (goT s l)
  | [], s, h => h
  | (c, e) :: l, s, h => low_goT l _ ((h.app (low_front _ _)).app (low_piece _ _))
theorem low_empty : Low Str.empty := fun c hc => by cases hc
theorem low_textT (r : List Int) : Low (textT r) := by
  unfold textT
  split
  · unfold Low; decide +kernel
  · exact low_goT _ _ low_empty
theorem app_ne {s t : Str} (h : t.cps.toList ≠ []) : s ++ t ≠ Str.empty := fun e => by
  have h2 := congrArg (fun x : Str => x.cps.toList) e
  simp only [cps_app] at h2
  have h3 : s.cps.toList ++ t.cps.toList = [] := h2
  exact h (List.append_eq_nil_iff.mp h3).2
theorem goT_ne : ∀ (l : List (Int × Nat)) (s : Str), s ≠ Str.empty → goT s l ≠ Str.empty
  | [], s, h => h
  | (c, e) :: l, s, h => goT_ne l _ (app_ne (piece_ne c e))
theorem goT_empty (l : List (Int × Nat)) : goT Str.empty l = Str.empty ↔ l = [] := by
  cases l with
  | nil => exact ⟨fun _ => rfl, fun _ => rfl⟩
  | cons p l =>
    obtain ⟨c, e⟩ := p
    refine ⟨fun h => absurd h (goT_ne l _ (app_ne (piece_ne c e))), fun h => by cases h⟩
/-! ### the word of the law -/
theorem tx_head {i : Int} : ∀ c, (tx i).cps.toList.head? = some c → Unicode.isSpace c = false := fun c hc => by
  have := ink_tx i c (List.mem_of_mem_head? hc)
  exact PySem.W.KXs.no_space c this.2 this.1
theorem ink_head {x : Str} (h : Ink x) : ∀ c, x.cps.toList.head? = some c → Unicode.isSpace c = false := fun c hc => by
  have := h c (List.mem_of_mem_head? hc)
  exact PySem.W.KXs.no_space c this.2 this.1
theorem ink_last {x : Str} (h : Ink x) : ∀ c, x.cps.toList.getLast? = some c → Unicode.isSpace c = false := fun c hc => by
  have := h c (List.mem_of_getLast? hc)
  exact PySem.W.KXs.no_space c this.2 this.1
theorem sp_space : ∀ c ∈ ([32] : List Nat), Unicode.isSpace c = true := by decide +kernel
def nameT (k : Nat) : Str := (if k > 0 then ("d" : Str) else ("" : Str)) ++ (if k > 1 then ("^" : Str) ++ tx k else ("" : Str))
def wordT (c : Int) (k : Nat) : Str := (if c.natAbs = 1 ∧ k > 0 then ("" : Str) else tx c.natAbs) ++ (" " : Str) ++ nameT k
theorem name0 : nameT 0 = ("" : Str) := by decide +kernel
theorem name_pow {k : Nat} (h : k > 0) : nameT k = powT k := by
  unfold nameT powT
  rw [if_pos h]
  by_cases h1 : k = 1
  · subst h1
    decide +kernel
  · rw [if_pos (by omega), if_neg h1, ← app_assoc]
    congr 1
theorem strip_word (c : Int) (k : Nat) : Txt.strip (wordT c k) = pieceT c k := by
  unfold wordT pieceT
  by_cases h0 : k = 0
  · subst h0
    rw [if_neg (by omega), if_pos rfl, name0]
    rw [strip_mid (s1 := []) (m := (tx c.natAbs).cps.toList) (s2 := [32]) (by rw [cps_app, cps_app, sp_cps, e_cps]; simp) (fun c hc => by cases hc) sp_space (ink_head (ink_tx _)) (ink_last (ink_tx _)) (tx_ne _)]
  · rw [name_pow (by omega), if_neg h0]
    by_cases h1 : c.natAbs = 1
    · rw [if_pos ⟨h1, by omega⟩, if_pos h1]
      rw [strip_mid (s1 := [32]) (m := (powT k).cps.toList) (s2 := []) (by rw [cps_app, cps_app, sp_cps, e_cps]; simp) sp_space (fun c hc => by cases hc) (ink_head (ink_pow _)) (ink_last (ink_pow _)) (pow_ne _)]
    · rw [if_neg (fun z => h1 z.1), if_neg h1]
      rw [strip_mid (x := tx c.natAbs ++ (" " : Str) ++ powT k) (s1 := []) (m := (tx c.natAbs ++ (" " : Str) ++ powT k).cps.toList) (s2 := []) (by simp) (fun c hc => by cases hc) (fun c hc => by cases hc) (fun d hd => ?_) (fun d hd => ?_) ?_]
      · rw [cps_app]
        intro z
        exact pow_ne k (List.append_eq_nil_iff.mp z).2
      · refine ink_head (ink_tx c.natAbs) d ?_
        rw [cps_app, cps_app] at hd
        cases e : (tx c.natAbs).cps.toList with
        | nil => exact absurd e (tx_ne _)
        | cons a l => rw [e] at hd; exact hd
      · refine ink_last (ink_pow k) d ?_
        rw [cps_app] at hd
        cases e : (powT k).cps.toList with
        | nil => exact absurd e (pow_ne _)
        | cons a l =>
          rw [e, List.getLast?_append] at hd
          simp only [List.getLast?_cons] at hd ⊢
          simpa using hd
/-! ### joins of pieces -/
theorem join_fold : ∀ (l : List Str) (acc : Array Nat), (⟨l.foldl (fun acc p => acc ++ (Str.empty).cps ++ p.cps) acc⟩ : Str) = ⟨acc⟩ ++ l.foldr (· ++ ·) Str.empty
  | [], acc => (app_empty _).symm
  | a :: l, acc => by
    rw [List.foldl_cons, join_fold l, List.foldr_cons, ← app_assoc]
    congr 1
theorem join0 (l : List Str) : Txt.join Str.empty l = l.foldr (· ++ ·) Str.empty := by
  cases l with
  | nil => rfl
  | cons a l =>
    show (⟨l.foldl (fun acc p => acc ++ (Str.empty).cps ++ p.cps) a.cps⟩ : Str) = _
    rw [join_fold]
    rfl
theorem foldr_snoc : ∀ (l : List Str) (x : Str), (l ++ [x]).foldr (· ++ ·) Str.empty = l.foldr (· ++ ·) Str.empty ++ x
  | [], x => by show x ++ Str.empty = Str.empty ++ x; rw [app_empty, empty_app]
  | a :: l, x => by
    rw [List.cons_append, List.foldr_cons, List.foldr_cons, foldr_snoc l x, app_assoc]
theorem join_snoc (l : List Str) (x : Str) : Txt.join Str.empty (l ++ [x]) = Txt.join Str.empty l ++ x := by
  rw [join0, join0, foldr_snoc]
/-! ### lengths -/
theorem lit_len {x : Str} {n : Nat} (h : x.length = n) : x.length ≤ n := Nat.le_of_eq h
theorem front_len (b : Bool) (c : Int) : (frontT b c).length ≤ 3 := by
  unfold frontT
  split <;> split <;> decide +kernel
theorem pow_len {e : Nat} (h : (tx e).length ≤ 2000) : (powT e).length ≤ 2002 := by
  unfold powT
  split
  · exact Nat.le_trans (m := 1) (by decide +kernel) (by omega)
  · rw [strLen_append]
    have : (("d^" : Str)).length = 2 := by decide +kernel
    omega
theorem piece_len {c : Int} {e : Nat} (h : (tx e).length ≤ 2000) (k : (tx c.natAbs).length ≤ 2000) : (pieceT c e).length ≤ 4003 := by
  unfold pieceT
  have hp := pow_len h
  split
  · omega
  · split
    · omega
    · rw [strLen_append, strLen_append]
      have : ((" " : Str)).length = 1 := by decide +kernel
      omega
theorem goT_len : ∀ (l : List (Int × Nat)) (s : Str), (∀ p ∈ l, (tx p.2).length ≤ 2000 ∧ (tx p.1.natAbs).length ≤ 2000) → (goT s l).length ≤ s.length + 4006 * l.length
  | [], s, _ => by show s.length ≤ _; omega
  | (c, e) :: l, s, h => by
    have ih := goT_len l (s ++ frontT (decide (s = Str.empty)) c ++ pieceT c e) fun p hp => h p (by simp [hp])
    have h1 := front_len (decide (s = Str.empty)) c
    have h2 : (pieceT c e).length ≤ 4003 := piece_len (h (c, e) (by simp)).1 (h (c, e) (by simp)).2
    rw [strLen_append, strLen_append] at ih
    show (goT (s ++ frontT (decide (s = Str.empty)) c ++ pieceT c e) l).length ≤ _
    rw [List.length_cons]
    omega
end TXM

namespace S11
open PySem L2
def top (i : Nat) : Stmt := PySem.Challenge.pw_slotsums_k11_symmetric_and_alternating.main.body.getD i (.Pass ⟨0, 0, 0, 0⟩)
abbrev sINInit : Stmt := inClass (top 2) 0
abbrev sICInit : Stmt := inClass (top 3) 0
abbrev sIPInit : Stmt := inClass (top 6) 0
abbrev sVInit : Stmt := inClass (top 7) 0
abbrev sIsInt : Stmt := top 9
abbrev sIsCount : Stmt := top 10
abbrev sIsName : Stmt := top 15
abbrev sIsList : Stmt := top 16
abbrev sWantName : Stmt := top 17
abbrev sWantSlots : Stmt := top 18
abbrev sIsOrder : Stmt := top 19
abbrev sIsTurn : Stmt := top 20
abbrev sMoved : Stmt := top 21
abbrev sClosed : Stmt := top 22
abbrev sNeigh : Stmt := top 23
abbrev sPot : Stmt := top 26
abbrev sDraw : Stmt := top 27
abbrev sPick : Stmt := top 28
abbrev sLName : Stmt := top 29
abbrev sOrders : Stmt := top 30
abbrev sParity : Stmt := top 31
abbrev sLMoved : Stmt := top 32
abbrev sLLeast : Stmt := top 33
abbrev sLPlaces : Stmt := top 34
abbrev sIs : Stmt := top 35
abbrev sOther : Stmt := top 36
abbrev sGroup : Stmt := top 37
abbrev sPlRef : Stmt := top 38
abbrev sMkRef : Stmt := top 39
abbrev sNamed : Stmt := top 40
abbrev sLaw : Stmt := top 41
abbrev sTInit : Stmt := inClass (top 24) 0
abbrev sTSym : Stmt := inClass (top 24) 1
abbrev sTAlt : Stmt := inClass (top 24) 2
abbrev sTAlike : Stmt := inClass (top 24) 3
abbrev sTSign : Stmt := inClass (top 24) 4
abbrev sTSlots : Stmt := inClass (top 24) 5
abbrev sTTurns : Stmt := inClass (top 24) 6
abbrev sTIsPl : Stmt := inClass (top 24) 7
abbrev sTWant : Stmt := inClass (top 24) 8
abbrev sTLeast : Stmt := inClass (top 24) 9
abbrev sTClass : Stmt := inClass (top 24) 10
abbrev sTNamed : Stmt := inClass (top 24) 11
abbrev sTEq : Stmt := inClass (top 24) 12
abbrev sTRepr : Stmt := inClass (top 24) 13

/-! ### heaps -/
theorem sNew {H H1 : Hp} {p : Addr} {o : HO} (s : Same H H1) (n : H1 p = none) : Same H (upd H1 p o) := fun b x e => by
  have h := s b x e
  rw [upd_ne (ne_of_none h n)]
  exact h
theorem sPut {H H1 : Hp} {p : Addr} {o : HO} (s : Same H H1) (n : H p = none) : Same H (upd H1 p o) := fun b x e => by
  rw [upd_ne (ne_of_none e n)]
  exact s b x e
theorem old {H : Hp} {p q : Addr} {o x : HO} (h : H q = some x) (n : H p = none) : upd H p o q = some x := by
  rw [upd_ne (ne_of_none h n)]; exact h
theorem sTup {K : PySem.W.Frag} {H H' : Hp} {a : Addr} {xs : List V} (e : Same H H') (h : SqT K H a xs) : SqT K H' a xs := by
  rcases h with (h | ⟨o, h⟩) | h
  · exact .inl (.inl (e _ _ h))
  · exact .inl (.inr ⟨o, e _ _ h⟩)
  · exact .inr h
/-- all but the object at x is as it was -/
def SameX (x : Addr) (H H' : Hp) : Prop := ∀ b o, b ≠ x → H b = some o → H' b = some o
theorem lt_line {n : Nat} (h : n ≤ 2000000) : n < sizeLine := Nat.lt_of_le_of_lt h (by decide)
theorem le_line {n : Nat} (h : n ≤ 2000000) : n ≤ sizeLine := Nat.le_trans h (by decide)
theorem map_get {α : Type} {l : List α} {f : α → V} {i : Nat} {y : V} (h : (l.map f)[i]? = some y) : ∃ a, l[i]? = some a ∧ y = f a := by
  rw [List.getElem?_map] at h
  cases e : l[i]? with
  | none => rw [e] at h; cases h
  | some a => rw [e] at h; exact ⟨a, rfl, (Option.some.inj h).symm⟩
theorem take_succ_map {α : Type} {l : List α} {f : α → V} {i : Nat} {a : α} (h : l[i]? = some a) : (l.take i).map f ++ [f a] = (l.take (i + 1)).map f := by
  rw [List.take_add_one, h]; simp


/-! ### comprehensions that only make things -/
section
variable {J : It} {n : Nat} {G : Hp → Prop} {Y : Nat → Hp → V → Hp → Prop}
theorem Same.trans {H H1 H2 : Hp} (a : Same H H1) (b : Same H1 H2) : Same H H2 := fun c o e => b c o (a c o e)
/-- what stands behind i turns, f saying what each turn keeps -/
def kept (f : Nat → Option V) (i : Nat) : List V := (List.range i).filterMap f
theorem kept_succ (f : Nat → Option V) (i : Nat) : kept f (i + 1) = kept f i ++ (f i).toList := by
  unfold kept
  rw [List.range_succ, List.filterMap_append]
  cases e : f i with
  | none => rw [List.filterMap_cons_none e] <;> rfl
  | some v => rw [List.filterMap_cons_some e] <;> rfl
theorem kept_len (f : Nat → Option V) (i : Nat) : (kept f i).length ≤ i := by
  unfold kept
  have := List.length_filterMap_le f (List.range i)
  rwa [List.length_range] at this
/-- a comprehension whose parts make new things and change none -/
theorem lc_new (w : Walk J n G Y) {g : TG} {tt : TT} {te : TE} {vs : List Nat} {σ : St} {H1 : Hp} {D : Addr} {Qd : Hp → Prop} (f : Nat → Option V) (few : n < sizeLine) (new : H1 D = none) (hG : ∀ H, Same H1 H → G H)
    (hs : ∀ i x H H', i < n → Same H1 H → Y i H x H' → ∀ (Kt : VK) (Kn : Hp → Prop), (∀ y H4, f i = some y → Same H H4 → Kt y H4) → (f i = none → ∀ H4, Same H H4 → Kn H4) →
      g x (wipe σ vs) H' fun σ2 H2 => wipe σ2 vs = wipe σ vs ∧ tt σ2 H2 fun b H3 => if b = true then te σ2 H3 Kt else Kn H3)
    (hd : ∀ H, Same H1 H → H D = some (.lst (kept f n)) → Qd H) :
    ∃ Z : Nat → Nat → Hp → Prop, (∃ k, Z 0 k (upd H1 D (.lst []))) ∧ ∀ j k H, Z j k H →
      (J.stop j H ∧ Qd H) ∨ (J.go j H ∧ ∃ On : Hp → Prop, (∀ H0, On H0 → ∃ k', k' < k ∧ Z (j + 1) k' H0) ∧
        ∀ v H0, J.yld j H v H0 → g v (wipe σ vs) H0 fun σ2 H2 => wipe σ2 vs = wipe σ vs ∧ tt σ2 H2 fun b H3 =>
          if b = true then te σ2 H3 (fun y H4 => ∃ ys, H4 D = some (.lst ys) ∧ ys.length < sizeLine ∧ On (upd H4 D (.lst (ys ++ [y])))) else On H3) := by
  refine lc_it w (fun i H => Same H1 H ∧ H D = some (.lst (kept f i))) ⟨sPut (Same.refl H1) new, upd_same⟩ (fun i H _ p => hG H p.1) ?_ (fun H p => hd H p.1 p.2)
  rintro i x H H' hi ⟨s1, at_⟩ y
  refine hs i x H H' hi s1 y _ _ (fun v H4 e s4 => ?_) (fun e H4 s4 => ?_)
  · refine ⟨kept f i, s4 _ _ at_, Nat.lt_of_le_of_lt (kept_len f i) (Nat.lt_trans hi few), sPut (Same.trans s1 s4) new, ?_⟩
    rw [kept_succ, e]
    exact upd_same
  · refine ⟨Same.trans s1 s4, ?_⟩
    rw [kept_succ, e]
    exact (List.append_nil (kept f i)).symm ▸ s4 _ _ at_
theorem kept_all {ys : List V} {f : Nat → Option V} (h : ∀ i, f i = ys[i]?) : kept f ys.length = ys := by
  have e : f = fun i => ys[i]? := funext h
  subst e
  unfold kept
  induction ys with
  | nil => rfl
  | cons y ys ih =>
    rw [List.length_cons, List.range_succ_eq_map, List.filterMap_cons, List.filterMap_map]
    exact congrArg (y :: ·) (ih fun i => rfl)
theorem kept_const (n : Nat) (v : V) : kept (fun i => if i < n then some v else none) n = List.replicate n v := by
  have e := kept_all (ys := List.replicate n v) (f := fun i => if i < n then some v else none) fun i => by rw [List.getElem?_replicate]
  rwa [List.length_replicate] at e
theorem _root_.List.all_replicate_of (n : Nat) : (List.replicate n true).all id = true := by
  rw [List.all_eq_true]
  intro b m
  rw [(List.mem_replicate.mp m).2] <;> rfl
end

/-! ### made instances: without arguments, by a star alone -/
section
variable {X : Cx} {CX : CXT} {k : Nat} {f C : Addr} {sp : Sp} {E : XK} {x : Str} {e : Expr} {te : TE} {p pos sp_ : Pos}
theorem pe_makeR0 (M : Mk X.K C f) (F : FnR X.prog X.w X.K X.mg X.base CX k f sp) (hr : Room (k + 1) X.A) (hg : Gl X x) (hm : X.mg x = some (.ref C)) (hx : Passes CX X E) (hdb : (x == ("__debug__" : Str)) = false := by decide) :
    PE X (.Call (.Name x p) [] [] pos) (StX.tMakeR C sp E tNil) := by
  refine ⟨fun pins s σ H Q I h => ?_⟩
  refine wpAny_Call_Name_kw (ld_glob I hg hm ?_ hdb)
  exact PySem.W.callWith_K0 I.kIn M.kp (StX.run_makeR (us := []) M F hr hx I .nil h)
def tMakeS (K : PySem.W.Frag) (C : Addr) (sp : Sp) (E : XK) (te : TE) : TE := fun σ H Q => te σ H fun y H1 => ∃ a xs, y = V.ref a ∧ (SqT K H1 a xs ∨ SqL K H1 a xs) ∧ ∀ x dx, H1 x = Option.none → H1 dx = Option.none → dx ≠ x →
  sp (V.ref x :: xs) (upd (upd H1 dx (.own x)) x (.ins C dx [])) (fun v H2 => v = .non ∧ Q (.ref x) H2) E
theorem pe_makeS (M : Mk X.K C f) (F : FnR X.prog X.w X.K X.mg X.base CX k f sp) (hr : Room (k + 1) X.A) (hg : Gl X x) (hm : X.mg x = some (.ref C)) (hx : Passes CX X E) (he : PE X e te) (hdb : (x == ("__debug__" : Str)) = false := by decide)
    (hst : starEach [.Starred e sp_] X.env = [(true, eval e X.env)] := by rfl) : PE X (.Call (.Name x p) [.Starred e sp_] [] pos) (tMakeS X.K C sp E te) := by
  refine ⟨fun pins s σ H Q I h => ?_⟩
  refine wpAny_Call_Name_kw (ld_glob I hg hm ?_ hdb)
  refine PySem.W.callWith_S (h₀ := X.base) I.ok.mod.kin M.kp (thn (he.run pins s σ H _ I h) fun v s1 ⟨y, H1, I1, ry, a, xs, ey, hxs, q⟩ => ?_) hst
  subst ey
  obtain rfl : v = Value.ref a := ry
  exact StX.star_any I1 hxs fun us s2 I2 rv => ⟨I2.kIn, StX.run_makeR M F hr hx I2 rv q⟩
theorem PE.imp {e : Expr} {t t' : TE} (h : PE X e t) (i : ∀ σ H Q, t' σ H Q → t σ H Q) : PE X e t' := ⟨fun pins s σ H Q I q => h.run pins s σ H Q I (i σ H Q q)⟩
end

/-! ### the built-in names -/
structure Bn (mg : Str → Option Value) : Prop where
  isi : mg "isinstance" = none
  int : mg "int" = none
  bool : mg "bool" = none
  len : mg "len" = none
  list : mg "list" = none
  max : mg "max" = none
  min : mg "min" = none
  sum : mg "sum" = none
  zip : mg "zip" = none
  range : mg "range" = none
  tuple : mg "tuple" = none
  enum : mg "enumerate" = none
  any : mg "any" = none
  all : mg "all" = none
  abs : mg "abs" = none
  divmod : mg "divmod" = none
  str : mg "str" = none
  repr : mg "repr" = none
  set : mg "set" = none
  sorted : mg "sorted" = none
/-- a def of the module by its name -/
structure Df (P : Program) (w : World) (K : PySem.W.Frag) (mg : Str → Option Value) (base : Heap) (x : Str) (ps : List Str) (k : Nat) (sp : Sp) : Prop where
  ex : ∃ f fd, mg x = some (.ref f) ∧ PySem.W.keepIn K (.ref f) = true ∧ Binds K fd ps [] ∧ FnOk P w K mg base CX0 k f fd ps sp
theorem pe_df {X : Cx} {x : Str} {ps : List Str} {k : Nat} {sp : Sp} {e : Expr} {es : List Expr} {t : TA} {p pos : Pos} (D : Df X.prog X.w X.K X.mg X.base x ps k sp) (hr : Room k X.A) (hg : Gl X x) (ha : PA X (e :: es) t)
    (hdb : (x == ("__debug__" : Str)) = false := by decide) (hst : starEach (e :: es) X.env = (false, eval e X.env) :: starEach es X.env := by rfl) (hpl : (backTo pos (starEach es X.env)).any (·.1) = false := by rfl) :
    PE X (.Call (.Name x p) (e :: es) [] pos) (tCall sp [] E0 t) := by
  obtain ⟨f, fd, hm, kp, b, F⟩ := D.ex
  exact pe_call F hr hg hm kp b .nil pass0 ha (hdb := hdb) (he := hst) (hpl := hpl)

section
variable {P : Program} {w : World} {K : PySem.W.Frag} {mg : Str → Option Value} {base : Heap}
/-! ### is_integer -/
def spIsInt : Sp := fun vs H Q _ => ∃ i : Int, vs = [.int i] ∧ Q (.bl true) H
theorem scIsInt : FnScope ["value"] ["value"] (defScope sIsInt) := ⟨rfl, rfl, rfl, by decide +kernel, rfl, by decide +kernel, by decide +kernel⟩
theorem ok_isInt {f : Addr} {fd : FuncData} (F : Fun K "is_integer" "is_integer" sIsInt f fd) (T : Bn mg) : FnOk P w K mg base CX0 1 f fd ["value"] spIsInt := by
  refine F.ok scIsInt (fun vs H Q E h => ?_) (fun cdv A outer s H vs Q E hr h => ?_)
  · obtain ⟨i, rfl, _⟩ := h
    rfl
  · obtain ⟨i, rfl, q⟩ := h
    refine ⟨_, pss_one (ps_ret (pe_and (pe_callB call_isi (by rfl) T.isi (by decide +kernel) (pa_cons (pv 0) (pa_cons (pe_bltn (v := .ty "int") (by rfl) T.int (by decide +kernel) rfl) pa_nil)))
      (pe_one (pe_not (pe_callB call_isi (by rfl) T.isi (by decide +kernel) (pa_cons (pv 0) (pa_cons (pe_bltn (v := .ty "bool") (by rfl) T.bool (by decide +kernel) rfl) pa_nil))))))), ?_⟩
    refine ⟨_, rfl, _, _, _, _, true, rfl, .ty "int", .base (.int i), kit_ty (by decide +kernel), true, rfl, iteT ?_⟩
    exact ⟨_, rfl, _, _, _, _, false, rfl, .ty "bool", .base (.int i), kit_ty (by decide +kernel), false, rfl, q⟩
/-! ### is_count -/
def spIsCount : Sp := fun vs H Q _ => ∃ i : Int, vs = [.int i] ∧ 0 ≤ i ∧ Q (.bl true) H
theorem scIsCount : FnScope ["value"] ["value"] (defScope sIsCount) := ⟨rfl, rfl, rfl, by decide +kernel, rfl, by decide +kernel, by decide +kernel⟩
theorem ok_isCount {f : Addr} {fd : FuncData} (F : Fun K "is_count" "is_count" sIsCount f fd) (DI : Df P w K mg base "is_integer" ["value"] 1 spIsInt) : FnOk P w K mg base CX0 2 f fd ["value"] spIsCount := by
  refine F.ok scIsCount (fun vs H Q E h => ?_) (fun cdv A outer s H vs Q E hr h => ?_)
  · obtain ⟨i, rfl, _⟩ := h
    rfl
  · obtain ⟨i, rfl, h0, q⟩ := h
    refine ⟨_, pss_one (ps_ret (pe_and (pe_df DI hr (by rfl) (pa_cons (pv 0) pa_nil)) (pe_one (pe_cmp (pc_ge (pv 0) pe_int) rfl)))), ?_⟩
    refine ⟨_, rfl, i, rfl, true, rfl, iteT ?_⟩
    refine ⟨_, rfl, _, _, rfl, rfl, ?_⟩
    show Q (V.bl (decide ((0 : Int) ≤ i))) H
    rw [decide_eq_true h0]
    exact q
/-! ### is_name, want_name -/
def letters : Str := "abcdefghijklmnopqrstuvwxyzABCDEFGHIJKLMNOPQRSTUVWXYZ"
def NameOk (z : Str) : Prop := 1 ≤ z.length ∧ z.length ≤ 8 ∧ ∀ c ∈ z.cps.toList, c ∈ letters.cps.toList
def spIsName : Sp := fun vs H Q _ => ∃ z : Str, vs = [.str z] ∧ NameOk z ∧ ∀ H', Same H H' → Q (.bl true) H'
/-- the module's own values -/
structure Cn (mg : Str → Option Value) : Prop where
  letters : ∃ t, mg "LETTERS" = some (.str letters t)
  longest : ∃ t, mg "LONGEST" = some (.int 8 t)
  most : ∃ t, mg "MOST_SLOTS" = some (.int 4 t)
theorem scIsName : FnScope ["value", "sign"] ["value"] (defScope sIsName) := ⟨rfl, rfl, rfl, by decide +kernel, rfl, by decide +kernel, by decide +kernel⟩
theorem ok_isName {f : Addr} {fd : FuncData} (F : Fun K "is_name" "is_name" sIsName f fd) (T : Bn mg) (N : Cn mg) : FnOk P w K mg base CX0 1 f fd ["value"] spIsName := by
  obtain ⟨tl, gl⟩ := N.letters
  obtain ⟨tm, gm⟩ := N.longest
  refine F.ok scIsName (fun vs H Q E h => ?_) (fun cdv A outer s H vs Q E hr h => ?_)
  · obtain ⟨z, rfl, _⟩ := h
    rfl
  · obtain ⟨z, rfl, ⟨z1, z2, zl⟩, q⟩ := h
    refine ⟨_, pss_one (ps_ret (pe_and (pe_callB call_isi (by rfl) T.isi (by decide +kernel) (pa_cons (pv 0) (pa_cons (pe_bltn (v := .ty "str") (by rfl) T.str (by decide +kernel) rfl) pa_nil)))
      (pe_and (pe_chain op_le op_le pe_int (pe_callB call_len_str (by rfl) T.len PySem.boot_len (pa_cons (pv 0) pa_nil)) (pe_glob (v := .int 8) (by rfl) gm ⟨_, rfl⟩))
      (pe_one (pe_callB (cr_all rfl) (by rfl) T.all (by decide +kernel) (pa_cons (pe_lc (own := [("sign", 1)]) (g := gName 1) (tt := tYes) (by rfl) scIsName.nd (pi_str (pv 0)) (blkOk_by (own := [("sign", 1)]) (N := ["value", "sign"]) (sc := defScope sIsName) (by decide +kernel))
        (fun _ _ _ _ _ => pg_name (i := 1) scIsName.nd rfl (Or.inl rfl)) (fun _ _ _ _ _ => pts_nil) (fun _ _ _ _ _ => pe_cmpR op_in_sign (pv 1) (pe_glob (v := .str letters) (by rfl) gl ⟨_, rfl⟩) rfl)) pa_nil)))))), ?_⟩
    refine ⟨_, rfl, _, _, _, _, true, rfl, .ty "str", .base (.str z), kit_ty (by decide +kernel), true, rfl, iteT ?_⟩
    have z3 : z.length ≤ sizeLine := Nat.le_trans z2 (by decide)
    refine ⟨_, rfl, z, rfl, z3, _, _, rfl, rfl, _, rfl, ?_⟩
    rw [decide_eq_true (show (1 : Int) ≤ (z.length : Nat) by omega)]
    refine ⟨_, _, rfl, rfl, ?_⟩
    refine ⟨true, congrArg V.bl (decide_eq_true (show ((z.length : Nat) : Int) ≤ 8 by omega)), iteT ?_⟩
    refine ⟨_, rfl, z, rfl, fun D hD => ?_⟩
    refine lc_new walk_str (fun i => if i < z.cps.size then some (.bl true) else none) (Nat.lt_of_le_of_lt z2 (by decide)) hD (fun _ _ => True.intro) ?_ ?_
    · rintro i x H1 _ hi s1 ⟨rfl, c, hc, rfl⟩ Kt Kn kt kn
      have hm : c ∈ letters.cps.toList := zl c (by rw [← Array.getElem?_toList] at hc; exact List.mem_of_getElem? hc)
      refine ⟨rfl, _, rfl, c, letters, rfl, rfl, kt _ _ ((if_pos hi).trans (congrArg (fun b => some (V.bl b)) (decide_eq_true hm).symm)) (Same.refl _)⟩
    · intro H1 s1 at_
      have e : kept (fun i => if i < z.cps.size then some (V.bl true) else none) z.cps.size = (List.replicate z.cps.size true).map V.bl := by
        rw [List.map_replicate]
        exact kept_const z.cps.size _
      refine ⟨D, List.replicate z.cps.size true, rfl, SqL.of (by rw [← e]; exact at_), ?_⟩
      rw [List.all_replicate_of]
      exact q H1 s1
end
end S11

/-! enumerate of a tuple; zip of a tuple and a list -/
namespace L2
open PySem PySem.Spec PyProof.Rows
/-- enumerate's object over the iterator at j -/
abbrev enumO (j : Addr) : Obj := { cls := .type "enumerate", data := .fields #[.none, .bool false, .ref j, rawInt 0, .none, .none] }
theorem enumMade {v : Value} {o : Obj} {Z : Heap → Prop} (B : Begins v o Z) :
    Meets (Builtin.«enumerate.__new__» ⟨[.type "enumerate", v], []⟩) (fun _ R s => Z s.heap ∧ R (.ok (.ret (.ref (s.heap.push o).objs.size))) { s with heap := (s.heap.push o).push (enumO s.heap.objs.size) }) := .of_wp fun P w A R s ⟨z, fin⟩ => by
  rcases s with ⟨hp, gs, dr, tk, os⟩
  have sub := sub_enumerate
  have begin_ : ∀ {A' : Around} {E : Value → Shared → Prop} {Q : Value → Shared → Prop}, Q (.ref hp.objs.size) ⟨hp.push o, gs, dr, tk, os⟩ → wpAny (model P w) A' (pyIter v) Q E ⟨hp, gs, dr, tk, os⟩ := fun q => B.iter P w _ _ ⟨hp, gs, dr, tk, os⟩ _ z q
  wp_walk using begin_
  refine wpAny_stack_any fun _ => wpAny_pure ?_
  split
  · rename_i c _ _ _ _ _
    cases (c == Value.type "enumerate") <;> (wp_walk using begin_; exact ⟨_, rfl, fin⟩)
  · wp_walk using begin_
    exact ⟨_, rfl, fin⟩
section
variable {P : Program} {w : World} {A : Around} {E : Value → Shared → Prop} {s : Shared}
/-- enumerate(t), t a tuple: the two new objects -/
theorem call_enumT {t : Addr} {items : Array Value} {Q : Value → Shared → Prop} (isT : s.heap.IsTuple t items)
    (fin : ∀ h', IsEnum h' (s.heap.objs.size + 1) s.heap.objs.size 0 .none → h'.IsTupleIter s.heap.objs.size t 0 → (∀ b o, s.heap.get? b = some o → h'.get? b = some o) → Q (.ref (s.heap.objs.size + 1)) { s with heap := h' }) :
    wpAny (model P w) A (call (.type "enumerate") [.ref t]) Q E s := by
  have grow := Heap.size_push s.heap { cls := .type "tuple_iterator", data := .fields #[.ref t, .int 0 0] }
  have top := Heap.get?_push_size (s.heap.push { cls := .type "tuple_iterator", data := .fields #[.ref t, .int 0 0] }) (o := enumO s.heap.objs.size) rfl
  rw [grow] at top
  refine callType_new F.called_enumerate (by decide) (F.typeCall_enumerate_1 _) (F.newCall_enumerate_1 _) (fun obj => F.args_object_init_2 obj _) F.entry_enumerate_new (enumMade (begins_tuple t items)) ⟨isT, ?_⟩
  show _ ∧ _
  rw [grow]
  exact ⟨⟨_, top, rfl⟩, fin _ top ⟨_, Heap.get?_push_of_some _ (Heap.get?_push_size _ rfl), rfl, rfl⟩ fun b o x => Heap.get?_push_of_some _ (Heap.get?_push_of_some _ x)⟩
end
/-- the tuple at a, each item in a new pair with its place -/
def IteT (K : PySem.W.Frag) (a : Addr) : It where
  go := fun i H => ∃ (xs : List V) (x : V), SqT K H a xs ∧ xs[i]? = some x
  yld := fun i H v H' => ∃ T x, v = .ref T ∧ H T = none ∧ H' = upd H T (.tup [.int (i : Nat), x]) ∧ ∀ xs, SqT K H a xs → xs[i]? = some x
  stop := fun i H => ∃ xs : List V, SqT K H a xs ∧ xs.length = i
theorem turn_enumT {P : Program} {w : World} {K : PySem.W.Frag} {elts : List Expr} {kk : Nat} {tpos : Pos} (a e it : Addr) (apart : a ≠ it) (apart2 : e ≠ a) :
    Turn P w K (.Tuple elts kk tpos) (IteT K a) [e, it] e (fun i h => (∃ old, IsEnum h e it ((i : Nat) : Int) old) ∧ h.IsTupleIter it a i ∧ e ≠ it) := by
  constructor
  case mem => exact List.mem_cons_self
  case obj =>
    rintro i h ⟨⟨old, he⟩, ⟨o, ho, _, hd⟩, _⟩ b hb
    rcases List.mem_cons.mp hb with rfl | hb
    · exact ⟨_, he, fun v q => by cases q⟩
    · obtain rfl := List.mem_singleton.mp hb
      exact ⟨o, ho, fun v q => by rw [hd] at q; cases q⟩
  case keep =>
    rintro i h h' ⟨⟨old, he⟩, hi, ne⟩ k
    exact ⟨⟨old, k e List.mem_cons_self _ he⟩, hi.at fun o q => k it (List.mem_cons_of_mem _ (List.mem_singleton.mpr rfl)) o q, ne⟩
  case item =>
    rintro X rfl rfl rfl calm i pins s σ H E I free ⟨⟨old, he⟩, hit, ne⟩ ⟨xs, x, hq, hx⟩
    obtain ⟨its, rv, isT, _⟩ := I.tuple hq
    obtain ⟨u, hu, ru⟩ := rv.get hx
    have in_ : i < its.toArray.size := by
      rw [List.size_toArray]
      exact (List.getElem?_eq_some_iff.mp hu).1
    have D := Draws.tuple (prog := X.prog) (w := X.w) (A := X.A.in1) (I.ok.hd calm) it a apart its.toArray
    have e1 : e < s.heap.objs.size := Heap.lt_size he
    have i1 : it < s.heap.objs.size := by obtain ⟨_, q, _⟩ := hit; exact Heap.lt_size q
    refine wpAny_pyNext_enum_itemD D he ⟨hit, isT⟩ in_ ne (by simp [ne, apart2]) fun y h' tk hy out hst' hT hsz keep => ?_
    obtain rfl : u = y := by
      rw [List.getElem?_toArray, hu] at hy
      exact Option.some.inj hy
    refine ⟨_, rfl, wpAny_letOwnedTupleGo_enum (s := { s with heap := h', toks := tk + 1 }) out fun h2 he2 but => ?_⟩
    have at_ : h2.get? s.heap.objs.size = some { cls := .type "tuple", data := .seq #[.int i tk, u] } := (but.2 _ (Nat.ne_of_gt e1)).trans hT
    have new : ObjOk X.prog X.w (upd H s.heap.objs.size (.tup [.int (i : Nat), x])) h2 s.heap.objs.size (.tup [.int (i : Nat), x]) := ⟨by show 2 ≤ sizeLine; decide, _, .cons ⟨_, rfl⟩ (.cons ru .nil), ⟨_, at_, rfl, _, rfl⟩⟩
    have not : ∀ b, b ∉ [e, it] → b ≠ e ∧ b ≠ it := fun b hb => ⟨fun z => hb (by rw [z]; exact List.mem_cons_self), fun z => hb (by rw [z]; exact List.mem_cons_of_mem _ (List.mem_singleton.mpr rfl))⟩
    have J : Inv X pins σ (upd H s.heap.objs.size (.tup [.int (i : Nat), x])) { s with heap := h2, toks := tk + 1 } :=
      I.turnedNew (ch := [e, it]) (fun b ob hb q => (but.2 b (not b hb).1).trans (keep b ob (not b hb).1 (not b hb).2 q)) free (Nat.le_refl _) new
    refine ⟨.ref s.heap.objs.size, _, J, rfl, ⟨_, x, rfl, I.hok.fresh (Nat.le_refl _), rfl, fun ys hy => I.tuple_inj hq hy ▸ hx⟩, ⟨⟨u, ?_⟩, hst'.1.at fun o q => (but.2 it (Ne.symm ne)).trans q, ne⟩, fun b hb => ?_⟩
    · rw [show ((i + 1 : Nat) : Int) = (i : Int) + 1 by omega]
      exact he2
    · have lt : b < s.heap.objs.size := by
        rcases List.mem_cons.mp hb with rfl | hb
        · exact e1
        · exact List.mem_singleton.mp hb ▸ i1
      rw [upd_ne (Nat.ne_of_lt lt)]
      exact (free b hb).1
  case done =>
    rintro X rfl rfl rfl calm i pins s σ H E I free ⟨⟨old, he⟩, hit, ne⟩ ⟨xs, hq, rfl⟩
    obtain ⟨its, rv, isT, _⟩ := I.tuple hq
    have D := Draws.tuple (prog := X.prog) (w := X.w) (A := X.A.in1) (I.ok.hd calm) it a apart its.toArray
    have many : xs.length = its.toArray.size := by rw [List.size_toArray, rv.length]
    rw [many] at hit
    obtain ⟨f0, f1, f2, f3, f4, f5⟩ := free it (List.mem_cons_of_mem _ (List.mem_singleton.mpr rfl))
    exact wpAny_pyNext_enum_endD D he ⟨hit, isT⟩ fun h' eb => ⟨rfl, I.turned (t' := s.toks) (fun b o hb q => eb b o hb q) f0 f1 f3 f4 f5⟩
  case self =>
    rintro A i s Q E ⟨⟨_, he⟩, _⟩ h
    exact wpAny_pyIter_enum he h
def iEnumT (K : PySem.W.Frag) (ta : TA) : TI := fun σ H R => ta σ H fun vs H1 => ∃ a xs, vs = [.ref a] ∧ SqT K H1 a xs ∧ R (IteT K a) H1
theorem pi_enumT {X : Cx} {e : Expr} {ta : TA} {p pos tpos : Pos} {elts : List Expr} {kk : Nat} (hg : Gl X "enumerate") (hm : X.mg "enumerate" = none) (ha : PA X [e] ta) (hs : starEach [e] X.env = [(false, eval e X.env)] := by rfl) :
    PI X (.Tuple elts kk tpos) (.Call (.Name "enumerate" p) [e] [] pos) (iEnumT X.K ta) := ⟨fun pins s σ H R I h => by
  refine Call_ (ld_blt I hg hm boot_enumerate (PyProof.Rows.callWith_type1 (thn (ha.run pos pins s σ H _ I h) ?_) hs rfl))
  rintro us s1 ⟨vs, H1, I1, r1, a, xs, rfl, hq, q⟩
  rw [Vals.ref1 r1]
  obtain ⟨its, _, isT, _⟩ := I1.tuple hq
  have lt : a < s1.heap.objs.size := by obtain ⟨_, z, _⟩ := isT; exact Heap.lt_size z
  refine call_enumT isT fun h' he hit keep => wpAny_pyIter_enum he ?_
  refine ⟨s1.heap.objs.size + 1, [s1.heap.objs.size + 1, s1.heap.objs.size], _, _, H1, rfl, I1.kept (t' := s1.toks) keep, turn_enumT a (s1.heap.objs.size + 1) s1.heap.objs.size (Nat.ne_of_lt lt) (Nat.ne_of_gt (Nat.lt_succ_of_lt lt)), ⟨⟨.none, he⟩, hit, Nat.succ_ne_self _⟩, fun b hb => ?_, q⟩
  have le : s1.heap.objs.size ≤ b := by
    rcases List.mem_cons.mp hb with rfl | hb
    · exact Nat.le_succ _
    · exact Nat.le_of_eq (List.mem_singleton.mp hb).symm
  exact I1.fpOk le (I1.hok.fresh le)⟩
theorem walk_enumT {K : PySem.W.Frag} {a : Addr} {xs : List V} : Walk (IteT K a) xs.length (fun H => SqT K H a xs) (YPair (fun i => some (.int (i : Nat))) (fun i => xs[i]?)) where
  goes := fun i _ hi q => ⟨xs, xs[i], q, List.getElem?_eq_getElem hi⟩
  stops := fun _ q => ⟨xs, q, rfl⟩
  yields := fun i H v H' _ q ⟨T, x, h1, h2, h3, h4⟩ => ⟨T, .int (i : Nat), x, h1, h2, h3, rfl, h4 xs q⟩

/-! ### zip(t, xs): t a tuple, xs a list -/
def ItzM (K : PySem.W.Frag) (a b : Addr) : It where
  go := fun i H => ∃ (xs ys : List V) (x y : V), SqT K H a xs ∧ SqL K H b ys ∧ xs[i]? = some x ∧ ys[i]? = some y
  yld := fun i H v H' => ∃ T x y, v = .ref T ∧ H T = none ∧ H' = upd H T (.tup [x, y]) ∧ (∀ xs, SqT K H a xs → xs[i]? = some x) ∧ ∀ ys, SqL K H b ys → ys[i]? = some y
  stop := fun i H => ∃ xs ys : List V, SqT K H a xs ∧ SqL K H b ys ∧ xs.length = i ∧ ys.length = i
abbrev zipCells (N : Addr) : List Addr := [N + 4, N + 2, N + 3, N, N + 1]
theorem zipNums (N : Nat) : N + 2 ≠ N + 4 ∧ N + 2 ≠ N + 3 ∧ N + 2 ≠ N ∧ N + 2 ≠ N + 1 ∧ N + 3 ≠ N + 4 ∧ N ≠ N + 4 ∧ N + 1 ≠ N + 4 := by omega
theorem turn_zipM {P : Program} {w : World} {K : PySem.W.Frag} {elts : List Expr} {kk : Nat} {tpos : Pos} {a b N : Addr} (la : a < N) (lb : b < N) :
    Turn P w K (.Tuple elts kk tpos) (ItzM K a b) (zipCells N) (N + 4) (fun i h => IsZip h (N + 4) (N + 2) (N + 3) .none ∧ IsTupOf2 h (N + 2) (.ref N) (.ref (N + 1)) ∧ (∃ x y, IsTupOf2 h (N + 3) x y) ∧ h.IsTupleIter N a i ∧ h.IsListIter (N + 1) b i) := by
  have any_ : ∀ {Z : Addr → Prop}, Z (N + 4) → Z (N + 2) → Z (N + 3) → Z N → Z (N + 1) → ∀ c ∈ zipCells N, Z c := by
    intro Z z1 z2 z3 z4 z5 c hc
    simp only [zipCells, List.mem_cons, List.not_mem_nil, or_false] at hc
    rcases hc with rfl | rfl | rfl | rfl | rfl <;> assumption
  have mem_ : N + 4 ∈ zipCells N ∧ N + 2 ∈ zipCells N ∧ N + 3 ∈ zipCells N ∧ N ∈ zipCells N ∧ N + 1 ∈ zipCells N := by simp [zipCells]
  obtain ⟨m1, m2, m3, m4, m5⟩ := mem_
  have sep : ZipSep2 (N + 4) (N + 2) (N + 3) N (N + 1) [N, a] [N + 1, b] := zip_sep2 (fun c hc => List.mem_singleton.mp hc ▸ la) (fun c hc => List.mem_singleton.mp hc ▸ lb)
  constructor
  case mem => exact m1
  case obj =>
    rintro i h ⟨hz, hT, ⟨x, y, hO⟩, ⟨o1, e1, _, d1⟩, ⟨o2, e2, _, d2⟩⟩
    exact any_ ⟨_, hz, fun v q => by cases q⟩ ⟨_, hT, fun v q => by cases q⟩ ⟨_, hO, fun v q => by cases q⟩ ⟨o1, e1, fun v q => by rw [d1] at q; cases q⟩ ⟨o2, e2, fun v q => by rw [d2] at q; cases q⟩
  case keep =>
    rintro i h h' ⟨hz, hT, ⟨x, y, hO⟩, h1, h2⟩ k
    exact ⟨k _ m1 _ hz, k _ m2 _ hT, ⟨x, y, k _ m3 _ hO⟩, h1.at fun o q => k _ m4 o q, h2.at fun o q => k _ m5 o q⟩
  case item =>
    rintro X rfl rfl rfl calm i pins s σ H E I free ⟨hz, hT, ⟨x0, y0, hO⟩, h1, h2⟩ ⟨xs, ys, x, y, hqx, hqy, hx, hy⟩
    obtain ⟨its, rv, isT, _⟩ := I.tuple hqx
    obtain ⟨its2, rv2, isL, _⟩ := I.list hqy
    obtain ⟨u, hu, ru⟩ := rv.get hx
    obtain ⟨u2, hu2, ru2⟩ := rv2.get hy
    have in1 : i < its.toArray.size := by
      rw [List.size_toArray]
      exact (List.getElem?_eq_some_iff.mp hu).1
    have in2 : i < its2.toArray.size := by
      rw [List.size_toArray]
      exact (List.getElem?_eq_some_iff.mp hu2).1
    have D1 := Draws.tuple (prog := X.prog) (w := X.w) (A := X.A.in1) (I.ok.hd calm) N a (Nat.ne_of_lt la) its.toArray
    have D2 := Draws.list (prog := X.prog) (w := X.w) (A := X.A.in1) (I.ok.hd calm) (N + 1) b (Nat.ne_of_lt (Nat.lt_succ_of_lt lb)) its2.toArray
    have lt := any_ (Z := fun c => c < s.heap.objs.size) (Heap.lt_size hz) (Heap.lt_size hT) (Heap.lt_size hO) (let ⟨_, q, _⟩ := h1; Heap.lt_size q) (let ⟨_, q, _⟩ := h2; Heap.lt_size q)
    refine wpAny_pyNext_zipD2_item sep D1 D2 hz hT hO ⟨h1, isT⟩ ⟨h2, isL.isList⟩ in1 in2 fun v1 v2 h' tk e1 e2 z' O' s1' s2' at1 hsz keep => ?_
    obtain rfl : u = v1 := by
      rw [List.getElem?_toArray, hu] at e1
      exact Option.some.inj e1
    obtain rfl : u2 = v2 := by
      rw [List.getElem?_toArray, hu2] at e2
      exact Option.some.inj e2
    refine ⟨_, rfl, wpAny_letOwnedTupleGo_zip (s := { s with heap := h', toks := tk }) z' fun h3 z3 but => ?_⟩
    have at_ : h3.get? s.heap.objs.size = some { cls := .type "tuple", data := .seq #[u, u2] } := (but.2 _ (Nat.ne_of_gt (lt _ m1))).trans at1
    have new : ObjOk X.prog X.w (upd H s.heap.objs.size (.tup [x, y])) h3 s.heap.objs.size (.tup [x, y]) := ⟨by show 2 ≤ sizeLine; decide, _, .cons ru (.cons ru2 .nil), ⟨_, at_, rfl, _, rfl⟩⟩
    have not : ∀ c, c ∉ zipCells N → c ≠ N + 4 ∧ c ≠ N + 3 ∧ c ≠ N ∧ c ≠ N + 1 := fun c hc => ⟨fun z => hc (z ▸ m1), fun z => hc (z ▸ m3), fun z => hc (z ▸ m4), fun z => hc (z ▸ m5)⟩
    have J : Inv X pins σ (upd H s.heap.objs.size (.tup [x, y])) { s with heap := h3, toks := tk } :=
      I.turnedNew (ch := zipCells N) (fun c ob hc q => (but.2 c (not c hc).1).trans (keep c ob (not c hc).1 (not c hc).2.1 (not c hc).2.2.1 (not c hc).2.2.2 q)) free (Nat.le_refl _) new
    obtain ⟨a1, a2, a3, a4, a5, a6, a7⟩ := zipNums N
    refine ⟨.ref s.heap.objs.size, _, J, rfl, ⟨_, x, y, rfl, I.hok.fresh (Nat.le_refl _), rfl, fun l hl => I.tuple_inj hqx hl ▸ hx, fun l hl => I.list_inj hqy hl ▸ hy⟩,
      ⟨z3, (but.2 _ a1).trans (keep _ _ a1 a2 a3 a4 hT), ⟨u, u2, (but.2 _ a5).trans O'⟩, s1'.1.at fun o q => (but.2 _ a6).trans q, s2'.1.at fun o q => (but.2 _ a7).trans q⟩, fun c hc => ?_⟩
    rw [upd_ne (Nat.ne_of_lt (lt c hc))]
    exact (free c hc).1
  case done =>
    rintro X rfl rfl rfl calm i pins s σ H E I free ⟨hz, hT, ⟨x0, y0, hO⟩, h1, h2⟩ ⟨xs, ys, hqx, hqy, l1, l2⟩
    obtain ⟨its, rv, isT, _⟩ := I.tuple hqx
    obtain ⟨its2, rv2, isL, _⟩ := I.list hqy
    have D1 := Draws.tuple (prog := X.prog) (w := X.w) (A := X.A.in1) (I.ok.hd calm) N a (Nat.ne_of_lt la) its.toArray
    have D2 := Draws.list (prog := X.prog) (w := X.w) (A := X.A.in1) (I.ok.hd calm) (N + 1) b (Nat.ne_of_lt (Nat.lt_succ_of_lt lb)) its2.toArray
    have n1 : i = its.toArray.size := by rw [List.size_toArray, ← rv.length, l1]
    have n2 : i = its2.toArray.size := by rw [List.size_toArray, ← rv2.length, l2]
    exact wpAny_pyNext_zipD2_end sep D1 D2 hz hT hO ⟨h1, isT⟩ ⟨h2, isL.isList⟩ (Nat.le_of_eq n1) (Nat.le_of_eq n2) (.inl n1) fun h' tk keep => ⟨rfl, I.turnedL (t' := tk) (ch := zipCells N) (fun c o hc q =>
      keep c o (fun z => hc (z ▸ m1)) (fun z => hc (z ▸ m3)) (fun z => hc (z ▸ m4)) (fun z => hc (z ▸ m5)) q) free⟩
  case self =>
    rintro A i s Q E ⟨hz, _⟩ h
    exact wpAny_pyIter_zip hz h
def iZipM (K : PySem.W.Frag) (ta : TA) : TI := fun σ H R => ta σ H fun vs H1 => ∃ a b xs ys, vs = [.ref a, .ref b] ∧ SqT K H1 a xs ∧ SqL K H1 b ys ∧ R (ItzM K a b) H1
theorem pi_zipM {X : Cx} {e e2 : Expr} {ta : TA} {p pos tpos : Pos} {elts : List Expr} {kk : Nat} (hg : Gl X "zip") (hm : X.mg "zip" = none) (ha : PA X [e, e2] ta)
    (hs : starEach [e, e2] X.env = (false, eval e X.env) :: starEach [e2] X.env := by rfl) (hpl : (backTo pos (starEach [e2] X.env)).any (·.1) = false := by rfl) :
    PI X (.Tuple elts kk tpos) (.Call (.Name "zip" p) [e, e2] [] pos) (iZipM X.K ta) := ⟨fun pins s σ H R I h => by
  refine Call_ (ld_blt I hg hm PyProof.Rows.boot_zip (PyProof.Rows.callWith_type1 (thn (ha.run pos pins s σ H _ I h) ?_) hs hpl))
  rintro us s1 ⟨vs, H1, I1, r1, a, b, xs, ys, rfl, hqx, hqy, q⟩
  obtain ⟨v1, v2, rfl, rfl, rfl⟩ := vals2 r1
  obtain ⟨its, _, isT, _⟩ := I1.tuple hqx
  obtain ⟨its2, _, isL, _⟩ := I1.list hqy
  have la : a < s1.heap.objs.size := by obtain ⟨_, z, _⟩ := isT; exact Heap.lt_size z
  refine zip_begins2 (begins_tuple a its.toArray) (begins_list b its2.toArray) isT isL.isList fun h' hz hT hO g1 g2 _ keep => wpAny_pyIter_zip hz ?_
  refine ⟨s1.heap.objs.size + 4, zipCells s1.heap.objs.size, _, _, H1, rfl, I1.kept (t' := s1.toks) keep, turn_zipM la isL.lt, ⟨hz, hT, ⟨_, _, hO⟩, ⟨_, g1, rfl, rfl⟩, ⟨_, g2, rfl, rfl⟩⟩, fun c hc => ?_, q⟩
  have le : s1.heap.objs.size ≤ c := by
    simp only [zipCells, List.mem_cons, List.not_mem_nil, or_false] at hc
    have e : c = s1.heap.objs.size + 4 ∨ c = s1.heap.objs.size + 2 ∨ c = s1.heap.objs.size + 3 ∨ c = s1.heap.objs.size ∨ c = s1.heap.objs.size + 1 := hc
    clear hc hz hT hO g1 g2
    unfold Addr at *
    omega
  exact I1.fpOk le (I1.hok.fresh le)⟩
theorem walk_zipM {K : PySem.W.Frag} {a b : Addr} {xs ys : List V} {n : Nat} (hx : xs.length = n) (hy : ys.length = n) : Walk (ItzM K a b) n (fun H => SqT K H a xs ∧ SqL K H b ys) (YPair (fun i => xs[i]?) (fun i => ys[i]?)) where
  goes := fun i _ hi q => ⟨xs, ys, xs[i], ys[i], q.1, q.2, List.getElem?_eq_getElem (hx ▸ hi), List.getElem?_eq_getElem (hy ▸ hi)⟩
  stops := fun _ q => ⟨xs, ys, q.1, q.2, hx, hy⟩
  yields := fun i H v H' _ q ⟨T, x, y, h1, h2, h3, h4, h5⟩ => ⟨T, x, y, h1, h2, h3, h4 xs q.1, h5 ys q.2⟩
end L2

/-! turns, and what they lead to: plain mathematics -/
namespace GM
abbrev Turn := List Int × Int
def mv (ns o : List Int) : List Int := o.map fun i => ns.getD i.toNat 0
def idn (n : Nat) : List Int := (List.range n).map fun i => ((i : Nat) : Int)
def Sgn (s : Int) : Prop := s = 1 ∨ s = -1
theorem Sgn.mul {s g : Int} (a : Sgn s) (b : Sgn g) : Sgn (s * g) := by
  rcases a with rfl | rfl <;> rcases b with rfl | rfl <;> simp [Sgn]
theorem idn_len (n : Nat) : (idn n).length = n := by unfold idn; rw [List.length_map, List.length_range]
theorem mem_idn {n : Nat} {i : Int} : i ∈ idn n ↔ 0 ≤ i ∧ i < n := by
  unfold idn
  rw [List.mem_map]
  constructor
  · rintro ⟨j, hj, rfl⟩
    have := List.mem_range.mp hj
    omega
  · intro h
    exact ⟨i.toNat, List.mem_range.mpr (by omega), by omega⟩
theorem idn_nodup (n : Nat) : (idn n).Nodup := by
  unfold idn
  rw [List.nodup_iff_pairwise_ne, List.pairwise_map]
  exact List.Pairwise.imp (fun h => by omega) (List.pairwise_lt_range (n := n))
theorem mv_idn (o : List Int) : mv o (idn o.length) = o := by
  unfold mv idn
  rw [List.map_map]
  apply List.ext_getElem
  · rw [List.length_map, List.length_range]
  · intro i h1 h2
    rw [List.getElem_map, List.getElem_range]
    show o.getD ((i : Nat) : Int).toNat 0 = _
    rw [Int.toNat_natCast, List.getD_eq_getElem?_getD, List.getElem?_eq_getElem h2] <;> rfl
theorem mv_perm {n : Nat} {o t : List Int} (ho : o.Perm (idn n)) (ht : t.Perm (idn n)) : (mv o t).Perm (idn n) := by
  have h : (mv o t).Perm (mv o (idn n)) := ht.map _
  have l : o.length = n := by rw [ho.length_eq, idn_len]
  have e := mv_idn o
  rw [l] at e
  rw [e] at h
  exact h.trans ho
/-- what the turns T lead to from the identity -/
inductive Reach (n : Nat) (T : List Turn) : List Int → Int → Prop
  | one : Reach n T (idn n) 1
  | step {o : List Int} {s : Int} {t : Turn} : Reach n T o s → t ∈ T → Reach n T (mv o t.1) (s * t.2)
/-- turns of n slots -/
def Are (n : Nat) (T : List Turn) : Prop := ∀ t ∈ T, t.1.Perm (idn n) ∧ Sgn t.2
theorem Reach.are {n : Nat} {T : List Turn} (h : Are n T) {o : List Int} {s : Int} (r : Reach n T o s) : o.Perm (idn n) ∧ Sgn s := by
  induction r with
  | one => exact ⟨List.Perm.refl _, .inl rfl⟩
  | step r m ih => exact ⟨mv_perm ih.1 (h _ m).1, ih.2.mul (h _ m).2⟩
/-- each order has one sign -/
def Single (n : Nat) (T : List Turn) : Prop := ∀ o s s', Reach n T o s → Reach n T o s' → s = s'
/-- L lists the group -/
def Lists (n : Nat) (T L : List Turn) : Prop := ∀ p : Turn, p ∈ L ↔ Reach n T p.1 p.2
theorem keys_nodup {L : List Turn} (h : (L.map Prod.fst).Nodup) {o : List Int} {s s' : Int} (a : (o, s) ∈ L) (b : (o, s') ∈ L) : s = s' := by
  induction L with
  | nil => cases a
  | cons p L ih =>
    rw [List.map_cons, List.nodup_cons] at h
    rcases List.mem_cons.mp a with e | a'
    · rcases List.mem_cons.mp b with e' | b'
      · exact congrArg Prod.snd (e.trans e'.symm)
      · exact absurd (by rw [← e]; exact List.mem_map.mpr ⟨_, b', rfl⟩) h.1
    · rcases List.mem_cons.mp b with e' | b'
      · exact absurd (by rw [← e']; exact List.mem_map.mpr ⟨_, a', rfl⟩) h.1
      · exact ih h.2 a' b'
/-- the search: L found (in the order found), W waiting -/
structure Srch (n : Nat) (T L : List Turn) (W : List (List Int)) : Prop where
  nd : (L.map Prod.fst).Nodup
  ok : ∀ p ∈ L, Reach n T p.1 p.2
  one : (idn n, 1) ∈ L
  wait : ∀ o ∈ W, o ∈ L.map Prod.fst
  done : ∀ p ∈ L, p.1 ∉ W → ∀ t ∈ T, (mv p.1 t.1, p.2 * t.2) ∈ L
theorem Srch.lists {n : Nat} {T L : List Turn} (h : Srch n T L []) : Lists n T L := fun p => by
  refine ⟨h.ok p, fun r => ?_⟩
  obtain ⟨o, s⟩ := p
  show (o, s) ∈ L
  replace r : Reach n T o s := r
  induction r with
  | one => exact h.one
  | step r m ih => exact h.done _ ih (fun z => by cases z) _ m
theorem Srch.single {n : Nat} {T L : List Turn} (h : Srch n T L []) : Single n T := fun o s s' a b => keys_nodup h.nd ((h.lists (o, s)).mpr a) ((h.lists (o, s')).mpr b)
theorem Srch.start {n : Nat} {T : List Turn} : Srch n T [(idn n, 1)] [idn n] := by
  refine ⟨by simp, fun p m => ?_, List.mem_cons_self, fun o m => ?_, fun p m z => ?_⟩
  · rw [List.mem_singleton.mp m]
    exact .one
  · rw [List.mem_singleton.mp m]
    exact List.mem_cons_self
  · rw [List.mem_singleton.mp m] at z
    exact absurd List.mem_cons_self z
/-- within a turn of the search: here was taken out, the first i turns are done -/
structure Mid (n : Nat) (T L : List Turn) (W : List (List Int)) (here : List Int) (s : Int) (i : Nat) : Prop where
  nd : (L.map Prod.fst).Nodup
  ok : ∀ p ∈ L, Reach n T p.1 p.2
  one : (idn n, 1) ∈ L
  wait : ∀ o ∈ W, o ∈ L.map Prod.fst
  at_ : (here, s) ∈ L
  done : ∀ p ∈ L, p.1 ∉ W → p.1 ≠ here → ∀ t ∈ T, (mv p.1 t.1, p.2 * t.2) ∈ L
  part : here ∉ W → ∀ t ∈ T.take i, (mv here t.1, s * t.2) ∈ L
theorem Srch.pop {n : Nat} {T L : List Turn} {W : List (List Int)} {here : List Int} (h : Srch n T L (W ++ [here])) : ∃ s, Mid n T L W here s 0 := by
  obtain ⟨p, hp, e⟩ := List.mem_map.mp (h.wait here (by simp))
  obtain ⟨o, s⟩ := p
  obtain rfl : o = here := e
  refine ⟨s, h.nd, h.ok, h.one, fun o m => h.wait o (List.mem_append_left _ m), hp, fun p m z ne => h.done p m fun q => ?_, fun _ t m => by cases m⟩
  rcases List.mem_append.mp q with q | q
  · exact z q
  · exact ne (List.mem_singleton.mp q)
theorem Mid.finish {n : Nat} {T L : List Turn} {W : List (List Int)} {here : List Int} {s : Int} (h : Mid n T L W here s T.length) : Srch n T L W := by
  refine ⟨h.nd, h.ok, h.one, h.wait, fun p m z t mt => ?_⟩
  by_cases e : p.1 = here
  · have e2 : p.2 = s := keys_nodup h.nd (o := here) (by rw [← e]; exact m) h.at_
    rw [e, e2]
    exact h.part (by rw [← e]; exact z) t (by rw [List.take_length]; exact mt)
  · exact h.done p m z e t mt
/-- a new order -/
theorem Mid.add {n : Nat} {T L : List Turn} {W : List (List Int)} {here : List Int} {s : Int} {i : Nat} {t : Turn} (h : Mid n T L W here s i) (ht : T[i]? = some t) (new : mv here t.1 ∉ L.map Prod.fst) :
    Mid n T (L ++ [(mv here t.1, s * t.2)]) (W ++ [mv here t.1]) here s (i + 1) := by
  have r : Reach n T (mv here t.1) (s * t.2) := .step (h.ok _ h.at_) (List.mem_of_getElem? ht)
  refine ⟨?_, fun p m => ?_, List.mem_append_left _ h.one, fun o m => ?_, List.mem_append_left _ h.at_, fun p m z ne u mu => ?_, fun z u mu => ?_⟩
  · rw [List.map_append, List.nodup_append]
    refine ⟨h.nd, by simp, fun a ha b hb => ?_⟩
    rw [List.map_singleton, List.mem_singleton] at hb
    rw [hb]
    rintro rfl
    exact new ha
  · rcases List.mem_append.mp m with m | m
    · exact h.ok p m
    · rw [List.mem_singleton.mp m]
      exact r
  · rw [List.map_append, List.mem_append]
    rcases List.mem_append.mp m with m | m
    · exact .inl (h.wait o m)
    · exact .inr (by rw [List.mem_singleton.mp m]; exact List.mem_cons_self)
  · rcases List.mem_append.mp m with m | m
    · exact List.mem_append_left _ (h.done p m (fun q => z (List.mem_append_left _ q)) ne u mu)
    · rw [List.mem_singleton.mp m] at z
      exact absurd (List.mem_append_right _ List.mem_cons_self) z
  · rw [List.take_add_one, ht] at mu
    rcases List.mem_append.mp mu with mu | mu
    · exact List.mem_append_left _ (h.part (fun q => z (List.mem_append_left _ q)) u mu)
    · rw [List.mem_singleton.mp (show u ∈ [t] from mu)]
      exact List.mem_append_right _ List.mem_cons_self
/-- an order that stands already, with the same sign -/
theorem Mid.keep {n : Nat} {T L : List Turn} {W : List (List Int)} {here : List Int} {s : Int} {i : Nat} {t : Turn} (h : Mid n T L W here s i) (ht : T[i]? = some t) (old : (mv here t.1, s * t.2) ∈ L) : Mid n T L W here s (i + 1) :=
  ⟨h.nd, h.ok, h.one, h.wait, h.at_, h.done, fun z u mu => by
    rw [List.take_add_one, ht] at mu
    rcases List.mem_append.mp mu with mu | mu
    · exact h.part z u mu
    · rw [List.mem_singleton.mp (show u ∈ [t] from mu)]
      exact old⟩
/-- .. with another sign -/
theorem Mid.clash {n : Nat} {T L : List Turn} {W : List (List Int)} {here : List Int} {s g : Int} {i : Nat} {t : Turn} (h : Mid n T L W here s i) (ht : T[i]? = some t) (old : (mv here t.1, g) ∈ L) (ne : g ≠ s * t.2) : ¬ Single n T :=
  fun z => ne (z _ _ _ (h.ok _ old) (.step (h.ok _ h.at_) (List.mem_of_getElem? ht)))
/-! ### few orders -/
def words (m : Nat) : Nat → List (List Int)
  | 0 => [[]]
  | k + 1 => (idn m).flatMap fun a => (words m k).map (a :: ·)
theorem mem_words {m : Nat} : ∀ {o : List Int}, (∀ i ∈ o, i ∈ idn m) → o ∈ words m o.length
  | [], _ => List.mem_cons_self
  | a :: o, h => by
    show a :: o ∈ (idn m).flatMap fun a => (words m o.length).map (a :: ·)
    exact List.mem_flatMap.mpr ⟨a, h a List.mem_cons_self, List.mem_map.mpr ⟨o, mem_words fun i q => h i (List.mem_cons_of_mem _ q), rfl⟩⟩
def orders (n : Nat) : List (List Int) := (words n n).filter fun o => decide o.Nodup
theorem mem_orders {n : Nat} {o : List Int} (h : o.Perm (idn n)) : o ∈ orders n := by
  have l : o.length = n := by rw [h.length_eq, idn_len]
  have z : o ∈ words n o.length := mem_words fun i q => h.mem_iff.mp q
  rw [l] at z
  exact List.mem_filter.mpr ⟨z, decide_eq_true (h.nodup_iff.mpr (idn_nodup n))⟩
theorem orders_few {n : Nat} (h : n ≤ 4) : (orders n).length ≤ 24 := by
  match n, h with
  | 0, _ => decide +kernel
  | 1, _ => decide +kernel
  | 2, _ => decide +kernel
  | 3, _ => decide +kernel
  | 4, _ => decide +kernel
theorem nodup_few {α : Type} [DecidableEq α] : ∀ (l D : List α), l.Nodup → (∀ x ∈ l, x ∈ D) → l.length ≤ D.length
  | [], _, _, _ => Nat.zero_le _
  | x :: l, D, nd, h => by
    rw [List.nodup_cons] at nd
    have m := h x List.mem_cons_self
    have z := nodup_few l (D.erase x) nd.2 fun y hy => (List.mem_erase_of_ne (fun (e : y = x) => nd.1 (by rw [← e]; exact hy))).mpr (h y (List.mem_cons_of_mem _ hy))
    have e := List.length_erase_of_mem m
    have pos := List.length_pos_of_mem m
    rw [List.length_cons]
    omega
theorem Srch.few {n : Nat} {T L : List Turn} (hn : n ≤ 4) (ht : Are n T) (nd : (L.map Prod.fst).Nodup) (ok : ∀ p ∈ L, Reach n T p.1 p.2) : L.length ≤ 24 := by
  have z := nodup_few (L.map Prod.fst) (orders n) nd fun o m => by
    obtain ⟨p, hp, rfl⟩ := List.mem_map.mp m
    exact mem_orders ((ok p hp).are ht).1
  rw [List.length_map] at z
  exact Nat.le_trans z (orders_few hn)
end GM

/-! sorted(t), t a tuple of numbers -/
namespace L2
open PySem PySem.Spec PyProof.Rows
section
variable {P : Program} {w : World} {A : Around} {E : Value → Shared → Prop} {s : Shared}
/-- the list that is filled from a tuple -/
abbrev filled (h : Heap) (vs : List Value) : Heap := (h.push (seqObj "list" #[] 0)).update h.objs.size (Obj.mapSeq (· ++ vs.toArray))
theorem gathersT {t : Addr} {vs : List Value} {Q : List Value → Shared → Prop} (isT : s.heap.IsTuple t vs.toArray) (few : vs.length ≤ sizeLine) (fin : Q vs { s with heap := filled s.heap vs }) :
    wpAny (model P w) A (collect (.ref t)) Q E s := by
  obtain ⟨o, at_, cls, n, dat⟩ := id isT
  have at1 : (s.heap.push (seqObj "list" #[] 0)).get? t = some o := Heap.get?_push_of_some _ at_
  have new : (s.heap.push (seqObj "list" #[] 0)).get? s.heap.objs.size = some (seqObj "list" #[] 0) := Heap.get?_push_size _ rfl
  unfold collect
  refine wpAny_bind (wpAny_runValue (codeAny_builtin entry_proto_collect' ?_))
  show wpAny _ _ (do again (.builtin "list.__iadd__" ⟨[← newList [], .ref t], []⟩)) _ _ s
  refine wpAny_bind (wpAny_newList (wpAny_pure ⟨Code.quiet_builtin _ (by decide +kernel), codeAny_builtin entry_list_iadd' ?_⟩))
  show wpAny _ _ (Builtin.List.listExtendWith (.ref s.heap.objs.size) (.ref t) (.ref s.heap.objs.size)) _ _ { s with heap := s.heap.push (seqObj "list" #[] 0) }
  unfold Builtin.List.listExtendWith
  have eq : (Value.type "tuple" == Value.type "tuple") = true := rfl
  refine wpAny_bind (wpAny_typeOf (T := "tuple") ⟨o, at1, cls⟩ ?_)
  rw [if_pos (by rw [eq]; simp)]
  refine wpAny_bind (listItems_at at1 dat (wpAny_bind (listItems_at new rfl ?_)))
  rw [if_neg (by simp)]
  have size : ((#[] : Array Value) ++ vs.toArray).size = vs.length := by simp
  refine wpAny_bind (listUpdate_at new rfl ?_ (Nat.zero_le _) (by show ((#[] : Array Value) ++ vs.toArray).size ≤ sizeLine + 1; omega))
  refine wpAny_pure (wpAny_bind (wpAny_load (get?_update_seq new _) ?_))
  have list : ((#[] : Array Value) ++ vs.toArray).toList = vs := by simp
  show wpAny _ _ (pure ((#[] : Array Value) ++ vs.toArray).toList) Q E _
  rw [list]
  exact wpAny_pure fin
theorem call_sortedTI {t : Addr} {vs : List Value} {ns : List Int} {Q : Value → Shared → Prop} (isT : s.heap.IsTuple t vs.toArray) (nums : IntsAre vs ns) (few : vs.length < 64)
    (fin : ∀ (out : Array Value) (ns' : List Int), IntsAre out.toList ns' → ns'.Perm ns → ns'.Pairwise (· ≤ ·) → Q (.ref (s.heap.objs.size + 1)) { s with heap := sortedAll s.heap vs out }) :
    wpAny (model P w) A (call (.builtin "sorted") [.ref t]) Q E s := by
  refine Calls.call_function_entry kind_sorted plain_sorted entry_sorted (args_sorted1 _) ?_
  have grown : (filled s.heap vs).objs.size = s.heap.objs.size + 1 := by
    rw [Heap.size_update]
    exact size_push' _ _
  have at_ := Heap.get?_push_size (filled s.heap vs) (o := seqObj "list" vs.toArray 0) rfl
  rw [grown] at at_
  unfold Builtin.«sorted»
  refine wpAny_bind (m := checkCount "sorted" 1 1 _) (wpAny_pure (wpAny_bind (gathersT isT (small64 few) (wpAny_bind (wpAny_newList ?_)))))
  show wpAny _ _ _ _ _ { s with heap := (filled s.heap vs).push (seqObj "list" vs.toArray 0) }
  rw [grown]
  exact wpAny_bind (wpAny_holding (wpAny_call_entry slot_list_sort ⟨_, at_, rfl⟩ entry_list_sort (list_sort_tree at_ nums few fun out ns' z1 z2 z3 => ⟨_, rfl, wpAny_pure ⟨_, rfl, fin out ns' z1 z2 z3⟩⟩) (args_list_sort _)))
end
section
variable {X : Cx}
def rSortTI (K : PySem.W.Frag) : List V → Hp → VK → Prop := fun vs H Q => ∃ (t : Addr) (ns : List Int), vs = [V.ref t] ∧ SqT K H t (ns.map V.int) ∧ ns.length < 64 ∧ ∀ (ns' : List Int) (p : Addr), ns'.Perm ns → ns'.Pairwise (· ≤ ·) → H p = none → Q (.ref p) (upd H p (.lst (ns'.map V.int)))
theorem cr_sortTI : CallR X (.builtin "sorted") (rSortTI X.K) := by
  intro pins s σ H vs us Q I r h
  obtain ⟨t, ns, rfl, isT, few, q⟩ := h
  obtain ⟨its, rv, at_, _⟩ := I.tuple isT
  rw [Vals.ref1 r]
  have nums := rv.ints
  refine call_sortedTI at_ nums (by rw [nums.length]; exact few) fun out ns' z1 z2 z3 => ?_
  obtain ⟨ep, new⟩ := sortedAll_at s.heap its out
  have gone : H (s.heap.objs.size + 1) = none := I.hok.fresh (Nat.le_succ _)
  have many : (ns'.map V.int).length ≤ sizeLine := by
    rw [List.length_map, z2.length_eq]
    exact small64 few
  have J := I.laid (a := s.heap.objs.size + 1) (o := .lst (ns'.map V.int)) (h' := sortedAll s.heap its out) (t' := s.toks) (fun _ _ => sortedAll_old) (Nat.le_succ _) ⟨many, out.toList, ep, vals_of_ints z1, new⟩
  exact ⟨V.ref (s.heap.objs.size + 1), _, J, rfl, q ns' _ z2 z3 gone⟩
end
end L2

namespace S11
open PySem L2 GM
/-- texts in a list or a tuple -/
def TextsAt (K : PySem.W.Frag) (H : Hp) (a : Addr) (ss : List Str) : Prop := SqL K H a (ss.map V.str) ∨ SqT K H a (ss.map V.str)
theorem TextsAt.same {K : PySem.W.Frag} {H H' : Hp} {a : Addr} {ss : List Str} (e : Same H H') (h : TextsAt K H a ss) : TextsAt K H' a ss := h.imp e.seq (sTup e)
def SlotsOk (ss : List Str) : Prop := 1 ≤ ss.length ∧ ss.length ≤ 4 ∧ ∀ z ∈ ss, NameOk z
section
variable {P : Program} {w : World} {K : PySem.W.Frag} {mg : Str → Option Value} {base : Heap}
/-! ### want_name -/
def spWantName : Sp := fun vs H Q _ => ∃ z : Str, vs = [.str z] ∧ NameOk z ∧ ∀ H', Same H H' → Q .non H'
theorem scWantName : FnScope ["value"] ["value"] (defScope sWantName) := ⟨rfl, rfl, rfl, by decide +kernel, rfl, by decide +kernel, by decide +kernel⟩
theorem ok_wantName {f : Addr} {fd : FuncData} (F : Fun K "want_name" "want_name" sWantName f fd) (DN : Df P w K mg base "is_name" ["value"] 1 spIsName) : FnOk P w K mg base CX0 2 f fd ["value"] spWantName := by
  refine F.ok scWantName (fun vs H Q E h => ?_) (fun cdv A outer s H vs Q E hr h => ?_)
  · obtain ⟨z, rfl, _⟩ := h
    rfl
  · obtain ⟨z, rfl, hz, q⟩ := h
    refine ⟨_, pss_one (ps_if (pt_not (pt_val (pe_df DN hr (by rfl) (pa_cons (pv 0) pa_nil)))) (pss_one ps_never) pss_nil), ?_⟩
    exact ⟨_, rfl, z, rfl, hz, fun H' s1 => ⟨true, rfl, q H' s1⟩⟩
/-! ### is_list -/
def spIsList (K : PySem.W.Frag) : Sp := fun vs H Q _ => ∃ (a : Addr) (xs : List V), vs = [.ref a] ∧ (SqL K H a xs ∨ SqT K H a xs) ∧ ∀ H', Same H H' → Q (.bl true) H'
theorem scIsList : FnScope ["value"] ["value"] (defScope sIsList) := ⟨rfl, rfl, rfl, by decide +kernel, rfl, by decide +kernel, by decide +kernel⟩
theorem tyX_list {K : PySem.W.Frag} {H : Hp} {a : Addr} {xs : List V} (h : SqL K H a xs) : TyX K H (.ref a) (.type "list") := by
  rcases h with (h | ⟨o, h⟩) | ⟨o, its, n, h, c, _⟩
  · exact .base (.lst h)
  · exact .base (.frz h)
  · exact .kList h c
theorem tyX_tup {K : PySem.W.Frag} {H : Hp} {a : Addr} {xs : List V} (h : SqT K H a xs) : TyX K H (.ref a) (.type "tuple") := by
  rcases h with (h | ⟨o, h⟩) | ⟨o, its, n, h, c, _⟩
  · exact .base (.tup h)
  · exact .fTuple h
  · exact .kTuple h c
theorem ok_isList {f : Addr} {fd : FuncData} (F : Fun K "is_list" "is_list" sIsList f fd) (T : Bn mg) : FnOk P w K mg base CX0 1 f fd ["value"] (spIsList K) := by
  refine F.ok scIsList (fun vs H Q E h => ?_) (fun cdv A outer s H vs Q E hr h => ?_)
  · obtain ⟨a, xs, rfl, _⟩ := h
    rfl
  · obtain ⟨a, xs, rfl, hx, q⟩ := h
    refine ⟨_, pss_one (ps_ret (pe_callB call_isiT (by rfl) T.isi (by decide +kernel) (pa_cons (pv 0) (pa_cons (pe_tup (pa_cons (pe_bltn (v := .ty "list") (by rfl) T.list (by decide +kernel) rfl) (pa_cons (pe_bltn (v := .ty "tuple") (by rfl) T.tuple (by decide +kernel) rfl) pa_nil))) pa_nil)))), ?_⟩
    refine ⟨_, rfl, (by show 2 ≤ sizeLine; decide), fun t ht => ?_⟩
    have s1 := sNew (o := .tup [.ty "list", .ty "tuple"]) (Same.refl H) ht
    have tys : Paired ClsV [V.ty "list", V.ty "tuple"] [Value.type "list", Value.type "tuple"] := .cons (.ty "list") (.cons (.ty "tuple") .nil)
    rcases hx with hx | hx
    · exact ⟨_, t, _, _, _, true, rfl, upd_same, tys, tyX_list (s1.seq hx), kitAny_cons (kit_ty (b := "list") (r := true) (by decide +kernel)) (fun z => nomatch z) (fun _ => rfl), q _ s1⟩
    · exact ⟨_, t, _, _, _, true, rfl, upd_same, tys, tyX_tup (sTup s1 hx), kitAny_cons (kit_ty (b := "list") (r := false) (by decide +kernel)) (fun _ => kitAny_cons (kit_ty (b := "tuple") (r := true) (by decide +kernel)) (fun z => nomatch z) (fun _ => rfl)) (fun z => nomatch z), q _ s1⟩
/-! ### moved -/
def Fits (n : Nat) (o : List Int) : Prop := ∀ i ∈ o, 0 ≤ i ∧ i < n
def spMoved (K : PySem.W.Frag) : Sp := fun vs H Q _ => ∃ (a b : Addr) (ns o : List Int), vs = [.ref a, .ref b] ∧ SqT K H a (ns.map V.int) ∧ SqT K H b (o.map V.int) ∧ Fits ns.length o ∧ o.length ≤ 1000 ∧
  ∀ H' p, Same H H' → H p = none → H' p = some (.tup ((mv ns o).map V.int)) → Q (.ref p) H'
theorem scMoved : FnScope ["places", "order", "position"] ["places", "order"] (defScope sMoved) := ⟨rfl, rfl, rfl, by decide +kernel, rfl, by decide +kernel, by decide +kernel⟩
theorem ok_moved {f : Addr} {fd : FuncData} (F : Fun K "moved" "moved" sMoved f fd) (T : Bn mg) : FnOk P w K mg base CX0 1 f fd ["places", "order"] (spMoved K) := by
  refine F.ok scMoved (fun vs H Q E h => ?_) (fun cdv A outer s H vs Q E hr h => ?_)
  · obtain ⟨a, b, ns, o, rfl, _⟩ := h
    rfl
  · obtain ⟨a, b, ns, o, rfl, ha, hb, fit, few, q⟩ := h
    refine ⟨_, pss_one (ps_ret (pe_callTy call_tuple_of (by rfl) T.tuple (by decide +kernel) (pa_cons (pe_lc (own := [("position", 2)]) (g := gName 2) (tt := tYes) (te := tOp (rIxT K) (tVar 0) (tVar 2)) (by rfl) scMoved.nd (pi_tup (pv 1)) (blkOk_by (own := [("position", 2)]) (N := ["places", "order", "position"]) (sc := defScope sMoved) (by decide +kernel))
      (fun _ _ _ _ _ => pg_name (i := 2) scMoved.nd rfl (Or.inl rfl)) (fun _ _ _ _ _ => pts_nil) (fun _ _ _ _ _ => pe_ix ix_tup (pv 0) (pv 2) (fun _ _ => rfl))) pa_nil))), ?_⟩
    refine ⟨_, rfl, b, rfl, ⟨_, hb⟩, fun D hD => ?_⟩
    refine lc_new (walk_tup (K := K) (a := b) (xs := o.map V.int)) (fun i => ((mv ns o).map V.int)[i]?) (by rw [List.length_map]; exact lt_line (by omega)) hD (fun H1 s1 => sTup s1 hb) ?_ ?_
    · rintro i x H1 _ hi s1 ⟨rfl, hx⟩ Kt Kn kt kn
      obtain ⟨j, hj, rfl⟩ := map_get hx
      have hm := fit j (List.mem_of_getElem? hj)
      have lt : j.toNat < ns.length := by omega
      have here : (ns.map V.int)[j.toNat]? = some (V.int (ns.getD j.toNat 0)) := by
        rw [List.getElem?_map, List.getD_eq_getElem?_getD, List.getElem?_eq_getElem lt] <;> rfl
      refine ⟨rfl, _, rfl, _, rfl, a, _, j, V.int (ns.getD j.toNat 0), rfl, rfl, sTup s1 ha, ?_, kt _ _ ?_ (Same.refl _)⟩
      · exact at_of (j := j.toNat) (by omega) here
      · show ((mv ns o).map V.int)[i]? = _
        unfold mv
        rw [List.getElem?_map, List.getElem?_map, hj] <;> rfl
    · intro H1 s1 at_
      have e : kept (fun i => ((mv ns o).map V.int)[i]?) (o.map V.int).length = (mv ns o).map V.int := by
        have z := kept_all (ys := (mv ns o).map V.int) (f := fun i => ((mv ns o).map V.int)[i]?) fun _ => rfl
        have l : ((mv ns o).map V.int).length = (o.map V.int).length := by unfold mv; simp only [List.length_map]
        rwa [l] at z
      rw [e] at at_
      refine ⟨D, _, rfl, .inl ⟨SqL.of at_, fun p hp => ?_⟩⟩
      exact q _ p (sNew s1 hp) (s1.free hp) upd_same
end
end S11

namespace S11
open PySem L2 GM
/-! ### rows of numbers as data -/
theorem dp_ints {K : PySem.W.Frag} {H : Hp} : ∀ ns : List Int, DpAll K H (ns.map V.int) (ns.map PyData.int)
  | [] => .nil
  | n :: ns => .cons (.int n) (dp_ints ns)
theorem lay_ints : ∀ ns : List Int, PyData.canLayAll0 (ns.map PyData.int) = true
  | [] => by simp [PyData.canLayAll0]
  | n :: ns => by
    show PyData.canLayAll0 (.int n :: ns.map PyData.int) = true
    rw [PyData.canLayAll0, lay_ints ns]
    simp [PyData.canLay0]
theorem sh_intsL (ns : List Int) : SeqAt.shaped (.list (ns.map PyData.int)) = true := by
  have d := PySem.W.depth_ints ns
  unfold SeqAt.shaped
  rw [Bool.and_eq_true, decide_eq_true_eq, PyData.canLay0, PyData.depth]
  exact ⟨lay_ints ns, by omega⟩
theorem sh_intsT (ns : List Int) : SeqAt.shaped (.tuple (ns.map PyData.int)) = true := by
  have d := PySem.W.depth_ints ns
  unfold SeqAt.shaped
  rw [Bool.and_eq_true, decide_eq_true_eq, PyData.canLay0, PyData.depth]
  exact ⟨lay_ints ns, by omega⟩
theorem eqv_ints : ∀ a b : List Int, PyData.eqvAll (a.map PyData.int) (b.map PyData.int) = decide (a = b)
  | [], b => by cases b <;> simp [PyData.eqvAll]
  | _ :: _, [] => by simp [PyData.eqvAll]
  | x :: a, y :: b => by
    show PyData.eqvAll (.int x :: a.map PyData.int) (.int y :: b.map PyData.int) = _
    rw [PySem.W.eqv_all_cons, eqv_ints a b, PyData.eqv]
    by_cases h : x = y
    · subst h
      by_cases h2 : a = b <;> simp [h2]
    · simp [h]
theorem eqv_intsL (a b : List Int) : PyData.eqv (.list (a.map PyData.int)) (.list (b.map PyData.int)) = decide (a = b) := by rw [PyData.eqv, eqv_ints]
/-! ### the orders -/
theorem rg_idn (n : Nat) : rgV 0 (n : Nat) = (idn n).map V.int := by
  unfold rgV idn
  rw [List.map_map, show ((n : Nat) : Int) - 0 = (n : Nat) by omega, Int.toNat_natCast]
  exact List.map_congr_left fun i _ => by show V.int (0 + (i : Nat)) = V.int (i : Nat); rw [Int.zero_add]
theorem idn_up (n : Nat) : (idn n).Pairwise (· ≤ ·) := by
  unfold idn
  rw [List.pairwise_map]
  exact List.Pairwise.imp (fun h => by omega) (List.pairwise_lt_range (n := n))
theorem perm_up {l m : List Int} (p : l.Perm m) (hl : l.Pairwise (· ≤ ·)) (hm : m.Pairwise (· ≤ ·)) : l = m :=
  p.eq_of_pairwise (fun a b _ _ h1 h2 => Int.le_antisymm h1 h2) hl hm
theorem idn_fits {n : Nat} {o : List Int} (p : o.Perm (idn n)) : Fits n o := fun i m => by
  have := p.mem_iff.mp m
  unfold idn at this
  rw [List.mem_map] at this
  obtain ⟨j, hj, rfl⟩ := this
  have := List.mem_range.mp hj
  omega
theorem perm_len {n : Nat} {o : List Int} (p : o.Perm (idn n)) : o.length = n := by rw [p.length_eq, idn_len]
/-- an order of the slots that keeps their texts -/
def Keeps (ss : List Str) (o : List Int) : Prop := o.Perm (idn ss.length) ∧ ∀ i j : Nat, o[i]? = some (j : Int) → ss[j]? = ss[i]?
section
variable {P : Program} {w : World} {K : PySem.W.Frag} {mg : Str → Option Value} {base : Heap}
/-! ### want_slots -/
def spWantSlots (K : PySem.W.Frag) : Sp := fun vs H Q _ => ∃ (a : Addr) (ss : List Str), vs = [.ref a] ∧ TextsAt K H a ss ∧ SlotsOk ss ∧ ∀ H', Same H H' → Q .non H'
theorem scWantSlots : FnScope ["slots", "position", "sort"] ["slots"] (defScope sWantSlots) := ⟨rfl, rfl, rfl, by decide +kernel, rfl, by decide +kernel, by decide +kernel⟩
theorem ok_wantSlots {f : Addr} {fd : FuncData} (F : Fun K "want_slots" "want_slots" sWantSlots f fd) (T : Bn mg) (N : Cn mg) (DL : Df P w K mg base "is_list" ["value"] 1 (spIsList K)) (DN : Df P w K mg base "is_name" ["value"] 1 spIsName) :
    FnOk P w K mg base CX0 2 f fd ["slots"] (spWantSlots K) := by
  obtain ⟨tm, gm⟩ := N.most
  refine F.ok scWantSlots (fun vs H Q E h => ?_) (fun cdv A outer s H vs Q E hr h => ?_)
  · obtain ⟨a, ss, rfl, _⟩ := h
    rfl
  · obtain ⟨a, ss, rfl, ha, ⟨n1, n4, ok⟩, q⟩ := h
    have start : ∀ {R : Hp → Prop}, (∀ H1, Same H H1 → R H1) → ∀ {vs' : List V}, vs' = ss.map V.str → (1 : Int) ≤ (vs'.length : Nat) ∧ ((vs'.length : Nat) : Int) ≤ 4 := by
      intro R _ vs' e
      subst e
      rw [List.length_map]
      omega
    rcases ha with ha | ha
    · refine ⟨_, pss_cons (ps_if (PW.pt (pw_or (pt_not (pt_val (pe_df DL hr (by rfl) (pa_cons (pv 0) pa_nil)))) (pw_or1 (pt_not (pt_chain op_le op_le pe_int (pe_callB call_len_seq (by rfl) T.len PySem.boot_len (pa_cons (pv 0) pa_nil)) (pe_glob (v := .int 4) (by rfl) gm ⟨_, rfl⟩)))))) (pss_one ps_never) pss_nil)
        (pss_one (ps_for PassesOwn.never rfl (pi_enum (by rfl) T.enum (pa_cons (pv 0) pa_nil)) (pg_tup rfl (pgs_cons (pg_name (i := 1) scWantSlots.nd rfl (Or.inl rfl)) (pgs_cons (pg_name (i := 2) scWantSlots.nd rfl (Or.inl rfl)) pgs_nil)))
          (pss_one (ps_if (pt_not (pt_val (pe_df DN hr (by rfl) (pa_cons (pv 2) pa_nil)))) (pss_one ps_never) pss_nil)))), ?_⟩
      refine ⟨_, rfl, a, _, rfl, .inl ha, fun H1 s1 => ⟨true, rfl, ?_⟩⟩
      refine iteF ⟨_, rfl, a, _, rfl, .inl (s1.seq ha), _, _, rfl, rfl, true, congrArg V.bl (decide_eq_true (start (R := fun _ => True) (fun _ _ => True.intro) rfl).1), iteT ⟨_, _, rfl, rfl, true, congrArg V.bl (decide_eq_true (start (R := fun _ => True) (fun _ _ => True.intro) rfl).2), ?_⟩⟩
      refine iteF ⟨_, rfl, a, _, rfl, s1.seq ha, for_it (walk_enum (K := K) (a := a) (xs := ss.map V.str)) (fun i σ H' => Same H H' ∧ ∃ x y, σ = [some (.ref a), x, y]) ⟨s1, none, none, rfl⟩ (fun i σ H' _ h => h.1.seq ha) ?_ ?_⟩
      · rintro i z σ H2 _ hi ⟨s2, x, y, rfl⟩ ⟨TT, x1, x2, rfl, hT, rfl, e1, e2⟩
        obtain ⟨z, hz, rfl⟩ := map_get e2
        have s3 := sNew (o := .tup [x1, V.str z]) s2 hT
        refine ⟨TT, _, rfl, .inl (.inl upd_same), rfl, _, _, rfl, _, _, rfl, rfl, ?_⟩
        exact ⟨_, rfl, z, rfl, ok z (List.mem_of_getElem? hz), fun H4 s4 => ⟨true, rfl, Same.trans s3 s4, _, _, rfl⟩⟩
      · rintro σ H2 ⟨s2, _⟩
        exact q H2 s2
    · refine ⟨_, pss_cons (ps_if (PW.pt (pw_or (pt_not (pt_val (pe_df DL hr (by rfl) (pa_cons (pv 0) pa_nil)))) (pw_or1 (pt_not (pt_chain op_le op_le pe_int (pe_callB call_len_seq (by rfl) T.len PySem.boot_len (pa_cons (pv 0) pa_nil)) (pe_glob (v := .int 4) (by rfl) gm ⟨_, rfl⟩)))))) (pss_one ps_never) pss_nil)
        (pss_one (ps_for PassesOwn.never rfl (pi_enumT (by rfl) T.enum (pa_cons (pv 0) pa_nil)) (pg_tup rfl (pgs_cons (pg_name (i := 1) scWantSlots.nd rfl (Or.inl rfl)) (pgs_cons (pg_name (i := 2) scWantSlots.nd rfl (Or.inl rfl)) pgs_nil)))
          (pss_one (ps_if (pt_not (pt_val (pe_df DN hr (by rfl) (pa_cons (pv 2) pa_nil)))) (pss_one ps_never) pss_nil)))), ?_⟩
      refine ⟨_, rfl, a, _, rfl, .inr ha, fun H1 s1 => ⟨true, rfl, ?_⟩⟩
      refine iteF ⟨_, rfl, a, _, rfl, .inr (sTup s1 ha), _, _, rfl, rfl, true, congrArg V.bl (decide_eq_true (start (R := fun _ => True) (fun _ _ => True.intro) rfl).1), iteT ⟨_, _, rfl, rfl, true, congrArg V.bl (decide_eq_true (start (R := fun _ => True) (fun _ _ => True.intro) rfl).2), ?_⟩⟩
      refine iteF ⟨_, rfl, a, _, rfl, sTup s1 ha, for_it (walk_enumT (K := K) (a := a) (xs := ss.map V.str)) (fun i σ H' => Same H H' ∧ ∃ x y, σ = [some (.ref a), x, y]) ⟨s1, none, none, rfl⟩ (fun i σ H' _ h => sTup h.1 ha) ?_ ?_⟩
      · rintro i z σ H2 _ hi ⟨s2, x, y, rfl⟩ ⟨TT, x1, x2, rfl, hT, rfl, e1, e2⟩
        obtain ⟨z, hz, rfl⟩ := map_get e2
        have s3 := sNew (o := .tup [x1, V.str z]) s2 hT
        refine ⟨TT, _, rfl, .inl (.inl upd_same), rfl, _, _, rfl, _, _, rfl, rfl, ?_⟩
        exact ⟨_, rfl, z, rfl, ok z (List.mem_of_getElem? hz), fun H4 s4 => ⟨true, rfl, Same.trans s3 s4, _, _, rfl⟩⟩
      · rintro σ H2 ⟨s2, _⟩
        exact q H2 s2
end
end S11

namespace S11
open PySem L2 GM
theorem map_trues {n : Nat} {f : Nat → Option V} (h : ∀ i, i < n → f i = some (.bl true)) : kept f n = (List.replicate n true).map V.bl := by
  have e : kept f n = kept (fun i => if i < n then some (V.bl true) else none) n := by
    unfold kept
    have z : ∀ (g : Nat → Option V) (l : List Nat), (∀ i ∈ l, f i = g i) → l.filterMap f = l.filterMap g := by
      intro g l
      induction l with
      | nil => intro _; rfl
      | cons a l ih =>
        intro hl
        rw [List.filterMap_cons, List.filterMap_cons, hl a List.mem_cons_self, ih fun i m => hl i (List.mem_cons_of_mem _ m)]
    exact z _ _ fun i m => by rw [h i (List.mem_range.mp m), if_pos (List.mem_range.mp m)]
  rw [e, kept_const, List.map_replicate]
theorem walk_zipTT {K : PySem.W.Frag} {a b : Addr} {xs ys : List V} {n : Nat} (hx : xs.length = n) (hy : ys.length = n) : Walk (RZ.ItzT K a b) n (fun H => SqT K H a xs ∧ SqT K H b ys) (YPair (fun i => xs[i]?) (fun i => ys[i]?)) where
  goes := fun i _ hi q => ⟨xs, ys, xs[i], ys[i], q.1, q.2, List.getElem?_eq_getElem (hx ▸ hi), List.getElem?_eq_getElem (hy ▸ hi)⟩
  stops := fun _ q => ⟨xs, ys, q.1, q.2, .inl (Nat.le_of_eq hx)⟩
  yields := fun i H v H' _ q ⟨T, x, y, h1, h2, h3, h4, h5⟩ => ⟨T, x, y, h1, h2, h3, h4 xs q.1, h5 ys q.2⟩
section
variable {P : Program} {w : World} {K : PySem.W.Frag} {mg : Str → Option Value} {base : Heap}
/-! ### is_order -/
def spIsOrder (K : PySem.W.Frag) : Sp := fun vs H Q _ => ∃ (t a : Addr) (o : List Int) (ss : List Str), vs = [.ref t, .ref a] ∧ SqT K H t (o.map V.int) ∧ TextsAt K H a ss ∧ ss.length ≤ 4 ∧ Keeps ss o ∧ ∀ H', Same H H' → Q (.bl true) H'
abbrev nIsOrder : List Str := ["value", "slots", "position", "sort"]
theorem scIsOrder : FnScope nIsOrder ["value", "slots"] (defScope sIsOrder) := ⟨rfl, rfl, rfl, by decide +kernel, rfl, by decide +kernel, by decide +kernel⟩
theorem ok_isOrder {f : Addr} {fd : FuncData} (F : Fun K "is_order" "is_order" sIsOrder f fd) (T : Bn mg) (DI : Df P w K mg base "is_integer" ["value"] 1 spIsInt) : FnOk P w K mg base CX0 2 f fd ["value", "slots"] (spIsOrder K) := by
  refine F.ok scIsOrder (fun vs H Q E h => ?_) (fun cdv A outer s H vs Q E hr h => ?_)
  · obtain ⟨t, a, o, ss, rfl, _⟩ := h
    rfl
  · obtain ⟨t, a, o, ss, rfl, ht, ha, few, ⟨perm, same⟩, q⟩ := h
    have len := perm_len perm
    have fits := idn_fits perm
    have hu := hr.units
    have elem : ∀ (i : Nat) (x y : V), (o.map V.int)[i]? = some x → (ss.map V.str)[i]? = some y → ∃ (j : Int) (z : Str), x = V.int j ∧ y = V.str z ∧ (ss.map V.str)[j.toNat]? = some (V.str z) ∧ 0 ≤ j := by
      intro i x y hx hy
      obtain ⟨j, hj, rfl⟩ := map_get hx
      obtain ⟨z, hz, rfl⟩ := map_get hy
      have b := fits j (List.mem_of_getElem? hj)
      refine ⟨j, z, rfl, rfl, ?_, b.1⟩
      rw [List.getElem?_map, same i j.toNat (by rw [hj]; congr 1; omega), hz] <;> rfl
    rcases ha with ha | ha
    · refine ⟨_, pss_cons (ps_if (PW.pt (pw_or (pt_not (pt_val (pe_callB call_isi (by rfl) T.isi (by decide +kernel) (pa_cons (pv 0) (pa_cons (pe_bltn (v := .ty "tuple") (by rfl) T.tuple (by decide +kernel) rfl) pa_nil)))))
          (pw_or1 (pt_not (pt_val (pe_callB (cr_all rfl) (by rfl) T.all (by decide +kernel) (pa_cons (pe_lc (own := [("position", 2)]) (g := gName 2) (tt := tYes) (te := tCall spIsInt [] E0 (tCons (tVar 2) tNil)) (by rfl) scIsOrder.nd (pi_tup (pv 0)) (blkOk_by (own := [("position", 2)]) (N := nIsOrder) (sc := defScope sIsOrder) (by decide +kernel))
            (fun _ _ _ _ _ => pg_name (i := 2) scIsOrder.nd rfl (Or.inl rfl)) (fun _ _ _ _ _ => pts_nil) (fun _ _ _ _ _ => pe_df DI hr (by rfl) (pa_cons (pv 2) pa_nil))) pa_nil))))))) (pss_one ps_never) pss_nil)
        (pss_cons (ps_if (pt_cmpR (op_neD hu) (pe_callB cr_sortTI (by rfl) T.sorted (by decide +kernel) (pa_cons (pv 0) pa_nil)) (pe_listRg rfl (by rfl) T.list (prg_1 (by rfl) T.range (pe_callB call_len_seq (by rfl) T.len PySem.boot_len (pa_cons (pv 1) pa_nil)))) (nomark _)) (pss_one ps_never) pss_nil)
        (pss_one (ps_ret (pe_callB (cr_all rfl) (by rfl) T.all (by decide +kernel) (pa_cons (pe_lc (own := [("position", 2), ("sort", 3)]) (g := gTup K 2 (gCons (gName 2) (gCons (gName 3) gNil))) (tt := tYes) (te := tOp rEq (tOp (rIxL K) (tVar 1) (tVar 2)) (tVar 3)) (by rfl) scIsOrder.nd (pi_zipM (by rfl) T.zip (pa_cons (pv 0) (pa_cons (pv 1) pa_nil)))
          (blkOk_by (own := [("position", 2), ("sort", 3)]) (N := nIsOrder) (sc := defScope sIsOrder) (by decide +kernel))
          (fun _ _ _ _ _ => pg_tup rfl (pgs_cons (pg_name (i := 2) scIsOrder.nd rfl (Or.inl rfl)) (pgs_cons (pg_name (i := 3) scIsOrder.nd rfl (Or.inl rfl)) pgs_nil))) (fun _ _ _ _ _ => pts_nil) (fun _ _ _ _ _ => pe_cmpR op_eq (pe_ix ix_list (pv 1) (pv 2) (fun _ _ => rfl)) (pv 3) (nomark _))) pa_nil))))), ?_⟩
      refine ⟨_, rfl, _, _, _, _, true, rfl, .ty "tuple", tyX_tup ht, kit_ty (by decide +kernel), true, rfl, ?_⟩
      refine iteF ⟨_, rfl, t, rfl, ⟨_, ht⟩, fun D hD => ?_⟩
      refine lc_new (walk_tup (K := K) (a := t) (xs := o.map V.int)) (fun i => if i < o.length then some (.bl true) else none) (by rw [List.length_map]; exact lt_line (by omega)) hD (fun H1 s1 => sTup s1 ht) ?_ ?_
      · rintro i x H1 _ hi s1 ⟨rfl, hx⟩ Kt Kn kt kn
        obtain ⟨j, hj, rfl⟩ := map_get hx
        rw [List.length_map] at hi
        exact ⟨rfl, _, rfl, j, rfl, kt _ _ (if_pos hi) (Same.refl _)⟩
      · intro H1 s1 at_
        rw [List.length_map, kept_const, ← List.map_replicate] at at_
        refine ⟨D, _, rfl, SqL.of at_, ?_⟩
        rw [List.all_replicate_of]
        refine ⟨true, rfl, iteF ?_⟩
        refine ⟨_, rfl, t, o, rfl, sTup s1 ht, by omega, fun ns' p pm up hp => ?_⟩
        obtain rfl : ns' = idn ss.length := perm_up (pm.trans perm) up (idn_up _)
        have s2 := sNew (o := .lst ((idn ss.length).map V.int)) s1 hp
        refine ⟨_, rfl, a, _, rfl, .inl (s2.seq ha), _, rfl, RgOk.of_le (by decide) (by rw [List.length_map]; omega) (by decide) (by omega), fun r hr2 => ?_⟩
        rw [List.length_map, rg_idn]
        have s3 := sNew (o := .lst ((idn ss.length).map V.int)) s2 hr2
        refine ⟨_, _, .lst (SqL.of (old upd_same hr2)) (dp_ints _), .lst (SqL.of upd_same) (dp_ints _), sh_intsL _, sh_intsL _, ?_⟩
        rw [eqv_intsL, decide_eq_true rfl]
        refine ⟨false, rfl, iteF ?_⟩
        refine ⟨_, rfl, _, rfl, t, a, _, _, rfl, sTup s3 ht, s3.seq ha, fun D2 hD2 => ?_⟩
        refine lc_new (walk_zipM (K := K) (a := t) (b := a) (xs := o.map V.int) (ys := ss.map V.str) (n := ss.length) (by rw [List.length_map, len]) (List.length_map _)) (fun i => if i < ss.length then some (.bl true) else none) (lt_line (by omega)) hD2 (fun H4 s4 => ⟨sTup s4 (sTup s3 ht), s4.seq (s3.seq ha)⟩) ?_ ?_
        · rintro i x H4 _ hi s4 ⟨TT, x1, x2, rfl, hT, rfl, e1, e2⟩ Kt Kn kt kn
          obtain ⟨j, z, rfl, rfl, hz, j0⟩ := elem i x1 x2 e1 e2
          have s5 := sNew (o := .tup [V.int j, V.str z]) s4 hT
          refine ⟨TT, _, rfl, .inl (.inl upd_same), rfl, _, _, rfl, _, _, rfl, rfl, rfl, _, rfl, _, rfl, a, _, j, V.str z, rfl, rfl, s5.seq (s3.seq ha), at_of (j := j.toNat) (by omega) hz, _, rfl, rfl, ?_⟩
          exact kt _ _ ((if_pos hi).trans (congrArg (fun b => some (V.bl b)) (decide_eq_true rfl).symm)) (sNew (Same.refl _) hT)
        · intro H4 s4 at4
          rw [kept_const, ← List.map_replicate] at at4
          refine ⟨D2, _, rfl, SqL.of at4, ?_⟩
          rw [List.all_replicate_of]
          exact q _ (Same.trans s3 s4)
    · refine ⟨_, pss_cons (ps_if (PW.pt (pw_or (pt_not (pt_val (pe_callB call_isi (by rfl) T.isi (by decide +kernel) (pa_cons (pv 0) (pa_cons (pe_bltn (v := .ty "tuple") (by rfl) T.tuple (by decide +kernel) rfl) pa_nil)))))
          (pw_or1 (pt_not (pt_val (pe_callB (cr_all rfl) (by rfl) T.all (by decide +kernel) (pa_cons (pe_lc (own := [("position", 2)]) (g := gName 2) (tt := tYes) (te := tCall spIsInt [] E0 (tCons (tVar 2) tNil)) (by rfl) scIsOrder.nd (pi_tup (pv 0)) (blkOk_by (own := [("position", 2)]) (N := nIsOrder) (sc := defScope sIsOrder) (by decide +kernel))
            (fun _ _ _ _ _ => pg_name (i := 2) scIsOrder.nd rfl (Or.inl rfl)) (fun _ _ _ _ _ => pts_nil) (fun _ _ _ _ _ => pe_df DI hr (by rfl) (pa_cons (pv 2) pa_nil))) pa_nil))))))) (pss_one ps_never) pss_nil)
        (pss_cons (ps_if (pt_cmpR (op_neD hu) (pe_callB cr_sortTI (by rfl) T.sorted (by decide +kernel) (pa_cons (pv 0) pa_nil)) (pe_listRg rfl (by rfl) T.list (prg_1 (by rfl) T.range (pe_callB call_len_seq (by rfl) T.len PySem.boot_len (pa_cons (pv 1) pa_nil)))) (nomark _)) (pss_one ps_never) pss_nil)
        (pss_one (ps_ret (pe_callB (cr_all rfl) (by rfl) T.all (by decide +kernel) (pa_cons (pe_lc (own := [("position", 2), ("sort", 3)]) (g := gTup K 2 (gCons (gName 2) (gCons (gName 3) gNil))) (tt := tYes) (te := tOp rEq (tOp (rIxT K) (tVar 1) (tVar 2)) (tVar 3)) (by rfl) scIsOrder.nd (RZ.pi_zipA (by rfl) T.zip (pa_cons (pv 0) (pa_cons (pv 1) pa_nil)))
          (blkOk_by (own := [("position", 2), ("sort", 3)]) (N := nIsOrder) (sc := defScope sIsOrder) (by decide +kernel))
          (fun _ _ _ _ _ => pg_tup rfl (pgs_cons (pg_name (i := 2) scIsOrder.nd rfl (Or.inl rfl)) (pgs_cons (pg_name (i := 3) scIsOrder.nd rfl (Or.inl rfl)) pgs_nil))) (fun _ _ _ _ _ => pts_nil) (fun _ _ _ _ _ => pe_cmpR op_eq (pe_ix ix_tup (pv 1) (pv 2) (fun _ _ => rfl)) (pv 3) (nomark _))) pa_nil))))), ?_⟩
      refine ⟨_, rfl, _, _, _, _, true, rfl, .ty "tuple", tyX_tup ht, kit_ty (by decide +kernel), true, rfl, ?_⟩
      refine iteF ⟨_, rfl, t, rfl, ⟨_, ht⟩, fun D hD => ?_⟩
      refine lc_new (walk_tup (K := K) (a := t) (xs := o.map V.int)) (fun i => if i < o.length then some (.bl true) else none) (by rw [List.length_map]; exact lt_line (by omega)) hD (fun H1 s1 => sTup s1 ht) ?_ ?_
      · rintro i x H1 _ hi s1 ⟨rfl, hx⟩ Kt Kn kt kn
        obtain ⟨j, hj, rfl⟩ := map_get hx
        rw [List.length_map] at hi
        exact ⟨rfl, _, rfl, j, rfl, kt _ _ (if_pos hi) (Same.refl _)⟩
      · intro H1 s1 at_
        rw [List.length_map, kept_const, ← List.map_replicate] at at_
        refine ⟨D, _, rfl, SqL.of at_, ?_⟩
        rw [List.all_replicate_of]
        refine ⟨true, rfl, iteF ?_⟩
        refine ⟨_, rfl, t, o, rfl, sTup s1 ht, by omega, fun ns' p pm up hp => ?_⟩
        obtain rfl : ns' = idn ss.length := perm_up (pm.trans perm) up (idn_up _)
        have s2 := sNew (o := .lst ((idn ss.length).map V.int)) s1 hp
        refine ⟨_, rfl, a, _, rfl, .inr (sTup s2 ha), _, rfl, RgOk.of_le (by decide) (by rw [List.length_map]; omega) (by decide) (by omega), fun r hr2 => ?_⟩
        rw [List.length_map, rg_idn]
        have s3 := sNew (o := .lst ((idn ss.length).map V.int)) s2 hr2
        refine ⟨_, _, .lst (SqL.of (old upd_same hr2)) (dp_ints _), .lst (SqL.of upd_same) (dp_ints _), sh_intsL _, sh_intsL _, ?_⟩
        rw [eqv_intsL, decide_eq_true rfl]
        refine ⟨false, rfl, iteF ?_⟩
        refine ⟨_, rfl, _, rfl, t, a, _, _, rfl, .inr ⟨sTup s3 ht, sTup s3 ha, fun D2 hD2 => ?_⟩⟩
        refine lc_new (walk_zipTT (K := K) (a := t) (b := a) (xs := o.map V.int) (ys := ss.map V.str) (n := ss.length) (by rw [List.length_map, len]) (List.length_map _)) (fun i => if i < ss.length then some (.bl true) else none) (lt_line (by omega)) hD2 (fun H4 s4 => ⟨sTup s4 (sTup s3 ht), sTup s4 (sTup s3 ha)⟩) ?_ ?_
        · rintro i x H4 _ hi s4 ⟨TT, x1, x2, rfl, hT, rfl, e1, e2⟩ Kt Kn kt kn
          obtain ⟨j, z, rfl, rfl, hz, j0⟩ := elem i x1 x2 e1 e2
          have s5 := sNew (o := .tup [V.int j, V.str z]) s4 hT
          refine ⟨TT, _, rfl, .inl (.inl upd_same), rfl, _, _, rfl, _, _, rfl, rfl, rfl, _, rfl, _, rfl, a, _, j, V.str z, rfl, rfl, sTup s5 (sTup s3 ha), at_of (j := j.toNat) (by omega) hz, _, rfl, rfl, ?_⟩
          exact kt _ _ ((if_pos hi).trans (congrArg (fun b => some (V.bl b)) (decide_eq_true rfl).symm)) (sNew (Same.refl _) hT)
        · intro H4 s4 at4
          rw [kept_const, ← List.map_replicate] at at4
          refine ⟨D2, _, rfl, SqL.of at4, ?_⟩
          rw [List.all_replicate_of]
          exact q _ (Same.trans s3 s4)
end
end S11

namespace S11
open PySem L2 GM
def IsTurn (K : PySem.W.Frag) (H : Hp) (v : V) (p : Turn) : Prop := ∃ t u, v = .ref t ∧ SqT K H t [.ref u, .int p.2] ∧ SqT K H u (p.1.map V.int)
theorem IsTurn.same {K : PySem.W.Frag} {H H' : Hp} {v : V} {p : Turn} (e : Same H H') (h : IsTurn K H v p) : IsTurn K H' v p := by
  obtain ⟨t, u, rfl, h1, h2⟩ := h
  exact ⟨t, u, rfl, sTup e h1, sTup e h2⟩
/-- turns in a row -/
def TurnsAre (K : PySem.W.Frag) (H : Hp) : List V → List Turn → Prop
  | [], [] => True
  | v :: vs, p :: ps => IsTurn K H v p ∧ TurnsAre K H vs ps
  | _, _ => False
theorem TurnsAre.same {K : PySem.W.Frag} {H H' : Hp} (e : Same H H') : ∀ {vs : List V} {ps : List Turn}, TurnsAre K H vs ps → TurnsAre K H' vs ps
  | [], [], _ => trivial
  | _ :: _, _ :: _, h => ⟨h.1.same e, TurnsAre.same e h.2⟩
  | [], _ :: _, h => h.elim
  | _ :: _, [], h => h.elim
theorem TurnsAre.len {K : PySem.W.Frag} {H : Hp} : ∀ {vs : List V} {ps : List Turn}, TurnsAre K H vs ps → vs.length = ps.length
  | [], [], _ => rfl
  | _ :: vs, _ :: ps, h => congrArg (· + 1) (TurnsAre.len (vs := vs) (ps := ps) h.2)
  | [], _ :: _, h => h.elim
  | _ :: _, [], h => h.elim
theorem TurnsAre.get {K : PySem.W.Frag} {H : Hp} : ∀ {vs : List V} {ps : List Turn} {i : Nat} {v : V}, TurnsAre K H vs ps → vs[i]? = some v → ∃ p, ps[i]? = some p ∧ IsTurn K H v p
  | [], [], _, _, _, e => by cases e
  | _ :: _, p :: _, 0, _, h, e => by
    obtain rfl := Option.some.inj e
    exact ⟨p, rfl, h.1⟩
  | _ :: _, _ :: _, i + 1, _, h, e => TurnsAre.get (i := i) h.2 e
  | [], _ :: _, _, _, h, _ => h.elim
  | _ :: _, [], _, _, h, _ => h.elim
theorem TurnsAre.snoc {K : PySem.W.Frag} {H : Hp} {v : V} {p : Turn} : ∀ {vs : List V} {ps : List Turn}, TurnsAre K H vs ps → IsTurn K H v p → TurnsAre K H (vs ++ [v]) (ps ++ [p])
  | [], [], _, h => ⟨h, trivial⟩
  | _ :: _, _ :: _, h1, h => ⟨h1.1, TurnsAre.snoc h1.2 h⟩
  | [], _ :: _, h, _ => h.elim
  | _ :: _, [], h, _ => h.elim
theorem TurnsAre.app {K : PySem.W.Frag} {H : Hp} {ws : List V} {qs : List Turn} (h2 : TurnsAre K H ws qs) : ∀ {vs : List V} {ps : List Turn}, TurnsAre K H vs ps → TurnsAre K H (vs ++ ws) (ps ++ qs)
  | [], [], _ => h2
  | _ :: _, _ :: _, h1 => ⟨h1.1, TurnsAre.app h2 h1.2⟩
  | [], _ :: _, h => h.elim
  | _ :: _, [], h => h.elim
theorem TurnsAre.take {K : PySem.W.Frag} {H : Hp} : ∀ (n : Nat) {vs : List V} {ps : List Turn}, TurnsAre K H vs ps → TurnsAre K H (vs.take n) (ps.take n)
  | 0, _, _, _ => trivial
  | _ + 1, [], [], _ => trivial
  | n + 1, _ :: _, _ :: _, h => ⟨h.1, TurnsAre.take n h.2⟩
  | _ + 1, [], _ :: _, h => h.elim
  | _ + 1, _ :: _, [], h => h.elim
/-- a turn for these slots -/
def TurnOk (ss : List Str) (p : Turn) : Prop := Keeps ss p.1 ∧ Sgn p.2
section
variable {P : Program} {w : World} {K : PySem.W.Frag} {mg : Str → Option Value} {base : Heap}
/-! ### is_turn -/
def spIsTurn (K : PySem.W.Frag) : Sp := fun vs H Q _ => ∃ (v : V) (a : Addr) (p : Turn) (ss : List Str), vs = [v, .ref a] ∧ IsTurn K H v p ∧ TextsAt K H a ss ∧ ss.length ≤ 4 ∧ TurnOk ss p ∧ ∀ H', Same H H' → Q (.bl true) H'
theorem scIsTurn : FnScope ["value", "slots"] ["value", "slots"] (defScope sIsTurn) := ⟨rfl, rfl, rfl, by decide +kernel, rfl, by decide +kernel, by decide +kernel⟩
theorem ok_isTurn {f : Addr} {fd : FuncData} (F : Fun K "is_turn" "is_turn" sIsTurn f fd) (T : Bn mg) (DI : Df P w K mg base "is_integer" ["value"] 1 spIsInt) (DO : Df P w K mg base "is_order" ["value", "slots"] 2 (spIsOrder K)) : FnOk P w K mg base CX0 3 f fd ["value", "slots"] (spIsTurn K) := by
  refine F.ok scIsTurn (fun vs H Q E h => ?_) (fun cdv A outer s H vs Q E hr h => ?_)
  · obtain ⟨v, a, p, ss, rfl, _⟩ := h
    rfl
  · obtain ⟨_, a, ⟨o, sg⟩, ss, rfl, ⟨t, u, rfl, ht, hu⟩, ha, few, ⟨kp, sgn⟩, q⟩ := h
    have h1 : Room 1 _ := hr.mono (by decide)
    refine ⟨_, pss_cons (ps_if (PW.pt (pw_or (pt_not (pt_val (pe_callB call_isi (by rfl) T.isi (by decide +kernel) (pa_cons (pv 0) (pa_cons (pe_bltn (v := .ty "tuple") (by rfl) T.tuple (by decide +kernel) rfl) pa_nil)))))
        (pw_or1 (pt_cmpR op_ne (pe_callB call_len_seq (by rfl) T.len PySem.boot_len (pa_cons (pv 0) pa_nil)) pe_int (nomark _))))) (pss_one ps_never) pss_nil)
      (pss_one (ps_ret (pe_and (pe_df DO hr (by rfl) (pa_cons (pe_ix ix_tup (pv 0) pe_int (fun _ _ => rfl)) (pa_cons (pv 1) pa_nil))) (pe_and (pe_df DI h1 (by rfl) (pa_cons (pe_ix ix_tup (pv 0) pe_int (fun _ _ => rfl)) pa_nil))
        (pe_one (pe_cmpR op_in_seq (pe_ix ix_tup (pv 0) pe_int (fun _ _ => rfl)) (pe_tup (pa_cons pe_int (pa_cons (pe_un un_neg pe_int) pa_nil))) (by rfl))))))), ?_⟩
    refine ⟨_, rfl, _, _, _, _, true, rfl, .ty "tuple", tyX_tup ht, kit_ty (by decide +kernel), true, rfl, ?_⟩
    refine iteF ⟨_, rfl, t, _, rfl, .inr ht, rfl, false, rfl, iteF ?_⟩
    refine ⟨_, rfl, t, _, _, _, rfl, rfl, ht, at_of (j := 0) rfl rfl, _, rfl, u, a, o, ss, rfl, hu, ha, few, kp, fun H1 s1 => ⟨true, rfl, iteT ?_⟩⟩
    refine ⟨_, rfl, t, _, _, _, rfl, rfl, sTup s1 ht, at_of (j := 1) rfl rfl, sg, rfl, true, rfl, iteT ?_⟩
    refine ⟨_, rfl, t, _, _, _, rfl, rfl, sTup s1 ht, at_of (j := 1) rfl rfl, ⟨1, rfl, (by show 2 ≤ sizeLine; decide), fun p hp => ?_⟩⟩
    refine ⟨p, _, rfl, .inr (.inl (.inl upd_same)), rfl, rfl, ?_⟩
    have yes : inV (.int sg) [.int 1, .int (-1)] = true := by
      rcases sgn with e | e
      · have e' : sg = 1 := e
        subst e'
        rfl
      · have e' : sg = -1 := e
        subst e'
        rfl
    show Q (.bl (inV (.int sg) [.int 1, .int (-1)])) _
    rw [yes]
    exact q _ (sNew s1 hp)
end
end S11

namespace S11
open PySem L2 GM
theorem NameOk.shown {z : Str} (h : NameOk z) : (reprText z).length ≤ 82 := by
  have small : ∀ c ∈ letters.cps.toList, c < 16 ^ 8 := by decide +kernel
  have := StrLaws.reprText_len z fun c m => small c (h.2.2 c m)
  have := h.2.1
  omega
abbrev veTail : List Value := [.type "ValueError", .type "Exception", .type "BaseException", .type "object"]
abbrev fN : Str := "name"
/-- a def with __class__ captured -/
abbrev fnC (name qual : Str) (params : Arguments) (body : List Stmt) (scope : Scope) (dV kV doc pm : Value) (an : Option Addr) (cdv ct : Value) (cc : Addr) : FuncData :=
  { name, qualname := qual, params, body := .stmts body, scope, globals := mainGlobals, closure := [(("__class__" : Str), cc)], defaults := dV, kwdefaults := kV, doc, pyModule := pm, annotations := an, code := cdv, closureTuple := ct, builtins := builtinsNs }
section
variable {P : Program} {w : World} {K : PySem.W.Frag} {mg : Str → Option Value} {base : Heap}
def spVN (D : Addr) : Sp := fun vs H Q _ => ∃ (a : Addr) (z : Str), vs = [.ref a, .str z] ∧ H a = some (exo a D none) ∧ NameOk z ∧ ∀ dx, H dx = none → dx ≠ a → Q .non (upd (upd H dx (exd dx [(fN, .str z)])) a (exo a D (some dx)))
/-! ### Vanishing.__init__ -/
def vnArg : Arg := ((defArgs sVInit).posonlyargs ++ (defArgs sVInit).args).headD (Arg.mk "" none ⟨0, 0, 0, 0⟩)
abbrev vnHead : Str := "all entries of the table would be 0: "
theorem vn_len : vnHead.length = 37 := rfl
theorem e_len : Str.empty.length = 0 := rfl
theorem ok_vn {f D cc : Addr} {cd1 : Option Addr} {sl1 : Array (Option Value)} {kV doc pm cdv ct : Value} {an : Option Addr} (hcd : PySem.W.codeIn K cdv "Vanishing.__init__" = true) (hcc : K.lookup cc = some ⟨.type "cell", cd1, .cell (some (.ref D)), sl1⟩)
    (T : SupK "ValueError" "ValueError.__new__" "ValueError.__init__" veTail P K mg D f (fnC "__init__" "Vanishing.__init__" (defArgs sVInit) (defBody sVInit) (defScope sVInit) .none kV doc pm an cdv ct cc) vnArg)
    (O : OexC K D) (hno : PySem.W.findIn K (.ref D) "name" = some none) :
    FnG P w K mg base CX0 3 f (fnC "__init__" "Vanishing.__init__" (defArgs sVInit) (defBody sVInit) (defScope sVInit) .none kV doc pm an cdv ct cc) ["self", "name"] (spVN D) := by
  refine fn_sup (k := 2) (N := ["self", "name"]) ⟨rfl, rfl, rfl, by decide, rfl, by show ∀ x ∈ [("self" : Str), "name"], (defScope sVInit).names.lookup x = some .local; decide +kernel, by show ∀ y ∈ (defScope sVInit).names, y.2 ≠ .cell; decide +kernel, by show ∀ y ∈ (defScope sVInit).names, y.2 = .free → y.1 = ("__class__" : Str); decide +kernel, rfl, rfl, rfl, rfl, rfl⟩ hcc F.excBase_ValueError PySem.W.kxs_ValueError T rfl hcd rfl (fun vs H Q E h => ?_) (fun env => rfl) (fun env => rfl) (fun L => rfl) (fun L => rfl) (fun A outer s H vs Q E gd hr h => ?_)
  · obtain ⟨a, z, rfl, _⟩ := h
    rfl
  · obtain ⟨a, z, rfl, ha, ok, q⟩ := h
    refine ⟨a, _, _, rfl, ha, pa_cons (pe_joined (PJ.cons pe_str (PJ.cons (pe_fmtG (k := 2) (deeper_guards.trans gd) hr (pv 1)) PJ.nil))) pa_nil, pss_one (ps_ost (pv 0) (pv 1)), ?_⟩
    have sl : sizeLine = 16777216 := sizeLine_eq
    have hl := ok.shown
    refine ⟨_, rfl, ?_, _, rfl, reprText z, fun H' => H' = H, fun _ => False, rfl, sg_str (by omega), by omega, fun H' j => ?_⟩
    · rw [strLen_append, e_len, vn_len, sl]; decide
    subst j
    refine ⟨_, rfl, ?_, by show 1 ≤ 1000; decide, ha, ?_⟩
    · show (Str.empty ++ vnHead ++ reprText z).length ≤ _
      rw [strLen_append, strLen_append, e_len, vn_len]; omega
    refine ⟨_, rfl, _, rfl, a, D, rfl, O, hno, .inl ⟨ha, q⟩⟩
/-- Vanishing -/
structure Vn (P : Program) (w : World) (K : PySem.W.Frag) (mg : Str → Option Value) (base : Heap) (D : Addr) : Prop where
  cl : OexC K D
  mgD : mg "Vanishing" = some (.ref D)
  ex : ∃ fI fd, PySem.W.findIn K (.ref D) "__init__" = some (some (.ref fI)) ∧ PySem.W.typeIn K (.ref fI) = some (.type "function") ∧ Binds K fd ["self", "name"] [] ∧ FnG P w K mg base CX0 3 fI fd ["self", "name"] (spVN D)
  me : PySem.W.exmOne K (.ref D) (.ref D) = some true
  xf : XfC K D
  no : PySem.W.findIn K (.ref D) "name" = some none
end
theorem pmk_vn {X : Cx} {D : Addr} {e : Expr} {es : List Expr} {ta : TA} {p pos : Pos} (Z : Vn X.prog X.w X.K X.mg X.base D) (gd : X.A.guards = some []) (hr : Room 4 X.A) (hg : Gl X "Vanishing") (ha : PA X (e :: es) ta)
    (he : starEach (e :: es) X.env = (false, eval e X.env) :: starEach es X.env := by rfl) (hpl : (backTo pos (starEach es X.env)).any (·.1) = false := by rfl) : L2.PMk X (.Call (.Name "Vanishing" p) (e :: es) [] pos) (tMkO D (spVN D) [] ta) := by
  obtain ⟨fI, fd, h1, h2, h3, h4⟩ := Z.ex
  exact pmk_oexG (CX := CX0) Z.cl h1 h2 h4 gd hr h3 .nil pass0 hg Z.mgD ha (by decide) he hpl
/-- what is let out -/
def XV (D : Addr) (z : Str) (H : Hp) (E : XK) : Prop := ∀ (H' : Hp) (d : Addr), Same H H' → H d = none → H' d = some (.xd [(fN, .str z)]) → E (.ref D) (some d) H'
theorem XV.same {D : Addr} {z : Str} {H H' : Hp} {E : XK} (s : Same H H') (h : XV D z H E) : XV D z H' E := fun H2 d s2 hn e => h H2 d (Same.trans s s2) (s.free hn) e
theorem raisedV {D : Addr} {z : Str} {H H1 : Hp} {E : XK} (s1 : Same H H1) (ok : NameOk z) (x : XV D z H E) : [V.str z].length ≤ 1000 ∧ ∀ a, H1 a = none → spVN D (.ref a :: ([V.str z] ++ [])) (upd H1 a (exo a D none))
  (fun r H2 => r = .non ∧ ∃ (d : Addr) (fs : List (Str × V)), H2 a = some (exo a D (some d)) ∧ H2 d = some (exd d fs) ∧ H1 d = none ∧ E (.ref D) (some d) (upd (del H2 a) d (.xd fs))) (fun _ _ _ => False) := by
  refine ⟨by show 1 ≤ 1000; decide, fun a ha => ⟨a, z, rfl, upd_same, ok, fun dx hdx ne => ⟨rfl, dx, [(fN, .str z)], upd_same, ?_, ?_, ?_⟩⟩⟩
  · rw [upd_ne ne]; exact upd_same
  · rw [upd_ne ne] at hdx; exact hdx
  · rw [upd_ne ne] at hdx
    refine x _ dx (fun b o hb => ?_) (s1.free hdx) upd_same
    have hb1 := s1 _ _ hb
    have n1 : b ≠ a := ne_of_none hb1 ha
    have n2 : b ≠ dx := ne_of_none hb1 hdx
    rw [upd_ne n2, del_ne n1, upd_ne n1, upd_ne n2, upd_ne n1]
    exact hb1
/-- where nothing is raised -/
theorem passF {X : Cx} : Passes (L2.CX X.prog X.w) X E0 := fun _ _ _ _ _ _ _ h => by
  obtain ⟨_, _, _, _, _, _, _, _, _, _, _, _, z⟩ := h
  exact z.elim
end S11

/-! turns in order -/
namespace GM
open PySem PySem.W
abbrev ordD (o : List Int) : PyData := .tuple (o.map PyData.int)
abbrev turnD (p : Turn) : PyData := .tuple [ordD p.1, .int p.2]
theorem eqvAll_ints : ∀ a b : List Int, PyData.eqvAll (a.map PyData.int) (b.map PyData.int) = decide (a = b)
  | [], b => by cases b <;> simp [PyData.eqvAll]
  | _ :: _, [] => by simp [PyData.eqvAll]
  | x :: a, y :: b => by
    show PyData.eqvAll (.int x :: a.map PyData.int) (.int y :: b.map PyData.int) = _
    rw [eqv_all_cons, eqvAll_ints a b, PyData.eqv]
    by_cases h : x = y
    · subst h
      by_cases h2 : a = b <;> simp [h2]
    · simp [h]
theorem eqv_ord (a b : List Int) : PyData.eqv (ordD a) (ordD b) = decide (a = b) := by rw [ordD, ordD, PyData.eqv, eqvAll_ints]
theorem alike_ord (a b : List Int) : alike (ordD a) (ordD b) = true := by rw [alike]; exact alike_ints a b
theorem lt_ord (a b : List Int) : dataLt (ordD a) (ordD b) = decide (a < b) := by rw [dataLt_tuple]; exact dataLt_ints a b
theorem alike_turn (p q : Turn) : alike (turnD p) (turnD q) = true := by
  rw [alike, alikeAll, alike_ord, alikeAll, alikeAll]
  simp [alike]
/-- p ahead of q -/
def tlt (p q : Turn) : Prop := p.1 < q.1 ∨ (p.1 = q.1 ∧ p.2 < q.2)
theorem lt_turn (p q : Turn) : dataLt (turnD p) (turnD q) = true ↔ tlt p q := by
  rw [dataLt_pair (alike_ord _ _) (by simp [alike]), eqv_ord, lt_ord, PyData.eqv, dataLt_int]
  unfold tlt
  by_cases h : p.1 = q.1
  · have irr : ¬ q.1 < q.1 := List.lt_irrefl _
    by_cases h2 : p.2 = q.2
    · simp [h, h2, irr]
    · simp [h, h2, irr]
  · simp [h]
def tle (p q : Turn) : Prop := ¬ tlt q p
theorem tle_anti {p q : Turn} (a : tle p q) (b : tle q p) : p = q := by
  unfold tle tlt at a b
  rw [not_or] at a b
  have e : p.1 = q.1 := List.le_antisymm (fun z => a.1 z) (fun z => b.1 z)
  have e2 : p.2 = q.2 := by
    have h1 : ¬ q.2 < p.2 := fun z => a.2 ⟨e.symm, z⟩
    have h2 : ¬ p.2 < q.2 := fun z => b.2 ⟨e, z⟩
    omega
  exact Prod.ext e e2
def Srt (L : List Turn) : Prop := L.Pairwise tle
theorem srt_one {L M : List Turn} (p : L.Perm M) (a : Srt L) (b : Srt M) : L = M := p.eq_of_pairwise (fun _ _ _ _ h1 h2 => tle_anti h1 h2) a b
theorem srt_same {L M : List Turn} (nl : L.Nodup) (nm : M.Nodup) (h : ∀ p, p ∈ L ↔ p ∈ M) (a : Srt L) (b : Srt M) : L = M := srt_one ((List.perm_ext_iff_of_nodup nl nm).mpr h) a b
/-- what sorted leaves -/
theorem sorted_turns {β : Type} (f : β → Turn) (bs : List β) : Srt ((bs.mergeSort (dataLe false fun b => turnD (f b))).map f) := by
  unfold Srt
  rw [List.pairwise_map]
  have t : TotalLe (dataLe false fun b => turnD (f b)) := sortLe_total _ false _
  refine List.Pairwise.imp (fun {x y} h => ?_) (sort_pairwise t bs)
  rw [dataLe_eq] at h
  intro z
  have := (lt_turn (f y) (f x)).mpr z
  simp only [cond_false, this] at h
  cases h
end GM

namespace S11
open PySem L2 GM
/-! ### the dict of signs -/
abbrev keyOf (o : List Int) : List Key := o.map Sum.inl
theorem keyOf_kV (o : List Int) : (keyOf o).map kV = o.map V.int := by
  unfold keyOf
  rw [List.map_map]
  exact List.map_congr_left fun _ _ => rfl
theorem keyOf_inj : ∀ {a b : List Int}, keyOf a = keyOf b → a = b
  | [], [], _ => rfl
  | [], _ :: _, h => by cases h
  | _ :: _, [], h => by cases h
  | x :: a, y :: b, h => by
    have h1 := (List.cons.inj (show Sum.inl x :: keyOf a = Sum.inl y :: keyOf b from h))
    rw [Sum.inl.inj h1.1, keyOf_inj h1.2]
def kvsOf (L : List Turn) : List (List Key × V) := L.map fun p => (keyOf p.1, V.int p.2)
theorem kvs_snoc (L : List Turn) (p : Turn) : kvsOf (L ++ [p]) = kvsOf L ++ [(keyOf p.1, V.int p.2)] := by unfold kvsOf; rw [List.map_append]; rfl
theorem kvs_none {o : List Int} : ∀ {L : List Turn}, o ∉ L.map Prod.fst → valV (kvsOf L) (keyOf o) = none
  | [], _ => rfl
  | p :: L, h => by
    rw [List.map_cons, List.mem_cons, not_or] at h
    show valV ((keyOf p.1, V.int p.2) :: kvsOf L) (keyOf o) = none
    rw [valV_neg (fun e => h.1 (keyOf_inj e).symm)]
    exact kvs_none h.2
theorem kvs_some {o : List Int} {s : Int} : ∀ {L : List Turn}, (L.map Prod.fst).Nodup → (o, s) ∈ L → valV (kvsOf L) (keyOf o) = some (.int s)
  | p :: L, nd, h => by
    show valV ((keyOf p.1, V.int p.2) :: kvsOf L) (keyOf o) = some (.int s)
    rw [List.map_cons, List.nodup_cons] at nd
    rcases List.mem_cons.mp h with e | h
    · subst e
      exact valV_pos rfl
    · rw [valV_neg (fun e => nd.1 (by rw [keyOf_inj e]; exact List.mem_map.mpr ⟨_, h, rfl⟩))]
      exact kvs_some nd.2 h
/-! ### rows of orders as data -/
theorem dp_ord {K : PySem.W.Frag} {H : Hp} {a : Addr} {o : List Int} (h : SqT K H a (o.map V.int)) : Dp K H (.ref a) (ordD o) := .tup h (dp_ints o)
theorem lay_ords : ∀ W : List (List Int), PyData.canLayAll0 (W.map ordD) = true
  | [] => by simp [PyData.canLayAll0]
  | o :: W => by
    show PyData.canLayAll0 (ordD o :: W.map ordD) = true
    rw [PyData.canLayAll0, lay_ords W, ordD, PyData.canLay0, lay_ints o]
    rfl
theorem deep_ords : ∀ W : List (List Int), PyData.depthAll (W.map ordD) ≤ 1
  | [] => by simp [PyData.depthAll]
  | o :: W => by
    have h := deep_ords W
    have d := PySem.W.depth_ints o
    show PyData.depthAll (ordD o :: W.map ordD) ≤ 1
    rw [PyData.depthAll, ordD, PyData.depth, d]
    omega
theorem sh_ords (W : List (List Int)) : SeqAt.shaped (.list (W.map ordD)) = true := by
  have d := deep_ords W
  unfold SeqAt.shaped
  rw [Bool.and_eq_true, decide_eq_true_eq, PyData.canLay0, PyData.depth]
  exact ⟨lay_ords W, by omega⟩
abbrev OrdIs (H : Hp) (p : Addr × List Int) : Prop := H p.1 = some (.tup (p.2.map V.int))
theorem dp_ords {K : PySem.W.Frag} {H : Hp} : ∀ {ws : List (Addr × List Int)}, (∀ p ∈ ws, OrdIs H p) → DpAll K H (ws.map fun p => V.ref p.1) ((ws.map Prod.snd).map ordD)
  | [], _ => .nil
  | p :: ws, h => .cons (dp_ord (.inl (.inl (h p List.mem_cons_self)))) (dp_ords fun q m => h q (List.mem_cons_of_mem _ m))
theorem eqv_empty : ∀ W : List (List Int), PyData.eqv (.list (W.map ordD)) (.list []) = W.isEmpty
  | [] => by rw [PyData.eqv]; rfl
  | _ :: _ => by rw [PyData.eqv]; rfl
section
variable {P : Program} {w : World} {K : PySem.W.Frag} {mg : Str → Option Value} {base : Heap}
/-! ### closed_group -/
def spClosed (K : PySem.W.Frag) (D : Addr) : Sp := fun vs H Q E => ∃ (z : Str) (n : Nat) (ta : Addr) (tvs : List V) (T : List Turn), vs = [.str z, .int n, .ref ta] ∧ NameOk z ∧ n ≤ 4 ∧ SqT K H ta tvs ∧ TurnsAre K H tvs T ∧ Are n T ∧ T.length ≤ 100 ∧ (¬ Single n T → XV D z H E) ∧
  ∀ H' d L, Same H H' → H d = none → H' d = some (.dT (kvsOf L)) → Lists n T L → (L.map Prod.fst).Nodup → L.length ≤ 24 → Q (.ref d) H'
abbrev nClosed : List Str := ["name", "many", "turns", "signs", "waiting", "here", "order", "sign", "further", "product"]
theorem scClosed : FnScope nClosed ["name", "many", "turns"] (defScope sClosed) := ⟨rfl, rfl, rfl, by decide +kernel, rfl, by decide +kernel, by decide +kernel⟩
theorem ok_closed {f D : Addr} {fd : FuncData} (F : Fun K "closed_group" "closed_group" sClosed f fd) (B : Bn mg) (Z : Vn P w K mg base D) (DM : Df P w K mg base "moved" ["places", "order"] 1 (spMoved K)) :
    FnG P w K mg base (L2.CX P w) 5 f fd ["name", "many", "turns"] (spClosed K D) := by
  obtain ⟨oc, od, kV, doc, pm, an, cdv, ct, osl, rfl, lk, hcd⟩ := F.ex
  refine fn_ofG lk hcd scClosed (fun vs H Q E h => ?_) fun A outer s H vs Q E gd hr h => ?_
  · obtain ⟨z, n, ta, tvs, T, rfl, _⟩ := h
    rfl
  · obtain ⟨z, n, ta, tvs, T, rfl, zok, n4, hta, hts, are, few, xv, q⟩ := h
    have hu := hr.units
    have hu1 := hu_of hr
    have h1 : Room 1 _ := hr.mono (by decide)
    refine ⟨_, pss_cons (ps_set (i := 3) scClosed.nd rfl (Or.inl rfl) (pe_oneT hu1 (pe_tupRg rfl (by rfl) B.tuple (prg_1 (by rfl) B.range (pv 1))) pe_int))
      (pss_cons (ps_set (i := 4) scClosed.nd rfl (Or.inl rfl) (pe_lst (pa_cons (pe_tupRg rfl (by rfl) B.tuple (prg_1 (by rfl) B.range (pv 1))) pa_nil)))
      (pss_cons (ps_while (passes_of rfl) (pt_cmpR (op_neD hu) (pv 4) (pe_lst pa_nil) (nomark _))
        (pss_cons (ps_set (i := 5) scClosed.nd rfl (Or.inl rfl) (pe_bm0 PySem.F.plainAttrs_list PySem.F.slot_list_pop PySem.F.type_list_pop mt_pop (pv 4)))
        (pss_one (ps_for (passes_of rfl) rfl (pi_tup (pv 2)) (pg_tup rfl (pgs_cons (pg_name (i := 6) scClosed.nd rfl (Or.inl rfl)) (pgs_cons (pg_name (i := 7) scClosed.nd rfl (Or.inl rfl)) pgs_nil)))
          (pss_cons (ps_par (i := 8) (j := 9) (by rfl) scClosed.nd rfl rfl (by decide) rfl rfl (pa_cons (pe_df DM h1 (by rfl) (pa_cons (pv 5) (pa_cons (pv 6) pa_nil))) (pa_cons (pe_op op_mul (pe_dget hu1 (pv 3) (pv 5) (fun _ _ => rfl)) (pv 7)) pa_nil)) (by rfl))
          (pss_one (ps_if (pt_cmp (pc_dnotin hu1 (pv 8) (pv 3)))
            (pss_cons (ps_dput hu1 (pv 3) (pv 8) (pv 9) rfl) (pss_one (ps_expr (pe_bm PySem.F.plainAttrs_list PySem.F.slot_list_append PySem.F.type_list_append mt_append (pv 4) (pa_cons (pv 8) pa_nil)))))
            (pss_one (ps_if (pt_cmpR op_ne (pe_dget hu1 (pv 3) (pv 8) (fun _ _ => rfl)) (pv 9) (nomark _)) (pss_one (L2.ps_raise (by rfl) (L2.takes_of (E := E) rfl rfl rfl rfl) (pmk_vn Z (deeper_guards.trans gd) hr (by rfl) (pa_cons (pv 0) pa_nil)))) pss_nil)))))))))
      (pss_one (ps_ret (pv 3))))), ?_⟩
    intro d hd
    have s1 := sNew (o := .dT []) (Same.refl H) hd
    refine ⟨_, rfl, _, rfl, RgOk.of_le (by decide) (by omega) (by decide) (by omega), fun k0 hk0 => ?_⟩
    rw [rg_idn]
    have s2 := sNew (o := .tup ((idn n).map V.int)) s1 hk0
    refine ⟨old upd_same hk0, k0, keyOf (idn n), .int 1, rfl, by rw [keyOf_kV]; exact upd_same, ?_⟩
    have d2 : upd (upd (upd H d (.dT [])) k0 (.tup ((idn n).map V.int))) d (.dT [(keyOf (idn n), .int 1)]) d = some (.dT (kvsOf [(idn n, 1)])) := upd_same
    have s3 : Same H (upd (upd (upd H d (.dT [])) k0 (.tup ((idn n).map V.int))) d (.dT [(keyOf (idn n), .int 1)])) := sPut s2 hd
    generalize upd (upd (upd H d (.dT [])) k0 (.tup ((idn n).map V.int))) d (.dT [(keyOf (idn n), .int 1)]) = H3 at d2 s3
    refine ⟨_, rfl, _, rfl, RgOk.of_le (by decide) (by omega) (by decide) (by omega), fun k1 hk1 => ?_⟩
    rw [rg_idn]
    have s4 := sNew (o := .tup ((idn n).map V.int)) (Same.refl H3) hk1
    refine ⟨(by show 1 ≤ sizeLine; decide), fun wl hwl => ?_⟩
    have s5 := sNew (o := .lst [.ref k1]) s4 hwl
    have w5 : upd (upd H3 k1 (.tup ((idn n).map V.int))) wl (.lst [.ref k1]) wl = some (.lst [.ref k1]) := upd_same
    have t5 : upd (upd H3 k1 (.tup ((idn n).map V.int))) wl (.lst [.ref k1]) k1 = some (.tup ((idn n).map V.int)) := old upd_same hwl
    have hwl0 : H wl = none := s3.free (s4.free hwl)
    have d5 := s5 _ _ d2
    have s6 := Same.trans s3 s5
    generalize upd (upd H3 k1 (.tup ((idn n).map V.int))) wl (.lst [.ref k1]) = H5 at w5 t5 d5 s6
    refine ⟨fun m σ H' => ∃ (L : List Turn) (ws : List (Addr × List Int)) (x5 x6 x7 x8 x9 : Option V), σ = [some (.str z), some (.int n), some (.ref ta), some (.ref d), some (.ref wl), x5, x6, x7, x8, x9] ∧ Same H H' ∧ H' d = some (.dT (kvsOf L)) ∧
      H' wl = some (.lst (ws.map fun p => V.ref p.1)) ∧ (∀ p ∈ ws, OrdIs H' p) ∧ Srch n T L (ws.map Prod.snd) ∧ 2 * (24 - L.length) + ws.length = m ∧ m ≤ 100, ⟨_, [(idn n, 1)], [(k1, idn n)], none, none, none, none, none, rfl, s6, d5, w5, ?_, Srch.start, rfl, Nat.le_of_ble_eq_true rfl⟩, ?_⟩
    · intro p m
      rw [List.mem_singleton.mp m]
      exact t5
    rintro m σ H6 ⟨L, ws, x5, x6, x7, x8, x9, rfl, s7, d7, w7, t7, inv, rfl, mle⟩
    have Lfew : L.length ≤ 24 := Srch.few n4 are inv.nd inv.ok
    refine ⟨_, rfl, (by show 0 ≤ sizeLine; decide), fun e0 he0 => ?_⟩
    have s8 := sNew (o := .lst []) (Same.refl H6) he0
    refine ⟨_, _, .lst (SqL.of (s8 _ _ w7)) (dp_ords fun p m => s8 _ _ (t7 p m)), .lst (SqL.of upd_same) .nil, sh_ords _, by decide, ?_⟩
    rw [eqv_empty]
    have ends : ws = [] ∨ ∃ (ws' : List (Addr × List Int)) (b : Addr × List Int), ws = ws' ++ [b] := by
      rcases List.eq_nil_or_concat ws with e | ⟨ws', b, e⟩
      · exact .inl e
      · exact .inr ⟨ws', b, by rw [e, List.concat_eq_append]⟩
    rcases ends with rfl | ⟨ws', ⟨h, here⟩, rfl⟩
    · refine ⟨_, rfl, iteF ?_⟩
      exact ⟨_, rfl, q _ d L (Same.trans s7 s8) hd (s8 _ _ d7) inv.lists inv.nd Lfew⟩
    · rw [List.map_append] at inv
      refine ⟨_, rfl, ?_⟩
      have no : (!(List.map Prod.snd (ws' ++ [(h, here)])).isEmpty) = true := by
        rw [List.map_append]
        cases List.map Prod.snd ws' <;> rfl
      rw [no]
      refine iteT ⟨fun σ' H' => ∃ (L' : List Turn) (ws2 : List (Addr × List Int)) (x5 x6 x7 x8 x9 : Option V), σ' = [some (.str z), some (.int n), some (.ref ta), some (.ref d), some (.ref wl), x5, x6, x7, x8, x9] ∧ Same H H' ∧ H' d = some (.dT (kvsOf L')) ∧
        H' wl = some (.lst (ws2.map fun p => V.ref p.1)) ∧ (∀ p ∈ ws2, OrdIs H' p) ∧ Srch n T L' (ws2.map Prod.snd) ∧ 2 * (24 - L'.length) + ws2.length < 2 * (24 - L.length) + (ws' ++ [(h, here)]).length,
        fun σ' H' ⟨L', ws2, y5, y6, y7, y8, y9, c1, c2, c3, c4, c5, c6, c7⟩ => ⟨_, c7, L', ws2, y5, y6, y7, y8, y9, c1, c2, c3, c4, c5, c6, rfl, Nat.le_trans (Nat.le_of_lt c7) mle⟩, ?_⟩
      have w8 := s8 _ _ w7
      have d8 := s8 _ _ d7
      have t8 : ∀ p ∈ ws' ++ [(h, here)], OrdIs (upd H6 e0 (.lst [])) p := fun p m => s8 _ _ (t7 p m)
      have s9 := Same.trans s7 s8
      generalize upd H6 e0 (.lst []) = H8 at w8 d8 t8 s9
      have th := t8 (h, here) (by simp)
      refine ⟨_, rfl, .inl ⟨rfl, _, SqL.of w8⟩, wl, _, V.ref h, rfl, rfl, w8, ?_, ?_⟩
      · rw [List.map_append]
        simp
      have wd : d ≠ wl := ne_of d8 w8 (fun z => by cases z)
      rw [List.map_append, List.map_singleton, List.dropLast_concat]
      have notT : ∀ {p : Addr × List Int} {G : Hp} {v : List V}, OrdIs G p → G wl = some (.lst v) → p.1 ≠ wl := fun a b => ne_of a b (fun z => by cases z)
      have notD : ∀ {p : Addr × List Int} {G : Hp} {v : List (List Key × V)}, OrdIs G p → G d = some (.dT v) → p.1 ≠ d := fun a b => ne_of a b (fun z => by cases z)
      obtain ⟨sg, mid⟩ := inv.pop
      have w9 : upd H8 wl (.lst (ws'.map fun p => V.ref p.1)) wl = some (.lst (ws'.map fun p => V.ref p.1)) := upd_same
      have d9 : upd H8 wl (.lst (ws'.map fun p => V.ref p.1)) d = some (.dT (kvsOf L)) := by rw [upd_ne wd]; exact d8
      have t9 : ∀ p ∈ ws', OrdIs (upd H8 wl (.lst (ws'.map fun p => V.ref p.1))) p := fun p m => by
        have o := t8 p (List.mem_append_left _ m)
        show upd H8 wl _ p.1 = _
        rw [upd_ne (notT o w8)]
        exact o
      have h9 : upd H8 wl (.lst (ws'.map fun p => V.ref p.1)) h = some (.tup (here.map V.int)) := by
        rw [upd_ne (notT th w8)]
        exact th
      have s10 : Same H (upd H8 wl (.lst (ws'.map fun p => V.ref p.1))) := sPut s9 hwl0
      generalize upd H8 wl (.lst (ws'.map fun p => V.ref p.1)) = H9 at w9 d9 t9 h9 s10
      refine ⟨_, rfl, ta, rfl, ⟨_, sTup s10 hta⟩, for_it (walk_tup (K := K) (a := ta) (xs := tvs)) (fun i σ' H' => ∃ (L' : List Turn) (ws2 : List (Addr × List Int)) (x6 x7 x8 x9 : Option V), σ' = [some (.str z), some (.int n), some (.ref ta), some (.ref d), some (.ref wl), some (.ref h), x6, x7, x8, x9] ∧ Same H H' ∧ H' d = some (.dT (kvsOf L')) ∧
        H' wl = some (.lst (ws2.map fun p => V.ref p.1)) ∧ (∀ p ∈ ws2, OrdIs H' p) ∧ OrdIs H' (h, here) ∧ Mid n T L' (ws2.map Prod.snd) here sg i ∧ 2 * (24 - L'.length) + ws2.length < 2 * (24 - L.length) + (ws' ++ [(h, here)]).length)
        ⟨L, ws', x6, x7, x8, x9, rfl, s10, d9, w9, t9, h9, mid, ?_⟩ (fun i σ H' _ ⟨_, _, _, _, _, _, _, c, _⟩ => sTup c hta) ?_ ?_⟩
      · rw [List.length_append, List.length_singleton]
        omega
      · rintro i v σ H10 _ hi ⟨L', ws2, y6, y7, y8, y9, rfl, c2, c3, c4, c5, c6, c7, c8⟩ ⟨rfl, hv⟩
        obtain ⟨⟨o, g⟩, hT, t, u, rfl, ht, hu'⟩ := (hts.same c2).get hv
        have mem := List.mem_of_getElem? hT
        have operm : o.Perm (idn n) := (are _ mem).1
        have gsgn : Sgn g := (are _ mem).2
        have hr' := (c7.ok _ c7.at_).are are
        have hperm : here.Perm (idn n) := hr'.1
        have ssgn : Sgn sg := hr'.2
        have hlen : here.length = n := by rw [hperm.length_eq, idn_len]
        have olen : o.length = n := by rw [operm.length_eq, idn_len]
        refine ⟨t, _, rfl, ht, rfl, _, _, rfl, _, _, rfl, rfl, ?_⟩
        refine ⟨_, rfl, _, rfl, h, u, here, o, rfl, .inl (.inl c6), hu', by rw [hlen]; exact idn_fits operm, by omega, fun H11 p s11 hp ep => ?_⟩
        have ep2 : H11 p = some (.tup ((keyOf (mv here o)).map L2.kV)) := by rw [keyOf_kV]; exact ep
        have d11 := s11 _ _ c3
        have w11 := s11 _ _ c4
        have h11 : H11 h = some (.tup ((keyOf here).map L2.kV)) := by rw [keyOf_kV]; exact s11 _ _ c6
        have get : DGet H11 d (.ref h) (some (.int sg)) := by
          have z := DGet.t d11 h11
          rwa [kvs_some c7.nd c7.at_] at z
        have sz : -(2 ^ 64) < sg ∧ sg < 2 ^ 64 := by rcases ssgn with e | e <;> rw [e] <;> decide
        refine ⟨_, rfl, _, rfl, d, _, rfl, get, _, rfl, _, _, rfl, rfl, .inl sz, _, _, rfl, ?_⟩
        have s12 := Same.trans c2 s11
        have lfew : L'.length ≤ 24 := Srch.few n4 are c7.nd c7.ok
        by_cases new : mv here o ∈ L'.map Prod.fst
        · obtain ⟨⟨o', s'⟩, hm, e'⟩ := List.mem_map.mp new
          obtain rfl : o' = mv here o := e'
          have get2 : DGet H11 d (.ref p) (some (.int s')) := by
            have z := DGet.t d11 ep2
            rwa [kvs_some c7.nd hm] at z
          refine ⟨_, rfl, _, rfl, d, _, rfl, get2, _, rfl, iteF ?_⟩
          refine ⟨_, rfl, _, rfl, d, _, rfl, get2, _, rfl, rfl, _, rfl, ?_⟩
          by_cases eq : s' = sg * g
          · rw [show (!decide (V.int s' = V.int (sg * g))) = false by rw [eq, decide_eq_true rfl]; rfl]
            refine iteF ⟨L', ws2, _, _, _, _, rfl, s12, d11, w11, fun q m => s11 _ _ (c5 q m), s11 _ _ c6, c7.keep hT (eq ▸ hm), c8⟩
          · rw [show (!decide (V.int s' = V.int (sg * g))) = true by rw [decide_eq_false (fun z => eq (V.int.inj z))]; rfl]
            exact iteT ⟨_, rfl, raisedV s12 zok (xv (c7.clash hT hm eq))⟩
        · have get2 : DGet H11 d (.ref p) none := by
            have z := DGet.t d11 ep2
            rwa [kvs_none new] at z
          have mid2 := c7.add hT new
          have lfew2 : (L' ++ [(mv here o, sg * g)]).length ≤ 24 := Srch.few n4 are mid2.nd mid2.ok
          rw [List.length_append, List.length_singleton] at lfew2
          refine ⟨_, rfl, _, rfl, d, _, rfl, get2, _, rfl, iteT ?_⟩
          refine ⟨_, rfl, _, rfl, _, rfl, d, _, rfl, DPut.t d11 ep2 (by unfold kvsOf; rw [List.length_map]; exact lt_line (by omega)), ?_⟩
          rw [putK_new _ (kvs_none new), ← kvs_snoc L' (mv here o, sg * g)]
          have d13 : upd H11 d (.dT (kvsOf (L' ++ [(mv here o, sg * g)]))) d = some (.dT (kvsOf (L' ++ [(mv here o, sg * g)]))) := upd_same
          have w13 : upd H11 d (.dT (kvsOf (L' ++ [(mv here o, sg * g)]))) wl = some (.lst (ws2.map fun p => V.ref p.1)) := by rw [upd_ne (Ne.symm wd)]; exact w11
          have t13 : ∀ q ∈ (h, here) :: ws2 ++ [(p, mv here o)], OrdIs (upd H11 d (.dT (kvsOf (L' ++ [(mv here o, sg * g)])))) q := fun q m => by
            have z : OrdIs H11 q := by
              rcases List.mem_append.mp m with m | m
              · rcases List.mem_cons.mp m with rfl | m
                · exact s11 _ _ c6
                · exact s11 _ _ (c5 q m)
              · rw [List.mem_singleton.mp m]
                exact ep
            show upd H11 d _ q.1 = _
            rw [upd_ne (notD z d11)]
            exact z
          have s13 : Same H (upd H11 d (.dT (kvsOf (L' ++ [(mv here o, sg * g)])))) := sPut s12 hd
          generalize upd H11 d (.dT (kvsOf (L' ++ [(mv here o, sg * g)]))) = H13 at d13 w13 t13 s13
          refine ⟨_, rfl, .inl ⟨rfl, _, SqL.of w13⟩, _, rfl, wl, _, _, rfl, rfl, w13, by rw [List.length_map]; exact lt_line (by omega), ?_⟩
          have w14 : upd H13 wl (.lst ((ws2.map fun p => V.ref p.1) ++ [V.ref p])) wl = some (.lst ((ws2 ++ [(p, mv here o)]).map fun p => V.ref p.1)) := by rw [List.map_append]; exact upd_same
          have t14 : ∀ q ∈ (h, here) :: ws2 ++ [(p, mv here o)], OrdIs (upd H13 wl (.lst ((ws2.map fun p => V.ref p.1) ++ [V.ref p]))) q := fun q m => by
            have z := t13 q m
            show upd H13 wl _ q.1 = _
            rw [upd_ne (notT z w13)]
            exact z
          refine ⟨L' ++ [(mv here o, sg * g)], ws2 ++ [(p, mv here o)], _, _, _, _, rfl, sPut s13 hwl0, by rw [upd_ne wd]; exact d13, w14, fun q m => t14 q (by simp only [List.cons_append, List.mem_cons]; exact .inr m), t14 _ (by simp), ?_, ?_⟩
          · rw [List.map_append]
            exact mid2
          · rw [List.length_append, List.length_append, List.length_singleton, List.length_singleton]
            omega
      · rintro σ H' ⟨L', ws2, y6, y7, y8, y9, rfl, c2, c3, c4, c5, c6, c7, c8⟩
        rw [hts.len] at c7
        exact ⟨L', ws2, _, y6, y7, y8, y9, rfl, c2, c3, c4, c5, c7.finish, c8⟩
end
end S11

/-! C(e, .., *xs) by an __init__ with *args, where no repr is under way -/
namespace L2
open PySem PySem.Spec PyProof.Rows
theorem pe_makeSG {X : Cx} {CX : CXT} {n : Nat} {C g : Addr} {pr : Sp} {E : XK} {nm : Str} {e1 : Expr} {er : List Expr} {ta : TA} {pn pc : Pos} (mk : Mk X.K C g) (init : FnRG X.prog X.w X.K X.mg X.base CX n g pr) (quiet : X.A.guards = some []) (room : Room (n + 1) X.A)
    (gl : Gl X nm) (at_ : X.mg nm = some (.ref C)) (pass : Passes CX X E) (args : PA X (e1 :: er) ta) (nd : (nm == ("__debug__" : Str)) = false := by decide) (st : starEach (e1 :: er) X.env = (false, eval e1 X.env) :: starEach er X.env := by rfl)
    (star : (backTo pc (starEach er X.env)).any (·.1) = true := by rfl) : PE X (.Call (.Name nm pn) (e1 :: er) [] pc) (StX.tMakeR C pr E ta) := by
  refine ⟨fun pins s0 σ H W J w => wpAny_Call_Name_kw (ld_glob J gl at_ ?_ nd)⟩
  refine PySem.W.callWith_S2 (h₀ := X.base) J.ok.mod.kin mk.kp (thn (args.run pc pins s0 σ H _ J w) ?_) st star
  rintro us s1 ⟨as, H1, J1, rel, w1⟩
  exact ⟨J1.kIn, made_by mk init quiet room pass J1 rel w1⟩
end L2

namespace S11
open PySem L2 GM
open PySem.W (EachIs)
/-! ### tables -/
abbrev fS : Str := "own_slots"
abbrev fT : Str := "own_turns"
/-- a turn as the program makes them -/
def TurnS (H : Hp) (v : V) (p : Turn) : Prop := ∃ t u, v = .ref t ∧ H t = some (.tup [.ref u, .int p.2]) ∧ H u = some (.tup (p.1.map V.int))
theorem TurnS.same {H H' : Hp} {v : V} {p : Turn} (e : Same H H') (h : TurnS H v p) : TurnS H' v p := by
  obtain ⟨t, u, rfl, h1, h2⟩ := h
  exact ⟨t, u, rfl, e _ _ h1, e _ _ h2⟩
theorem TurnS.is {K : PySem.W.Frag} {H : Hp} {v : V} {p : Turn} (h : TurnS H v p) : IsTurn K H v p := by
  obtain ⟨t, u, rfl, h1, h2⟩ := h
  exact ⟨t, u, rfl, .inl (.inl h1), .inl (.inl h2)⟩
abbrev TurnsS (H : Hp) : List V → List Turn → Prop := EachIs (TurnS H)
theorem TurnsS.same {H H' : Hp} {vs : List V} {ps : List Turn} (e : Same H H') (h : TurnsS H vs ps) : TurnsS H' vs ps := h.mono fun _ _ z => z.same e
theorem TurnsS.are {K : PySem.W.Frag} {H : Hp} {vs : List V} {ps : List Turn} (h : TurnsS H vs ps) : TurnsAre K H vs ps := by
  induction h with
  | nil => exact trivial
  | cons a _ ih => exact ⟨a.is, ih⟩
theorem each_snoc {α β : Type} {R : α → β → Prop} {a : α} {b : β} {as : List α} {bs : List β} (h : EachIs R as bs) (r : R a b) : EachIs R (as ++ [a]) (bs ++ [b]) := by
  induction h with
  | nil => exact .cons r .nil
  | cons x _ ih => exact .cons x ih
theorem each_get {α β : Type} {R : α → β → Prop} {as : List α} {bs : List β} (h : EachIs R as bs) : ∀ {i : Nat} {a : α}, as[i]? = some a → ∃ b, bs[i]? = some b ∧ R a b := by
  induction h with
  | nil => intro i a e; cases e
  | @cons x y _ _ r _ ih =>
    intro i a e
    cases i with
    | zero =>
      obtain rfl : x = a := Option.some.inj e
      exact ⟨y, rfl, r⟩
    | succ i => exact ih e
theorem each_mem {α β : Type} {R : α → β → Prop} {as : List α} {bs : List β} (h : EachIs R as bs) {p : α × β} (m : p ∈ as.zip bs) : R p.1 p.2 := h.zip p m
/-- turns in a list -/
def GroupAt (H : Hp) (a : Addr) (L : List Turn) : Prop := ∃ vs, H a = some (.lst vs) ∧ TurnsS H vs L
theorem GroupAt.same {H H' : Hp} {a : Addr} {L : List Turn} (e : Same H H') (h : GroupAt H a L) : GroupAt H' a L := by
  obtain ⟨vs, h1, h2⟩ := h
  exact ⟨vs, e _ _ h1, TurnsS.same e h2⟩
/-- the group that T leads to, in order -/
structure Grp (n : Nat) (T L : List Turn) : Prop where
  srt : Srt L
  lists : Lists n T L
  nd : (L.map Prod.fst).Nodup
def TabAt (C : Addr) (H : Hp) (a : Addr) (z : Str) (ss : List Str) (L : List Turn) : Prop := ∃ dx sa ga, H a = some (.ins C dx [(fN, .str z), (fS, .ref sa), (fT, .ref ga)]) ∧ H sa = some (.tup (ss.map V.str)) ∧ GroupAt H ga L
theorem TabAt.same {C : Addr} {H H' : Hp} {a : Addr} {z : Str} {ss : List Str} {L : List Turn} (e : Same H H') (h : TabAt C H a z ss L) : TabAt C H' a z ss L := by
  obtain ⟨dx, sa, ga, h1, h2, h3⟩ := h
  exact ⟨dx, sa, ga, e _ _ h1, e _ _ h2, h3.same e⟩
structure Tc (K : PySem.W.Frag) (mg : Str → Option Value) (C : Addr) : Prop where
  cl : Cls K C
  nN : NoAttr K C fN
  nS : NoAttr K C fS
  nT : NoAttr K C fT
  mgC : mg "Table" = some (.ref C)
  ic : PySem.W.findIn K (.ref C) "__class__" = some (some (.builtin "object.__class__"))
  gt : PySem.W.specialIn K (.builtin "object.__class__") "__get__" = some (some (.builtin "getset_descriptor.__get__"))
  tk : PySem.W.takesIn K (.builtin "object.__class__") = some true
  mo : PySem.W.mroIn K C (.type "object") = some true
theorem SameX.same {x : Addr} {H H' H2 : Hp} (a : SameX x H H') (b : Same H' H2) : SameX x H H2 := fun c o hc e => b c o (a c o hc e)
theorem SameX.trans {x : Addr} {H H' H2 : Hp} (a : SameX x H H') (b : SameX x H' H2) : SameX x H H2 := fun c o hc e => b c o hc (a c o hc e)
theorem SameX.of {x : Addr} {H H' : Hp} (a : Same H H') : SameX x H H' := fun c o _ e => a c o e
theorem SameX.put {x : Addr} {H H' : Hp} {o : HO} (a : SameX x H H') : SameX x H (upd H' x o) := fun c p hc e => by rw [upd_ne hc]; exact a c p hc e
theorem SameX.free {x : Addr} {H H' : Hp} (a : SameX x H H') {l : Addr} (hl : l ≠ x) (h : H' l = none) : H l = none := by
  cases e : H l with
  | none => rfl
  | some o => rw [a l o hl e] at h; cases h
/-- behind a lock -/
theorem sUnlock {H G : Hp} {d : Addr} {x u : HO} (s : Same (upd H d x) G) (h : H d = some u) : Same H (upd G d u) := fun b o e => by
  by_cases hb : b = d
  · subst hb
    rw [upd_same]
    exact h.symm.trans e
  · rw [upd_ne hb]
    exact s b o (by rw [upd_ne hb]; exact e)
/-- texts in a list or a tuple, made by the program -/
def TextsS (H : Hp) (a : Addr) (ss : List Str) : Prop := H a = some (.lst (ss.map V.str)) ∨ H a = some (.tup (ss.map V.str))
theorem TextsS.at_ {K : PySem.W.Frag} {H : Hp} {a : Addr} {ss : List Str} (h : TextsS H a ss) : TextsAt K H a ss := h.imp (fun z => SqL.of z) (fun z => .inl (.inl z))
theorem TextsS.same {H H' : Hp} {a : Addr} {ss : List Str} (e : Same H H') (h : TextsS H a ss) : TextsS H' a ss := h.imp (e _ _) (e _ _)
theorem TextsS.x {H H' : Hp} {a x : Addr} {ss : List Str} (e : SameX x H H') (ne : a ≠ x) (h : TextsS H a ss) : TextsS H' a ss := h.imp (e _ _ ne) (e _ _ ne)
/-- tuple(texts) -/
def tTexts (i : Nat) : TE := fun σ H Q => ∃ (a : Addr) (ss : List Str), σ[i]? = some (some (.ref a)) ∧ TextsS H a ss ∧ ∀ (H' : Hp) (sa : Addr), Same H H' → H' sa = some (.tup (ss.map V.str)) → Q (.ref sa) H'
theorem pe_texts {X : Cx} {x : Str} {i : Nat} {p p2 pos : Pos} (hg : Gl X "tuple") (hm : X.mg "tuple" = none) (he : PE X (.Name x p2) (tVar i)) : PE X (.Call (.Name "tuple" p) [.Name x p2] [] pos) (tTexts i) := by
  refine PE.imp (pe_callTy call_tuple_of hg hm (by decide +kernel) (pa_cons he pa_nil)) ?_
  rintro σ H Q ⟨a, ss, h1, h2, k⟩
  rcases h2 with h2 | h2
  · exact ⟨_, h1, a, ss.map V.str, rfl, .inl ⟨SqL.of h2, fun p hp => k _ p (sNew (Same.refl _) hp) upd_same⟩⟩
  · exact ⟨_, h1, a, ss.map V.str, rfl, .inr ⟨.inl (.inl h2), k _ a (Same.refl _) h2⟩⟩
theorem are_of {ss : List Str} {T : List Turn} (h : ∀ p ∈ T, TurnOk ss p) : Are ss.length T := fun p m => ⟨(h p m).1.1, (h p m).2⟩
section
variable {P : Program} {w : World} {K : PySem.W.Frag} {mg : Str → Option Value} {base : Heap}
theorem sTupX {H H' : Hp} {a x C dx : Addr} {fs : List (Str × V)} {xs : List V} (e : SameX x H H') (hx : H x = some (.ins C dx fs)) (h : SqT K H a xs) : SqT K H' a xs := by
  rcases h with (h | ⟨o, h⟩) | h
  · exact .inl (.inl (e _ _ (ne_of h hx (fun z => by cases z)) h))
  · exact .inl (.inr ⟨o, e _ _ (ne_of h hx (fun z => by cases z)) h⟩)
  · exact .inr h
theorem TurnsAre.x {H H' : Hp} {x C dx : Addr} {fs : List (Str × V)} (e : SameX x H H') (hx : H x = some (.ins C dx fs)) : ∀ {vs : List V} {ps : List Turn}, TurnsAre K H vs ps → TurnsAre K H' vs ps
  | [], [], _ => trivial
  | _ :: _, _ :: _, ⟨⟨t, u, e1, h1, h2⟩, h⟩ => ⟨⟨t, u, e1, sTupX e hx h1, sTupX e hx h2⟩, TurnsAre.x e hx h⟩
  | [], _ :: _, h => h.elim
  | _ :: _, [], h => h.elim
theorem TurnS.thaw {H : Hp} {v : V} {p : Turn} {a : Addr} {o : Obj} {u : HO} {kvs : List (List Key × V)} (h : TurnS H v p) (ha : H a = some (.frz o (.dT kvs))) : TurnS (upd H a u) v p := by
  obtain ⟨t, w, rfl, h1, h2⟩ := h
  exact ⟨t, w, rfl, by rw [upd_ne (ne_of h1 ha (fun z => by cases z))]; exact h1, by rw [upd_ne (ne_of h2 ha (fun z => by cases z))]; exact h2⟩
theorem TurnS.dp {H : Hp} {v : V} {p : Turn} (h : TurnS H v p) : Dp K H v (turnD p) := by
  obtain ⟨t, w, rfl, h1, h2⟩ := h
  exact .tup (.inl (.inl h1)) (.cons (dp_ord (.inl (.inl h2))) (.cons (.int _) .nil))
theorem deep_turn (p : Turn) : (turnD p).depth ≤ 60 := by
  have d := PySem.W.depth_ints p.1
  simp only [PyData.depth, PyData.depthAll, d]
  omega
theorem TurnS.put {H : Hp} {v : V} {p : Turn} {a : Addr} {xs ys : List V} (h : TurnS H v p) (ha : H a = some (.lst xs)) : TurnS (upd H a (.lst ys)) v p := by
  obtain ⟨t, u, rfl, h1, h2⟩ := h
  exact ⟨t, u, rfl, by rw [upd_ne (ne_of h1 ha (fun z => by cases z))]; exact h1, by rw [upd_ne (ne_of h2 ha (fun z => by cases z))]; exact h2⟩
/-! ### Table.__init__ -/
def spTInit (K : PySem.W.Frag) (C D : Addr) : Sp := fun vs H Q E => ∃ (x dx a t : Addr) (z : Str) (ss : List Str) (tv : List V) (T : List Turn), vs = [.ref x, .str z, .ref a, .ref t] ∧ H x = some (.ins C dx []) ∧ NameOk z ∧ TextsS H a ss ∧ SlotsOk ss ∧
  H t = some (.tup tv) ∧ TurnsAre K H tv T ∧ (∀ p ∈ T, TurnOk ss p) ∧ T.length ≤ 100 ∧ (¬ Single ss.length T → ∀ (H' : Hp) (d : Addr), SameX x H H' → H d = none → H' d = some (.xd [(fN, .str z)]) → E (.ref D) (some d) H') ∧
  ∀ (H' : Hp) (sa ga : Addr) (L : List Turn), SameX x H H' → H' x = some (.ins C dx [(fN, .str z), (fS, .ref sa), (fT, .ref ga)]) → H' sa = some (.tup (ss.map V.str)) → GroupAt H' ga L → Grp ss.length T L → Q .non H'
abbrev nTInit : List Str := ["self", "name", "slots", "turns", "position", "turn", "signs", "order"]
theorem scTInit : FnScope nTInit (([("self" : Str), "name", "slots"] : List Str) ++ [("turns" : Str)]) (defScope sTInit) := ⟨rfl, rfl, rfl, by decide +kernel, rfl, by decide +kernel, by decide +kernel⟩
/-- the two parts of the module that the class calls -/
structure TDs (P : Program) (w : World) (K : PySem.W.Frag) (mg : Str → Option Value) (base : Heap) (D : Addr) : Prop where
  wn : Df P w K mg base "want_name" ["value"] 2 spWantName
  ws : Df P w K mg base "want_slots" ["slots"] 2 (spWantSlots K)
  it : Df P w K mg base "is_turn" ["value", "slots"] 3 (spIsTurn K)
  mv : Df P w K mg base "moved" ["places", "order"] 1 (spMoved K)
  cg : ∃ f fd, mg "closed_group" = some (.ref f) ∧ PySem.W.keepIn K (.ref f) = true ∧ Binds K fd ["name", "many", "turns"] [] ∧ FnG P w K mg base (L2.CX P w) 5 f fd ["name", "many", "turns"] (spClosed K D)
theorem ok_tinit {f C D : Addr} {fd : FuncData} (F : Fun K "__init__" "Table.__init__" sTInit f fd) (B : Bn mg) (N : Tc K mg C) (M : TDs P w K mg base D) :
    FnRG P w K mg base (L2.CX P w) 6 f (fun vs H Q E => ∃ ws rest, vs = ws ++ rest ∧ ws.length = (["self", "name", "slots"] : List Str).length ∧ rest.length ≤ sizeLine ∧ ∀ p, H p = Option.none → spTInit K C D (ws ++ [V.ref p]) (upd H p (.tup rest)) Q E) := by
  obtain ⟨oc, od, kV, doc, pm, an, cdv, ct, osl, rfl, lk, hcd⟩ := F.ex
  refine fn_starG (ps := ["self", "name", "slots"]) (pv := "turns") lk hcd scTInit StX.cxUp (fun us rest hl => ?_) (fun A outer s H vs Q E gd hr h => ?_)
  · match us, rest, hl with
    | [u, v, x], [], _ => rfl
    | [u, v, x], a :: b, _ => rfl
  · obtain ⟨x, dx, a, t, z, ss, tv, T, rfl, hx, zok, ha, sok, ht, hts, tok, few, xv, q⟩ := h
    obtain ⟨fc, fdc, mc, kc, bc, G⟩ := M.cg
    have hu := hr.units
    have hu1 := hu_of hr
    have room : (A.deeper (PyProof.Rows.envOfC "Table.__init__" (defScope sTInit) s.heap.objs.size f cdv)).units + 70 < cLine := by
      have := hr.un
      omega
    have h2 : Room 2 _ := hr.mono (by decide)
    have h3 : Room 3 _ := hr.mono (by decide)
    refine ⟨_, pss_cons (ps_expr (pe_df M.wn h2 (by rfl) (pa_cons (pv 1) pa_nil))) (pss_cons (ps_expr (pe_df M.ws h2 (by rfl) (pa_cons (pv 2) pa_nil)))
      (pss_cons (ps_for (passes_of rfl) rfl (pi_enumT (by rfl) B.enum (pa_cons (pv 3) pa_nil)) (pg_tup rfl (pgs_cons (pg_name (i := 4) scTInit.nd rfl (Or.inl rfl)) (pgs_cons (pg_name (i := 5) scTInit.nd rfl (Or.inl rfl)) pgs_nil)))
        (pss_one (ps_if (pt_not (pt_val (pe_df M.it h3 (by rfl) (pa_cons (pv 5) (pa_cons (pv 2) pa_nil))))) (pss_one ps_never) pss_nil)))
      (pss_cons (ps_fld (pv 0) (pv 1) rfl)
      (pss_cons (ps_fld (pv 0) (pe_texts (by rfl) B.tuple (pv 2)) rfl)
      (pss_cons (ps_set (i := 6) scTInit.nd rfl (Or.inr rfl) (pe_callG G (deeper_guards.trans gd) hr (by rfl) mc kc bc .nil (L2.passes_call (L2.takes_of (E := E) rfl rfl rfl rfl) fun _ _ _ _ z => z) (pa_cons (pv 1) (pa_cons (pe_callB call_len_seq (by rfl) B.len PySem.boot_len (pa_cons (pv 2) pa_nil)) (pa_cons (pv 3) pa_nil))) (by decide) (by rfl) (by rfl)))
      (pss_one (ps_fld (pv 0) (pe_callB (cr_sortB room) (by rfl) B.sorted (by decide +kernel) (pa_cons (pe_lock (pe_lc (own := [("order", 7)]) (g := gName 7) (tt := tYes) (te := tTup (tCons (tVar 7) (tCons (tDGet (tVar 6) (tVar 7)) tNil))) (by rfl) scTInit.nd (pi_keys (pv 6)) (blkOk_by (own := [("order", 7)]) (N := nTInit) (sc := defScope sTInit) (by decide +kernel))
        (fun _ _ _ _ _ => pg_name (i := 7) scTInit.nd rfl (Or.inl rfl)) (fun _ _ _ _ _ => pts_nil) (fun _ _ _ _ _ => pe_tup (pa_cons (pv 7) (pa_cons (pe_dget hu1 (pv 6) (pv 7) (fun _ _ => rfl)) pa_nil))))) pa_nil)) rfl))))))), ?_⟩
    have nxa : a ≠ x := by
      rcases ha with h | h
      · exact ne_of h hx (fun z => by cases z)
      · exact ne_of h hx (fun z => by cases z)
    have nxt : t ≠ x := ne_of ht hx (fun z => by cases z)
    refine ⟨_, rfl, z, rfl, zok, fun H1 s1 => ?_⟩
    refine ⟨_, rfl, a, ss, rfl, (ha.same s1).at_, sok, fun H2 s2 => ?_⟩
    have s3 := Same.trans s1 s2
    refine ⟨_, rfl, t, _, rfl, .inl (.inl (s3 _ _ ht)), for_it (walk_enumT (K := K) (a := t) (xs := tv)) (fun i σ H' => Same H H' ∧ ∃ y4 y5, σ = [some (.ref x), some (.str z), some (.ref a), some (.ref t), y4, y5, none, none]) ⟨s3, none, none, rfl⟩ (fun i σ H' _ h => .inl (.inl (h.1 _ _ ht))) ?_ ?_⟩
    · rintro i y σ H4 _ hi ⟨s4, y4, y5, rfl⟩ ⟨TT, x1, x2, rfl, hT, rfl, e1, e2⟩
      have s5 := sNew (o := .tup [x1, x2]) s4 hT
      obtain ⟨p, hp, pt⟩ := (hts.same s5).get e2
      refine ⟨TT, _, rfl, .inl (.inl upd_same), rfl, _, _, rfl, _, _, rfl, rfl, ?_⟩
      exact ⟨_, rfl, _, rfl, _, a, p, ss, rfl, pt, (ha.same s5).at_, sok.2.1, tok p (List.mem_of_getElem? hp), fun H6 s6 => ⟨true, rfl, Same.trans s5 s6, _, _, rfl⟩⟩
    rintro σ H4 ⟨s4, y4, y5, rfl⟩
    refine ⟨_, rfl, _, rfl, x, C, dx, [], rfl, s4 _ _ hx, N.cl, N.nN, (by show 0 < 1000; decide), ?_⟩
    have x5 : SameX x H (upd H4 x (.ins C dx [(fN, .str z)])) := SameX.put (SameX.of s4)
    have hx5 : upd H4 x (.ins C dx [(fN, .str z)]) x = some (.ins C dx [(fN, .str z)]) := upd_same
    show tSeq _ _ _ _ (upd H4 x (.ins C dx [(fN, .str z)]))
    generalize upd H4 x (.ins C dx [(fN, .str z)]) = H5 at x5 hx5
    refine ⟨a, ss, rfl, ha.x x5 nxa, fun H6 sa s6 hsa => ?_⟩
    refine ⟨_, rfl, x, C, dx, _, rfl, s6 _ _ hx5, N.cl, N.nS, (by show 1 < 1000; decide), ?_⟩
    have nsa : sa ≠ x := ne_of hsa (s6 _ _ hx5) (fun z => by cases z)
    have x7 : SameX x H (upd H6 x (.ins C dx [(fN, .str z), (fS, .ref sa)])) := SameX.put (x5.same s6)
    have hx7 : upd H6 x (.ins C dx [(fN, .str z), (fS, .ref sa)]) x = some (.ins C dx [(fN, .str z), (fS, .ref sa)]) := upd_same
    have hsa7 : upd H6 x (.ins C dx [(fN, .str z), (fS, .ref sa)]) sa = some (.tup (ss.map V.str)) := by rw [upd_ne nsa]; exact hsa
    show tSeq _ _ _ _ (upd H6 x (.ins C dx [(fN, .str z), (fS, .ref sa)]))
    generalize upd H6 x (.ins C dx [(fN, .str z), (fS, .ref sa)]) = H7 at x7 hx7 hsa7
    have len : (((ss.map V.str).length : Nat) : Int) = ((ss.length : Nat) : Int) := by rw [List.length_map]
    have ht7 : H7 t = some (.tup tv) := x7 _ _ nxt ht
    have ha7 := ha.x x7 nxa
    refine ⟨_, rfl, _, rfl, a, _, rfl, ha7.at_, _, rfl, z, ss.length, t, tv, T, congrArg (fun i : Int => [V.str z, V.int i, V.ref t]) len, zok, sok.2.1, .inl (.inl ht7), ?_, are_of tok, few, fun no => ?_, fun H8 d L s8 hd hd8 lists nd lfew => ?_⟩
    · exact hts.x x7 hx
    · intro H' d s' hd e
      have ndx : d ≠ x := fun e' => by rw [e', hx7] at hd; cases hd
      exact xv no H' d (x7.same s') (x7.free ndx hd) e
    have x8 := x7.same s8
    have hx8 := s8 _ _ hx7
    have hsa8 := s8 _ _ hsa7
    refine ⟨d, .dT (kvsOf L), hd8, True.intro, fun ofz => ⟨_, rfl, d, ofz, rfl, .inr ⟨kvsOf L, upd_same, fun E1 hE1 => ?_⟩⟩⟩
    have fz : upd H8 d (.frz ofz (.dT (kvsOf L))) d = some (.frz ofz (.dT (kvsOf L))) := upd_same
    have back : ∀ G, Same (upd H8 d (.frz ofz (.dT (kvsOf L)))) G → Same H8 (upd G d (.dT (kvsOf L))) := fun G s => sUnlock s hd8
    generalize upd H8 d (.frz ofz (.dT (kvsOf L))) = G0 at fz back hE1
    refine lc_it (walk_keysT (d := d) (o := ofz) (kvs := kvsOf L)) (fun i G => Same G0 G ∧ ∃ vs, G E1 = some (.lst vs) ∧ TurnsS G vs (L.take i)) ⟨sNew (Same.refl G0) hE1, [], upd_same, .nil⟩ (fun i G _ h => h.1 _ _ fz) ?_ ?_
    · rintro i v _ G hi ⟨sG, vs, hvs, tvs⟩ ⟨rfl, k, y, u, hk, rfl, hu'⟩
      obtain ⟨p, hp, e⟩ : ∃ p, L[i]? = some p ∧ (keyOf p.1, V.int p.2) = (k, y) := by
        have z := hk
        unfold kvsOf at z
        rw [List.getElem?_map] at z
        cases hq : L[i]? with
        | none => rw [hq] at z; cases z
        | some p => rw [hq] at z; exact ⟨p, rfl, Option.some.inj z⟩
      obtain ⟨rfl, rfl⟩ := Prod.mk.inj e
      have pm := List.mem_of_getElem? hp
      have get : DGet G d (.ref u) (some (.int p.2)) := .inr ⟨kvsOf L, keyOf p.1, u, .inr ⟨ofz, sG _ _ fz⟩, rfl, hu', (kvs_some nd (by exact pm)).symm⟩
      refine ⟨rfl, _, rfl, _, rfl, _, rfl, d, _, rfl, get, (by show 2 ≤ sizeLine; decide), fun TT hTT => ?_⟩
      have sT := sNew (o := .tup [.ref u, .int p.2]) (Same.refl G) hTT
      have tl : (L.take i).length = vs.length := (EachIs.length tvs).symm
      have vfew : vs.length ≤ 24 := by
        rw [← tl, List.length_take]
        omega
      have eE : upd G TT (.tup [.ref u, .int p.2]) E1 = some (.lst vs) := sT _ _ hvs
      have made : TurnS (upd G TT (.tup [.ref u, .int p.2])) (.ref TT) p := ⟨TT, u, rfl, upd_same, by
        have z := sT _ _ hu'
        rwa [keyOf_kV] at z⟩
      refine ⟨vs, eE, lt_line (by omega), sPut (Same.trans sG sT) hE1, vs ++ [V.ref TT], upd_same, ?_⟩
      rw [List.take_add_one, hp]
      exact each_snoc ((TurnsS.same sT tvs).mono fun _ _ h => h.put eE) (made.put eE)
    · rintro G ⟨sG, vs, hvs, tvs⟩
      have all : L.take (kvsOf L).length = L := by
        unfold kvsOf
        rw [List.length_map, List.take_length]
      rw [all] at tvs
      have sU := back G sG
      refine ⟨sG _ _ fz, E1, V × Turn, Prod.fst, fun b => turnD b.2, vs.zip L, rfl, ?_, ?_, ?_, ?_, ?_, fun ga hga => ?_⟩
      · rw [List.map_fst_zip (Nat.le_of_eq (EachIs.length tvs))]
        refine SqL.of ?_
        rw [upd_ne (ne_of hvs (sG _ _ fz) (fun z => by cases z))]
        exact hvs
      · intro b m
        exact ((each_mem tvs m).thaw (sG _ _ fz)).dp
      · exact fun b _ => deep_turn b.2
      · exact PySem.W.AllAlike.of fun b b' => alike_turn b.2 b'.2
      · exact PySem.W.Sortable.tuples fun b => ⟨ordD b.2.1, [.int b.2.2], rfl⟩
      · have tU : ∀ b ∈ vs.zip L, TurnS (upd G d (.dT (kvsOf L))) b.1 b.2 := fun b m => (each_mem tvs m).thaw (sG _ _ fz)
        have xU := x8.same sU
        have hxU := sU _ _ hx8
        have hsaU := sU _ _ hsa8
        generalize upd G d (.dT (kvsOf L)) = G1 at tU xU hxU hsaU hga
        have srt := sorted_turns (fun b : V × Turn => b.2) (vs.zip L)
        have pm : ((vs.zip L).mergeSort (PySem.W.dataLe false fun b : V × Turn => turnD b.2)).Perm (vs.zip L) := List.mergeSort_perm _ _
        generalize (vs.zip L).mergeSort (PySem.W.dataLe false fun b : V × Turn => turnD b.2) = out at srt pm hga ⊢
        have sg := sNew (o := .lst (out.map Prod.fst)) (Same.refl G1) hga
        have pL : (out.map Prod.snd).Perm L := by
          have z := pm.map Prod.snd
          rwa [List.map_snd_zip (Nat.le_of_eq (EachIs.length tvs).symm)] at z
        have nga : ga ≠ x := fun e => by rw [e, hxU] at hga; cases hga
        have xg := xU.same sg
        have hxg := sg _ _ hxU
        have hsag := sg _ _ hsaU
        have grp : GroupAt (upd G1 ga (.lst (out.map Prod.fst))) ga (out.map Prod.snd) := ⟨_, upd_same, by
          have z : ∀ b ∈ out, TurnS (upd G1 ga (.lst (out.map Prod.fst))) b.1 b.2 := fun b m => (tU b (pm.mem_iff.mp m)).same sg
          exact EachIs.of z⟩
        generalize upd G1 ga (.lst (out.map Prod.fst)) = G2 at xg hxg hsag grp
        refine ⟨_, rfl, x, C, dx, _, rfl, hxg, N.cl, N.nT, (by show 2 < 1000; decide), ?_⟩
        obtain ⟨gv, g1, g2⟩ := grp
        have ngx : ga ≠ x := ne_of g1 hxg (fun z => by cases z)
        refine q _ sa ga (out.map Prod.snd) (SameX.put xg) upd_same (by rw [upd_ne (ne_of hsag hxg (fun z => by cases z))]; exact hsag) ⟨gv, by rw [upd_ne ngx]; exact g1, ?_⟩ ⟨srt, fun p => pL.mem_iff.trans (lists p), (pL.map Prod.fst).nodup_iff.mpr nd⟩
        exact g2.mono fun v p ⟨t', u', e1, e2, e3⟩ => ⟨t', u', e1, by rw [upd_ne (ne_of e2 hxg (fun z => by cases z))]; exact e2, by rw [upd_ne (ne_of e3 hxg (fun z => by cases z))]; exact e3⟩
end
end S11

namespace S11
open PySem L2 GM
open PySem.W (EachIs)
/-- a method of Table -/
structure Mt (P : Program) (w : World) (K : PySem.W.Frag) (mg : Str → Option Value) (base : Heap) (C : Addr) (m : Str) (ps : List Str) (k : Nat) (sp : Sp) : Prop where
  ex : ∃ f fd, Meth K C m f ∧ Binds K fd ps [] ∧ FnOk P w K mg base CX0 k f fd ps sp
theorem fld_none {z sa ga : V} {m : Str} (h1 : m ≠ fN) (h2 : m ≠ fS) (h3 : m ≠ fT) : ([(fN, z), (fS, sa), (fT, ga)] : List (Str × V)).lookup m = none := by
  simp only [List.lookup]
  rw [show (m == fN) = false from beq_eq_false_iff_ne.mpr h1, show (m == fS) = false from beq_eq_false_iff_ne.mpr h2, show (m == fT) = false from beq_eq_false_iff_ne.mpr h3]
section
variable {P : Program} {w : World} {K : PySem.W.Frag} {mg : Str → Option Value} {base : Heap}
/-! ### slots, turns -/
def spTSlots (C : Addr) : Sp := fun vs H Q _ => ∃ (p : Addr) (z : Str) (ss : List Str) (L : List Turn), vs = [.ref p] ∧ TabAt C H p z ss L ∧ ∀ sa, H sa = some (.tup (ss.map V.str)) → Q (.ref sa) H
theorem scTSlots : FnScope ["self"] ["self"] (defScope sTSlots) := ⟨rfl, rfl, rfl, by decide +kernel, rfl, by decide +kernel, by decide +kernel⟩
theorem ok_tslots {f C : Addr} {fd : FuncData} (F : Fun K "slots" "Table.slots" sTSlots f fd) (N : Tc K mg C) : FnOk P w K mg base CX0 1 f fd ["self"] (spTSlots C) := by
  refine F.ok scTSlots (fun vs H Q E h => ?_) (fun cdv A outer s H vs Q E hr h => ?_)
  · obtain ⟨p, z, ss, L, rfl, _⟩ := h
    rfl
  · obtain ⟨p, z, ss, L, rfl, ⟨dx, sa, ga, h1, h2, h3⟩, q⟩ := h
    refine ⟨_, pss_one (ps_ret (pe_fld (pv 0) rfl)), ?_⟩
    exact ⟨_, rfl, p, C, dx, _, _, rfl, h1, N.cl, N.nS, rfl, q sa h2⟩
def spTTurns (C : Addr) : Sp := fun vs H Q _ => ∃ (p : Addr) (z : Str) (ss : List Str) (L : List Turn), vs = [.ref p] ∧ TabAt C H p z ss L ∧ ∀ H' l, Same H H' → H l = none → GroupAt H' l L → Q (.ref l) H'
theorem scTTurns : FnScope ["self"] ["self"] (defScope sTTurns) := ⟨rfl, rfl, rfl, by decide +kernel, rfl, by decide +kernel, by decide +kernel⟩
theorem ok_tturns {f C : Addr} {fd : FuncData} (F : Fun K "turns" "Table.turns" sTTurns f fd) (B : Bn mg) (N : Tc K mg C) : FnOk P w K mg base CX0 1 f fd ["self"] (spTTurns C) := by
  refine F.ok scTTurns (fun vs H Q E h => ?_) (fun cdv A outer s H vs Q E hr h => ?_)
  · obtain ⟨p, z, ss, L, rfl, _⟩ := h
    rfl
  · obtain ⟨p, z, ss, L, rfl, ⟨dx, sa, ga, h1, h2, gv, h3, h4⟩, q⟩ := h
    refine ⟨_, pss_one (ps_ret (pe_callTy call_list_of (by rfl) B.list (by decide +kernel) (pa_cons (pe_fld (pv 0) rfl) pa_nil))), ?_⟩
    refine ⟨_, rfl, p, C, dx, _, _, rfl, h1, N.cl, N.nT, rfl, ga, _, rfl, .inl (SqL.of h3), fun l hl => ?_⟩
    have s1 := sNew (o := .lst gv) (Same.refl H) hl
    exact q _ l s1 hl ⟨gv, upd_same, TurnsS.same s1 h4⟩
/-! ### changes_sign -/
def spTSign (C : Addr) : Sp := fun vs H Q _ => ∃ (p : Addr) (z : Str) (ss : List Str) (L : List Turn), vs = [.ref p] ∧ TabAt C H p z ss L ∧ L.length ≤ 100 ∧ ∀ H', Same H H' → Q (.bl (L.any fun t => decide (t.2 < 0))) H'
abbrev nTSign : List Str := ["self", "order", "sign"]
theorem scTSign : FnScope nTSign ["self"] (defScope sTSign) := ⟨rfl, rfl, rfl, by decide +kernel, rfl, by decide +kernel, by decide +kernel⟩
theorem ok_tsign {f C : Addr} {fd : FuncData} (F : Fun K "changes_sign" "Table.changes_sign" sTSign f fd) (B : Bn mg) (N : Tc K mg C) : FnOk P w K mg base CX0 1 f fd ["self"] (spTSign C) := by
  refine F.ok scTSign (fun vs H Q E h => ?_) (fun cdv A outer s H vs Q E hr h => ?_)
  · obtain ⟨p, z, ss, L, rfl, _⟩ := h
    rfl
  · obtain ⟨p, z, ss, L, rfl, ⟨dx, sa, ga, h1, h2, gv, h3, h4⟩, few, q⟩ := h
    refine ⟨_, pss_one (ps_ret (pe_callB (cr_any rfl) (by rfl) B.any (by decide +kernel) (pa_cons (pe_lc (own := [("order", 1), ("sign", 2)]) (g := gTup K 2 (gCons (gName 1) (gCons (gName 2) gNil))) (tt := tYes) (te := tOp (rI0 fun i j => .bl (decide (i < j))) (tVar 2) (tC (.int 0))) (by rfl) scTSign.nd (pi_list (pe_fld (pv 0) rfl))
      (blkOk_by (own := [("order", 1), ("sign", 2)]) (N := nTSign) (sc := defScope sTSign) (by decide +kernel))
      (fun _ _ _ _ _ => pg_tup rfl (pgs_cons (pg_name (i := 1) scTSign.nd rfl (Or.inl rfl)) (pgs_cons (pg_name (i := 2) scTSign.nd rfl (Or.inl rfl)) pgs_nil))) (fun _ _ _ _ _ => pts_nil) (fun _ _ _ _ _ => pe_cmpR op_lt (pv 2) pe_int (nomark _))) pa_nil))), ?_⟩
    refine ⟨_, rfl, p, C, dx, _, _, rfl, h1, N.cl, N.nT, rfl, ga, rfl, ⟨_, SqL.of h3⟩, fun D hD => ?_⟩
    have len : gv.length = L.length := EachIs.length h4
    refine lc_new (walk_list (K := K) (a := ga) (xs := gv)) (fun i => (L.map fun t => V.bl (decide (t.2 < 0)))[i]?) (by rw [len]; exact lt_line (by omega)) hD (fun H1 s1 => SqL.of (s1 _ _ h3)) ?_ ?_
    · rintro i v H1 _ hi s1 ⟨rfl, hv⟩ Kt Kn kt kn
      obtain ⟨t, ht, T, u, rfl, e1, e2⟩ := each_get (TurnsS.same s1 h4) hv
      refine ⟨T, _, rfl, .inl (.inl e1), rfl, _, _, rfl, _, _, rfl, rfl, rfl, _, rfl, _, _, rfl, rfl, kt _ _ ?_ (Same.refl _)⟩
      show (L.map fun t => V.bl (decide (t.2 < 0)))[i]? = _
      rw [List.getElem?_map, ht] <;> rfl
    · intro H1 s1 at_
      have e : kept (fun i => (L.map fun t => V.bl (decide (t.2 < 0)))[i]?) gv.length = (L.map fun t => decide (t.2 < 0)).map V.bl := by
        have z := kept_all (ys := L.map fun t => V.bl (decide (t.2 < 0))) (f := fun i => (L.map fun t => V.bl (decide (t.2 < 0)))[i]?) fun _ => rfl
        rw [List.length_map, ← len] at z
        rw [z, List.map_map] <;> rfl
      rw [e] at at_
      refine ⟨D, _, rfl, SqL.of at_, ?_⟩
      have a : (L.map fun t => decide (t.2 < 0)).any id = L.any fun t => decide (t.2 < 0) := by rw [List.any_map]; rfl
      rw [a]
      exact q H1 s1
/-! ### is_slot_places, want_places -/
def spTIsPl (K : PySem.W.Frag) (C : Addr) : Sp := fun vs H Q _ => ∃ (p t : Addr) (z : Str) (ss : List Str) (L : List Turn) (ns : List Int), vs = [.ref p, .ref t] ∧ TabAt C H p z ss L ∧ SqT K H t (ns.map V.int) ∧ ns.length ≤ 100 ∧ (∀ i ∈ ns, 0 ≤ i) ∧
  ∀ H', Same H H' → Q (.bl (decide (ns.length = ss.length))) H'
abbrev nTIsPl : List Str := ["self", "value", "place"]
theorem scTIsPl : FnScope nTIsPl ["self", "value"] (defScope sTIsPl) := ⟨rfl, rfl, rfl, by decide +kernel, rfl, by decide +kernel, by decide +kernel⟩
theorem ok_tispl {f C : Addr} {fd : FuncData} (F : Fun K "is_slot_places" "Table.is_slot_places" sTIsPl f fd) (B : Bn mg) (N : Tc K mg C) (DC : Df P w K mg base "is_count" ["value"] 2 spIsCount) : FnOk P w K mg base CX0 3 f fd ["self", "value"] (spTIsPl K C) := by
  refine F.ok scTIsPl (fun vs H Q E h => ?_) (fun cdv A outer s H vs Q E hr h => ?_)
  · obtain ⟨p, t, z, ss, L, ns, rfl, _⟩ := h
    rfl
  · obtain ⟨p, t, z, ss, L, ns, rfl, ⟨dx, sa, ga, h1, h2, h3⟩, ht, few, pos, q⟩ := h
    refine ⟨_, pss_cons (ps_if (PW.pt (pw_or (pt_not (pt_val (pe_callB call_isi (by rfl) B.isi (by decide +kernel) (pa_cons (pv 1) (pa_cons (pe_bltn (v := .ty "tuple") (by rfl) B.tuple (by decide +kernel) rfl) pa_nil)))))
        (pw_or1 (pt_cmpR op_ne (pe_callB call_len_seq (by rfl) B.len PySem.boot_len (pa_cons (pv 1) pa_nil)) (pe_callB call_len_seq (by rfl) B.len PySem.boot_len (pa_cons (pe_fld (pv 0) rfl) pa_nil)) (nomark _))))) (pss_one (ps_ret pe_bl)) pss_nil)
      (pss_one (ps_ret (pe_callB (cr_all rfl) (by rfl) B.all (by decide +kernel) (pa_cons (pe_lc (own := [("place", 2)]) (g := gName 2) (tt := tYes) (te := tCall spIsCount [] E0 (tCons (tVar 2) tNil)) (by rfl) scTIsPl.nd (pi_tup (pv 1)) (blkOk_by (own := [("place", 2)]) (N := nTIsPl) (sc := defScope sTIsPl) (by decide +kernel))
        (fun _ _ _ _ _ => pg_name (i := 2) scTIsPl.nd rfl (Or.inl rfl)) (fun _ _ _ _ _ => pts_nil) (fun _ _ _ _ _ => pe_df DC hr (by rfl) (pa_cons (pv 2) pa_nil))) pa_nil)))), ?_⟩
    refine ⟨_, rfl, _, _, _, _, true, rfl, .ty "tuple", tyX_tup ht, kit_ty (by decide +kernel), true, rfl, ?_⟩
    refine iteF ⟨_, rfl, t, _, rfl, .inr ht, _, rfl, p, C, dx, _, _, rfl, h1, N.cl, N.nS, rfl, sa, _, rfl, .inr (.inl (.inl h2)), rfl, _, rfl, ?_⟩
    by_cases e : ns.length = ss.length
    · have no : (!decide (V.int (((ns.map V.int).length : Nat) : Int) = V.int (((ss.map V.str).length : Nat) : Int))) = false := by
        rw [List.length_map, List.length_map, e, decide_eq_true rfl] <;> rfl
      rw [no]
      refine iteF ⟨_, rfl, t, rfl, ⟨_, ht⟩, fun D hD => ?_⟩
      refine lc_new (walk_tup (K := K) (a := t) (xs := ns.map V.int)) (fun i => if i < ns.length then some (.bl true) else none) (by rw [List.length_map]; exact lt_line (by omega)) hD (fun H1 s1 => sTup s1 ht) ?_ ?_
      · rintro i x H1 _ hi s1 ⟨rfl, hx⟩ Kt Kn kt kn
        obtain ⟨j, hj, rfl⟩ := map_get hx
        rw [List.length_map] at hi
        exact ⟨rfl, _, rfl, j, rfl, pos j (List.mem_of_getElem? hj), kt _ _ (if_pos hi) (Same.refl _)⟩
      · intro H1 s1 at_
        rw [List.length_map, kept_const, ← List.map_replicate] at at_
        refine ⟨D, _, rfl, SqL.of at_, ?_⟩
        rw [List.all_replicate_of]
        have z := q H1 s1
        rwa [decide_eq_true e] at z
    · have yes : (!decide (V.int (((ns.map V.int).length : Nat) : Int) = V.int (((ss.map V.str).length : Nat) : Int))) = true := by
        rw [List.length_map, List.length_map, decide_eq_false (fun z => e (by have := V.int.inj z; omega))] <;> rfl
      rw [yes]
      refine iteT ?_
      have z := q H (Same.refl H)
      rwa [decide_eq_false e] at z
def spTWant (K : PySem.W.Frag) (C : Addr) : Sp := fun vs H Q _ => ∃ (p t : Addr) (z : Str) (ss : List Str) (L : List Turn) (ns : List Int), vs = [.ref p, .ref t] ∧ TabAt C H p z ss L ∧ SqT K H t (ns.map V.int) ∧ ns.length = ss.length ∧ ss.length ≤ 100 ∧ (∀ i ∈ ns, 0 ≤ i) ∧ ∀ H', Same H H' → Q .non H'
theorem scTWant : FnScope ["self", "places"] ["self", "places"] (defScope sTWant) := ⟨rfl, rfl, rfl, by decide +kernel, rfl, by decide +kernel, by decide +kernel⟩
theorem ok_twant {f C : Addr} {fd : FuncData} (F : Fun K "want_places" "Table.want_places" sTWant f fd) (N : Tc K mg C) (DP : Mt P w K mg base C "is_slot_places" ["self", "value"] 3 (spTIsPl K C)) : FnOk P w K mg base CX0 4 f fd ["self", "places"] (spTWant K C) := by
  obtain ⟨fm, fdm, hm, hb, G⟩ := DP.ex
  refine F.ok scTWant (fun vs H Q E h => ?_) (fun cdv A outer s H vs Q E hr h => ?_)
  · obtain ⟨p, t, z, ss, L, ns, rfl, _⟩ := h
    rfl
  · obtain ⟨p, t, z, ss, L, ns, rfl, tab, ht, e, few, pos, q⟩ := h
    obtain ⟨dx, sa, ga, h1, h2, h3⟩ := id tab
    refine ⟨_, pss_one (ps_if (pt_not (pt_val (pe_meth (pv 0) N.cl hm G hr hb .nil pass0 (pa_cons (pv 1) pa_nil)))) (pss_one ps_never) pss_nil), ?_⟩
    refine ⟨_, rfl, p, dx, _, rfl, h1, fld_none (by decide) (by decide) (by decide), _, rfl, p, t, z, ss, L, ns, rfl, tab, ht, by omega, pos, fun H1 s1 => ?_⟩
    rw [decide_eq_true e]
    exact ⟨true, rfl, q H1 s1⟩
end
end S11

/-! places: classes, least ones -/
namespace GM
/-- above all places -/
def bnd (ns : List Int) : Int := ns.foldr max 0 + 1
theorem le_bnd : ∀ {ns : List Int} {i : Int}, i ∈ ns → i < bnd ns
  | n :: ns, i, h => by
    have e : bnd (n :: ns) = max n (ns.foldr max 0) + 1 := rfl
    rcases List.mem_cons.mp h with rfl | h
    · omega
    · have := le_bnd h
      have e2 : bnd ns = ns.foldr max 0 + 1 := rfl
      omega
theorem bnd_pos (ns : List Int) : 0 < bnd ns := by
  have : ∀ l : List Int, 0 ≤ l.foldr max 0 := by
    intro l
    induction l with
    | nil => exact Int.le_refl _
    | cons a l ih =>
      show 0 ≤ max a (l.foldr max 0)
      omega
  have := this ns
  unfold bnd
  omega
theorem bd_mv {ns o : List Int} (h : ∀ i ∈ ns, 0 ≤ i) : TS.Bd (bnd ns) (mv ns o) := by
  intro m hm
  unfold mv at hm
  obtain ⟨i, _, rfl⟩ := List.mem_map.mp hm
  rw [List.getD_eq_getElem?_getD]
  cases e : ns[i.toNat]? with
  | none => exact ⟨Int.le_refl _, bnd_pos ns⟩
  | some x =>
    have z := List.mem_of_getElem? e
    exact ⟨h x z, le_bnd z⟩
theorem code_inj {B : Int} : ∀ {a b : List Int}, a.length = b.length → TS.Bd B a → TS.Bd B b → TS.code B a = TS.code B b → a = b
  | [], [], _, _, _, _ => rfl
  | x :: a, y :: b, l, ha, hb, h => by
    have l' : a.length = b.length := by simpa using l
    rcases Int.lt_trichotomy x y with z | z | z
    · have := TS.code_lt l' ha.tail hb.tail z
      omega
    · subst z
      have e : TS.code B a = TS.code B b := by
        have : x * B ^ a.length + TS.code B a = x * B ^ b.length + TS.code B b := h
        rw [l'] at this
        omega
      rw [code_inj l' ha.tail hb.tail e]
    · have := TS.code_lt l'.symm hb.tail ha.tail z
      omega
/-- the class of places, in order -/
structure Cls (ns : List Int) (L : List Turn) (D : List (List Int)) : Prop where
  nd : D.Nodup
  mem : ∀ x, x ∈ D ↔ ∃ t ∈ L, x = mv ns t.1
  srt : D.Pairwise fun a b => TS.code (bnd ns) a ≤ TS.code (bnd ns) b
theorem Cls.one {ns : List Int} {L : List Turn} {D E : List (List Int)} {d : Nat} (pos : ∀ i ∈ ns, 0 ≤ i) (len : ∀ t ∈ L, t.1.length = d) (a : Cls ns L D) (b : Cls ns L E) : D = E := by
  have p : D.Perm E := (List.perm_ext_iff_of_nodup a.nd b.nd).mpr fun x => (a.mem x).trans (b.mem x).symm
  refine p.eq_of_pairwise (fun x y hx hy h1 h2 => ?_) a.srt b.srt
  obtain ⟨t, ht, rfl⟩ := (a.mem x).mp hx
  obtain ⟨u, hu, rfl⟩ := (b.mem y).mp hy
  have l : (mv ns t.1).length = (mv ns u.1).length := by unfold mv; rw [List.length_map, List.length_map, len t ht, len u hu]
  exact code_inj l (bd_mv pos) (bd_mv pos) (Int.le_antisymm h1 h2)
/-- the turned places with their signs -/
def mates (ns : List Int) (L : List Turn) : List Turn := L.map fun t => (mv ns t.1, t.2)
/-- least places among M, and the sign of theirs -/
structure LeastIs (M : List Turn) (lo : List Int) (g : Int) : Prop where
  mem : ∃ m ∈ M, m.1 = lo
  low : ∀ m ∈ M, ¬ m.1 < lo
  sign : (∀ m ∈ M, m.1 = lo → m.2 = g) ∨ (g = 0 ∧ ∃ m m', m ∈ M ∧ m' ∈ M ∧ m.1 = lo ∧ m'.1 = lo ∧ m.2 ≠ m'.2)
theorem LeastIs.one {M : List Turn} {lo lo' : List Int} {g g' : Int} (a : LeastIs M lo g) (b : LeastIs M lo' g') : lo = lo' ∧ g = g' := by
  obtain ⟨m, hm, rfl⟩ := a.mem
  obtain ⟨n, hn, rfl⟩ := b.mem
  have e : m.1 = n.1 := List.le_antisymm (fun z => a.low n hn z) (fun z => b.low m hm z)
  refine ⟨e, ?_⟩
  rcases a.sign with s | ⟨g0, x, y, hx, hy, ex, ey, ne⟩
  · rcases b.sign with s' | ⟨_, x, y, hx, hy, ex, ey, ne⟩
    · rw [← s m hm rfl, s' m hm e]
    · exact absurd ((s x hx (ex.trans e.symm)).trans (s y hy (ey.trans e.symm)).symm) ne
  · rcases b.sign with s' | ⟨g1, _⟩
    · exact absurd ((s' x hx (ex.trans e)).trans (s' y hy (ey.trans e)).symm) ne
    · rw [g0, g1]
/-- the signs of the first ones -/
def signsAt (lo : List Int) (Ms : List Turn) : List Int := (Ms.filter fun m => decide (m.1 = lo)).map Prod.snd
theorem mem_signsAt {lo : List Int} {Ms : List Turn} {s : Int} : s ∈ signsAt lo Ms ↔ ∃ m ∈ Ms, m.1 = lo ∧ m.2 = s := by
  unfold signsAt
  rw [List.mem_map]
  constructor
  · rintro ⟨m, h, rfl⟩
    obtain ⟨h1, h2⟩ := List.mem_filter.mp h
    exact ⟨m, h1, of_decide_eq_true h2, rfl⟩
  · rintro ⟨m, h, e, rfl⟩
    exact ⟨m, List.mem_filter.mpr ⟨h, decide_eq_true e⟩, rfl⟩
theorem signs_up {lo : List Int} {Ms : List Turn} (h : Srt Ms) : (signsAt lo Ms).Pairwise (· ≤ ·) := by
  unfold signsAt
  rw [List.pairwise_map]
  refine List.Pairwise.imp_of_mem (fun {p q} hp hq z => ?_) (List.Pairwise.sublist List.filter_sublist h)
  have e1 : p.1 = lo := of_decide_eq_true (List.mem_filter.mp hp).2
  have e2 : q.1 = lo := of_decide_eq_true (List.mem_filter.mp hq).2
  have z' : ¬ tlt q p := z
  unfold tlt at z'
  rw [not_or] at z'
  have : ¬ q.2 < p.2 := fun y => z'.2 ⟨e2.trans e1.symm, y⟩
  omega
/-- what least tells: the head of the sorted mates, and the first and last sign -/
theorem least_of {M Ms : List Turn} {m0 : Turn} {s0 s1 : Int} (h : Srt Ms) (p : Ms.Perm M) (hd : Ms[0]? = some m0) (h0 : (signsAt m0.1 Ms)[0]? = some s0) (h1 : (signsAt m0.1 Ms)[(signsAt m0.1 Ms).length - 1]? = some s1) :
    LeastIs M m0.1 (if s0 = s1 then s0 else 0) := by
  obtain ⟨rest, rfl⟩ : ∃ rest, Ms = m0 :: rest := by
    cases Ms with
    | nil => cases hd
    | cons a r => exact ⟨r, by rw [Option.some.inj hd]⟩
  have hp := List.pairwise_cons.mp h
  refine ⟨⟨m0, p.mem_iff.mp List.mem_cons_self, rfl⟩, fun m hm z => ?_, ?_⟩
  · rcases List.mem_cons.mp (p.mem_iff.mpr hm) with rfl | hm
    · exact List.lt_irrefl _ z
    · exact hp.1 m hm (.inl z)
  · have up := signs_up (lo := m0.1) h
    by_cases e : s0 = s1
    · rw [if_pos e]
      refine .inl fun m hm em => ?_
      have hs : m.2 ∈ signsAt m0.1 (m0 :: rest) := mem_signsAt.mpr ⟨m, p.mem_iff.mpr hm, em, rfl⟩
      obtain ⟨i, hi, ei⟩ := List.getElem_of_mem hs
      have b0 : s0 ≤ m.2 := by
        rcases Nat.eq_zero_or_pos i with z | z
        · subst z
          rw [List.getElem?_eq_getElem hi] at h0
          have := Option.some.inj h0
          omega
        · obtain ⟨z0, e0⟩ := List.getElem?_eq_some_iff.mp h0
          have := List.pairwise_iff_getElem.mp up 0 i z0 hi z
          omega
      have b1 : m.2 ≤ s1 := by
        obtain ⟨z1, e1⟩ := List.getElem?_eq_some_iff.mp h1
        rcases Nat.lt_or_ge i ((signsAt m0.1 (m0 :: rest)).length - 1) with z | z
        · have := List.pairwise_iff_getElem.mp up i _ hi z1 z
          omega
        · have : i = (signsAt m0.1 (m0 :: rest)).length - 1 := by omega
          subst this
          omega
      omega
    · rw [if_neg e]
      obtain ⟨a, ha, ea, ea2⟩ := mem_signsAt.mp (List.mem_of_getElem? h0)
      obtain ⟨b, hb, eb, eb2⟩ := mem_signsAt.mp (List.mem_of_getElem? h1)
      exact .inr ⟨rfl, a, b, p.mem_iff.mp ha, p.mem_iff.mp hb, ea, eb, by rw [ea2, eb2]; exact e⟩
end GM

namespace S11
open PySem L2 GM
open PySem.W (EachIs)
/-- sorted, of a list of turns -/
theorem sort_turns {K : PySem.W.Frag} {G : Hp} {l : Addr} {vs : List V} {M : List Turn} {Q : VK} (h : G l = some (.lst vs)) (t : TurnsS G vs M) (q : ∀ (ga : Addr) (gv : List V) (Ms : List Turn), G ga = none → Srt Ms → Ms.Perm M → TurnsS (upd G ga (.lst gv)) gv Ms → Q (.ref ga) (upd G ga (.lst gv))) :
    rSortB K [.ref l] G Q := by
  refine ⟨l, V × Turn, Prod.fst, fun b => turnD b.2, vs.zip M, rfl, ?_, fun b m => (each_mem t m).dp, fun b _ => deep_turn b.2, PySem.W.AllAlike.of fun b b' => alike_turn b.2 b'.2, PySem.W.Sortable.tuples fun b => ⟨ordD b.2.1, [.int b.2.2], rfl⟩, fun ga hga => ?_⟩
  · rw [List.map_fst_zip (Nat.le_of_eq (EachIs.length t))]
    exact SqL.of h
  · have srt := sorted_turns (fun b : V × Turn => b.2) (vs.zip M)
    have pm : ((vs.zip M).mergeSort (PySem.W.dataLe false fun b : V × Turn => turnD b.2)).Perm (vs.zip M) := List.mergeSort_perm _ _
    generalize (vs.zip M).mergeSort (PySem.W.dataLe false fun b : V × Turn => turnD b.2) = out at srt pm ⊢
    have pL : (out.map Prod.snd).Perm M := by
      have z := pm.map Prod.snd
      rwa [List.map_snd_zip (Nat.le_of_eq (EachIs.length t).symm)] at z
    have sg := sNew (o := .lst (out.map Prod.fst)) (Same.refl G) hga
    have z : ∀ b ∈ out, TurnS (upd G ga (.lst (out.map Prod.fst))) b.1 b.2 := fun b m => (each_mem t (pm.mem_iff.mp m)).same sg
    exact q ga _ _ hga srt pL (EachIs.of z)
theorem kept_bind {α : Type} (xs : List α) (g : α → Option V) : kept (fun i => (xs[i]?).bind g) xs.length = xs.filterMap g := by
  unfold kept
  have e : ∀ n, n ≤ xs.length → (List.range n).filterMap (fun i => (xs[i]?).bind g) = (xs.take n).filterMap g := by
    intro n
    induction n with
    | zero => intro _; rfl
    | succ n ih =>
      intro h
      rw [List.range_succ, List.filterMap_append, ih (by omega), List.take_add_one, List.filterMap_append, List.getElem?_eq_getElem (by omega)]
      congr 1
      cases q : g xs[n] with
      | none => simp [List.filterMap_cons, List.getElem?_eq_getElem (show n < xs.length by omega), q]
      | some v => simp [List.filterMap_cons, List.getElem?_eq_getElem (show n < xs.length by omega), q]
  rw [e _ (Nat.le_refl _), List.take_length]
section
variable {P : Program} {w : World} {K : PySem.W.Frag} {mg : Str → Option Value} {base : Heap}
/-! ### least -/
def spTLeast (K : PySem.W.Frag) (C : Addr) : Sp := fun vs H Q _ => ∃ (p t : Addr) (z : Str) (ss : List Str) (L : List Turn) (ns : List Int), vs = [.ref p, .ref t] ∧ TabAt C H p z ss L ∧ SqT K H t (ns.map V.int) ∧ ns.length = ss.length ∧ ss.length ≤ 100 ∧ (∀ i ∈ ns, 0 ≤ i) ∧
  (∀ q ∈ L, q.1.Perm (idn ns.length)) ∧ L ≠ [] ∧ L.length ≤ 100 ∧ ∀ (H' : Hp) (r l : Addr) (lo : List Int) (g : Int), Same H H' → H' r = some (.tup [.int g, .ref l]) → H' l = some (.tup (lo.map V.int)) → LeastIs (mates ns L) lo g → Q (.ref r) H'
abbrev nTLeast : List Str := ["self", "places", "found", "order", "sign", "least", "signs", "other"]
theorem scTLeast : FnScope nTLeast ["self", "places"] (defScope sTLeast) := ⟨rfl, rfl, rfl, by decide +kernel, rfl, by decide +kernel, by decide +kernel⟩
theorem ok_tleast {f C : Addr} {fd : FuncData} (F : Fun K "least" "Table.least" sTLeast f fd) (B : Bn mg) (N : Tc K mg C) (DM : Df P w K mg base "moved" ["places", "order"] 1 (spMoved K)) (DW : Mt P w K mg base C "want_places" ["self", "places"] 4 (spTWant K C)) : FnOk P w K mg base CX0 5 f fd ["self", "places"] (spTLeast K C) := by
  obtain ⟨fm, fdm, hm, hb, G⟩ := DW.ex
  refine F.ok scTLeast (fun vs H Q E h => ?_) (fun cdv A outer s H vs Q E hr h => ?_)
  · obtain ⟨p, t, z, ss, L, ns, rfl, _⟩ := h
    rfl
  · obtain ⟨p, t, z, ss, L, ns, rfl, tab, ht, e, few, pos, perm, ne, lfew, q⟩ := h
    obtain ⟨dx, sa, ga, h1, h2, gv, h3, h4⟩ := id tab
    have hu := hr.units
    have h1' : Room 1 _ := hr.mono (by decide)
    have room : (A.deeper (PyProof.Rows.envOfC "Table.least" (defScope sTLeast) s.heap.objs.size f cdv)).units + 70 < cLine := by
      have := hr.un
      omega
    refine ⟨_, pss_cons (ps_expr (pe_meth (pv 0) N.cl hm G hr hb .nil pass0 (pa_cons (pv 1) pa_nil)))
      (pss_cons (ps_set (i := 2) scTLeast.nd rfl (Or.inl rfl) (pe_callB (cr_sortB room) (by rfl) B.sorted (by decide +kernel) (pa_cons (pe_lc (own := [("order", 3), ("sign", 4)]) (g := gTup K 2 (gCons (gName 3) (gCons (gName 4) gNil))) (tt := tYes) (te := tTup (tCons (tCall (spMoved K) [] E0 (tCons (tVar 1) (tCons (tVar 3) tNil))) (tCons (tVar 4) tNil))) (by rfl) scTLeast.nd (pi_list (pe_fld (pv 0) rfl))
        (blkOk_by (own := [("order", 3), ("sign", 4)]) (N := nTLeast) (sc := defScope sTLeast) (by decide +kernel))
        (fun _ _ _ _ _ => pg_tup rfl (pgs_cons (pg_name (i := 3) scTLeast.nd rfl (Or.inl rfl)) (pgs_cons (pg_name (i := 4) scTLeast.nd rfl (Or.inl rfl)) pgs_nil))) (fun _ _ _ _ _ => pts_nil)
        (fun _ _ _ _ _ => pe_tup (pa_cons (pe_df DM h1' (by rfl) (pa_cons (pv 1) (pa_cons (pv 3) pa_nil))) (pa_cons (pv 4) pa_nil)))) pa_nil)))
      (pss_cons (ps_set (i := 5) scTLeast.nd rfl (Or.inr rfl) (pe_ix ix_tup (pe_ix ix_list (pv 2) pe_int (fun _ _ => rfl)) pe_int (fun _ _ => rfl)))
      (pss_cons (ps_setLc (i := 6) (own := [("sign", 4), ("other", 7)]) (g := gTup K 2 (gCons (gName 7) (gCons (gName 4) gNil))) (tt := tTest (tOp (rEqD K) (tVar 7) (tVar 5))) (te := tVar 4) (by rfl) scTLeast.nd rfl rfl (sw_true rfl rfl rfl (by decide +kernel)) (pi_list (pv 2))
        (blkOk_by (own := [("sign", 4), ("other", 7)]) (N := nTLeast) (sc := defScope sTLeast) (by decide +kernel))
        (fun _ _ _ _ _ => pg_tup rfl (pgs_cons (pg_name (i := 7) scTLeast.nd rfl (Or.inl rfl)) (pgs_cons (pg_name (i := 4) scTLeast.nd rfl (Or.inl rfl)) pgs_nil))) (fun _ _ _ _ _ => pts_one (pt_cmpR (op_eqD hu) (pv 7) (pv 5) (nomark _))) (fun _ _ _ _ _ => pv 4))
      (pss_one (ps_ret (pe_tup (pa_cons (pe_ifExp (pt_cmpR op_eq (pe_ix ix_list (pv 6) pe_int (fun _ _ => rfl)) (pe_ix ix_list (pv 6) (pe_un un_neg pe_int) (fun _ _ => rfl)) (nomark _)) (pe_ix ix_list (pv 6) pe_int (fun _ _ => rfl)) pe_int) (pa_cons (pv 5) pa_nil)))))))), ?_⟩
    refine ⟨_, rfl, p, dx, _, rfl, h1, fld_none (by decide) (by decide) (by decide), _, rfl, p, t, z, ss, L, ns, rfl, tab, ht, e, few, pos, fun H1 s1 => ?_⟩
    refine ⟨_, rfl, p, C, dx, _, _, rfl, s1 _ _ h1, N.cl, N.nT, rfl, ga, rfl, ⟨_, SqL.of (s1 _ _ h3)⟩, fun D hD => ?_⟩
    have len : gv.length = L.length := EachIs.length h4
    refine lc_it (walk_list (K := K) (a := ga) (xs := gv)) (fun i G => Same H1 G ∧ ∃ vs, G D = some (.lst vs) ∧ TurnsS G vs ((mates ns L).take i)) ⟨sNew (Same.refl H1) hD, [], upd_same, .nil⟩ (fun i G _ h => SqL.of (h.1 _ _ (s1 _ _ h3))) ?_ ?_
    · rintro i v _ G hi ⟨sG, vs, hvs, tvs⟩ ⟨rfl, hv⟩
      have sHG := Same.trans s1 sG
      obtain ⟨q0, hq, T, u, rfl, e1, e2⟩ := each_get (TurnsS.same sHG h4) hv
      have perm0 := perm q0 (List.mem_of_getElem? hq)
      refine ⟨T, _, rfl, .inl (.inl e1), rfl, _, _, rfl, _, _, rfl, rfl, rfl, _, rfl, _, rfl, t, u, ns, q0.1, rfl, sTup sHG ht, .inl (.inl e2), idn_fits perm0, by rw [perm_len perm0]; omega, fun G2 pm s2 hpm em => ?_⟩
      refine ⟨_, rfl, (by show 2 ≤ sizeLine; decide), fun TT hTT => ?_⟩
      have sT := sNew (o := .tup [.ref pm, .int q0.2]) s2 hTT
      have eD : upd G2 TT (.tup [.ref pm, .int q0.2]) D = some (.lst vs) := sT _ _ hvs
      have made : TurnS (upd G2 TT (.tup [.ref pm, .int q0.2])) (.ref TT) (mv ns q0.1, q0.2) := ⟨TT, pm, rfl, upd_same, old em hTT⟩
      have vlen : vs.length ≤ 100 := by
        have := EachIs.length tvs
        rw [List.length_take] at this
        have l2 : (mates ns L).length = L.length := by unfold mates; rw [List.length_map]
        omega
      refine ⟨vs, eD, lt_line (by omega), sPut (Same.trans sG sT) hD, vs ++ [V.ref TT], upd_same, ?_⟩
      have hm : (mates ns L)[i]? = some (mv ns q0.1, q0.2) := by unfold mates; rw [List.getElem?_map, hq]; rfl
      rw [List.take_add_one, hm]
      exact each_snoc ((TurnsS.same sT tvs).mono fun _ _ h => h.put eD) (made.put eD)
    rintro G ⟨sG, vs, hvs, tvs⟩
    have ml : (mates ns L).length = gv.length := by unfold mates; rw [List.length_map, len]
    rw [← ml, List.take_length] at tvs
    dsimp only [tNil]
    refine sort_turns hvs tvs fun fa fv Ms hfa srt pms tfv => ?_
    have s2 : Same H (upd G fa (.lst fv)) := Same.trans s1 (sNew sG hfa)
    have hfa2 : upd G fa (.lst fv) fa = some (.lst fv) := upd_same
    generalize upd G fa (.lst fv) = G2 at s2 hfa2 tfv
    have flen : fv.length = Ms.length := EachIs.length tfv
    obtain ⟨m0, mr, rfl⟩ : ∃ m0 mr, Ms = m0 :: mr := by
      cases Ms with
      | nil =>
        have z := pms.length_eq
        rw [ml, len] at z
        exact absurd (List.length_eq_zero_iff.mp z.symm) ne
      | cons a b => exact ⟨a, b, rfl⟩
    obtain ⟨v0, vr, rfl⟩ : ∃ v0 vr, fv = v0 :: vr := by
      cases fv with
      | nil => cases flen
      | cons a b => exact ⟨a, b, rfl⟩
    obtain ⟨b0, hb0, T0, u0, e0, e1, e2⟩ := each_get tfv (i := 0) (a := v0) rfl
    obtain rfl : m0 = b0 := Option.some.inj hb0
    subst e0
    refine ⟨_, rfl, fa, _, _, V.ref T0, rfl, rfl, SqL.of hfa2, at_of (j := 0) rfl rfl, T0, _, _, V.ref u0, rfl, rfl, .inl (.inl e1), at_of (j := 0) rfl rfl, ?_⟩
    refine ⟨_, rfl, fa, rfl, ⟨_, SqL.of hfa2⟩, fun D2 hD2 => ?_⟩
    have mfew : (m0 :: mr).length ≤ 100 := by rw [pms.length_eq, ml, len]; exact lfew
    refine lc_new (walk_list (K := K) (a := fa) (xs := V.ref T0 :: vr)) (fun i => ((m0 :: mr)[i]?).bind fun m => if m.1 = m0.1 then some (V.int m.2) else none) (by rw [flen]; exact lt_line (by omega)) hD2 (fun G3 s3 => SqL.of (s3 _ _ hfa2)) ?_ ?_
    · rintro i v _ G3 hi s3 ⟨rfl, hv⟩ Kt Kn kt kn
      obtain ⟨m, hm, T, u, rfl, x1, x2⟩ := each_get (TurnsS.same s3 tfv) hv
      refine ⟨T, _, rfl, .inl (.inl x1), rfl, _, _, rfl, _, _, rfl, rfl, rfl, _, rfl, _, rfl, _, _, dp_ord (.inl (.inl x2)), dp_ord (.inl (.inl (s3 _ _ e2))), sh_intsT _, sh_intsT _, _, rfl, ?_⟩
      rw [eqv_ord]
      by_cases eq : m.1 = m0.1
      · rw [decide_eq_true eq]
        refine iteT ⟨_, rfl, kt _ _ ?_ (Same.refl _)⟩
        show ((m0 :: mr)[i]?).bind _ = _
        rw [hm]
        exact if_pos eq
      · rw [decide_eq_false eq]
        refine iteF (kn ?_ _ (Same.refl _))
        show ((m0 :: mr)[i]?).bind _ = _
        rw [hm]
        exact if_neg eq
    · intro G3 s3 at_
      rw [flen, kept_bind] at at_
      have fm : ((m0 :: mr).filterMap fun m => if m.1 = m0.1 then some (V.int m.2) else none) = (signsAt m0.1 (m0 :: mr)).map V.int := by
        unfold signsAt
        generalize m0 :: mr = X
        induction X with
        | nil => rfl
        | cons a X ih =>
          rw [List.filterMap_cons, List.filter_cons]
          by_cases eq : a.1 = m0.1
          · rw [if_pos eq, if_pos (decide_eq_true eq), List.map_cons, List.map_cons, ← ih]
          · rw [if_neg eq, if_neg (by simpa using eq), ih]
      rw [fm] at at_
      have in0 : m0.2 ∈ signsAt m0.1 (m0 :: mr) := mem_signsAt.mpr ⟨m0, List.mem_cons_self, rfl, rfl⟩
      have res := fun {s0 s1 : Int} => least_of (m0 := m0) (s0 := s0) (s1 := s1) srt pms rfl
      generalize signsAt m0.1 (m0 :: mr) = S at at_ in0 res
      obtain ⟨s0, sr, rfl⟩ : ∃ s0 sr, S = s0 :: sr := by
        cases S with
        | nil => cases in0
        | cons a b => exact ⟨a, b, rfl⟩
      obtain ⟨si, s1', es⟩ : ∃ si s1', s0 :: sr = si ++ [s1'] := ⟨_, _, (List.dropLast_concat_getLast (l := s0 :: sr) (by simp)).symm⟩
      have fin := res (s0 := s0) (s1 := s1') rfl (by rw [es]; simp)
      have first : atI ((s0 :: sr).map V.int) 0 = some (V.int s0) := at_of (j := 0) rfl rfl
      have last : atI ((s0 :: sr).map V.int) (-1) = some (V.int s1') := by
        rw [es, List.map_append]
        exact atI_last _ _
      refine ⟨_, rfl, D2, _, _, V.int s0, rfl, rfl, SqL.of at_, first, _, rfl, _, rfl, D2, _, _, V.int s1', rfl, rfl, SqL.of at_, last, rfl, _, rfl, ?_⟩
      have done : ∀ g : Int, LeastIs (mates ns L) m0.1 g → ∀ r, G3 r = none → Q (.ref r) (upd G3 r (.tup [.int g, .ref u0])) := fun g lg r hr' => q _ r u0 m0.1 g (Same.trans s2 (sNew s3 hr')) upd_same (old (s3 _ _ e2) hr') lg
      by_cases eq : s0 = s1'
      · rw [if_pos eq] at fin
        subst eq
        rw [decide_eq_true rfl]
        exact iteT ⟨_, rfl, D2, _, _, V.int s0, rfl, rfl, SqL.of at_, first, _, rfl, (by show 2 ≤ sizeLine; decide), done s0 fin⟩
      · rw [if_neg eq] at fin
        rw [decide_eq_false (fun y => eq (V.int.inj y))]
        exact iteF ⟨_, rfl, (by show 2 ≤ sizeLine; decide), done 0 fin⟩
end
end S11

namespace S11
open PySem L2 GM
open PySem.W (EachIs)
/-- sorted(set(..)) of turned places -/
theorem class_read {K : PySem.W.Frag} {P : Program} {w : World} {G : Hp} {l : Addr} {ks : List (Addr × List Int)} {ns : List Int} {L : List Turn} {d : Nat} {Q : VK} (h : G l = some (.lst (ks.map fun p => V.ref p.1))) (t : ∀ p ∈ ks, OrdIs G p) (e : ks.map Prod.snd = L.map fun t => mv ns t.1)
    (few : L.length < 64) (d1 : 1 ≤ d) (len : ∀ t ∈ L, t.1.length = d) (pos : ∀ i ∈ ns, 0 ≤ i)
    (q : ∀ (G' : Hp) (r : Addr) (js : List (Addr × List Int)), Same G G' → G r = none → G' r = some (.lst (js.map fun p => V.ref p.1)) → (∀ p ∈ js, OrdIs G' p) → Cls ns L (js.map Prod.snd) → Q (.ref r) G') :
    rSetOfT K P w [.ref l] G fun x G1 => rSortedT K P w [x] G1 Q := by
  have many : ks.length = L.length := by
    have := congrArg List.length e
    rwa [List.length_map, List.length_map] at this
  have each : ∀ p ∈ ks, ∃ t ∈ L, p.2 = mv ns t.1 := fun p m => by
    have z : p.2 ∈ ks.map Prod.snd := List.mem_map.mpr ⟨p, m, rfl⟩
    rw [e] at z
    obtain ⟨t, ht, x⟩ := List.mem_map.mp z
    exact ⟨t, ht, x.symm⟩
  refine ⟨l, ks, rfl, SqL.of h, fun p m => .inl (.inl (t p m)), by omega, fun a Ls ha sub cov => ?_⟩
  have sa := sNew (o := SetTO P w a Ls) (Same.refl G) ha
  refine ⟨a, Ls, d, bnd ns, rfl, upd_same, fun p m => .inl (.inl (sa _ _ (t p (sub p m)))), d1, fun p m => ?_, fun L' r pm nd _ pw hr => ?_⟩
  · obtain ⟨u, hu, x⟩ := each p (sub p m)
    rw [x]
    exact ⟨by unfold mv; rw [List.length_map]; exact len u hu, bd_mv pos⟩
  · have sr := sNew (o := .lst (L'.map fun q => V.ref q.1)) sa hr
    refine q _ r L' sr (sa.free hr) upd_same (fun p m => sr _ _ (t p (sub p (pm.mem_iff.mp m)))) ⟨nd, fun x => ?_, List.pairwise_map.mpr pw⟩
    constructor
    · intro hx
      obtain ⟨p, hp, rfl⟩ := List.mem_map.mp hx
      exact each p (sub p (pm.mem_iff.mp hp))
    · rintro ⟨u, hu, rfl⟩
      have z : mv ns u.1 ∈ ks.map Prod.snd := by
        rw [e]
        exact List.mem_map.mpr ⟨u, hu, rfl⟩
      obtain ⟨p, hp, x⟩ := List.mem_map.mp z
      have y := cov p hp
      rw [x] at y
      exact (pm.map Prod.snd).mem_iff.mpr y
section
variable {P : Program} {w : World} {K : PySem.W.Frag} {mg : Str → Option Value} {base : Heap}
/-! ### class_of -/
def spTClass (K : PySem.W.Frag) (C : Addr) : Sp := fun vs H Q _ => ∃ (p t : Addr) (z : Str) (ss : List Str) (L : List Turn) (ns : List Int), vs = [.ref p, .ref t] ∧ TabAt C H p z ss L ∧ SqT K H t (ns.map V.int) ∧ ns.length = ss.length ∧ 1 ≤ ss.length ∧ ss.length ≤ 100 ∧ (∀ i ∈ ns, 0 ≤ i) ∧
  (∀ q ∈ L, q.1.Perm (idn ns.length)) ∧ L.length < 64 ∧ ∀ (H' : Hp) (r : Addr) (js : List (Addr × List Int)), Same H H' → H r = none → H' r = some (.lst (js.map fun p => V.ref p.1)) → (∀ p ∈ js, OrdIs H' p) → Cls ns L (js.map Prod.snd) → Q (.ref r) H'
abbrev nTClass : List Str := ["self", "places", "order", "sign"]
theorem scTClass : FnScope nTClass ["self", "places"] (defScope sTClass) := ⟨rfl, rfl, rfl, by decide +kernel, rfl, by decide +kernel, by decide +kernel⟩
theorem ok_tclass {f C : Addr} {fd : FuncData} (F : Fun K "class_of" "Table.class_of" sTClass f fd) (B : Bn mg) (N : Tc K mg C) (DM : Df P w K mg base "moved" ["places", "order"] 1 (spMoved K)) (DW : Mt P w K mg base C "want_places" ["self", "places"] 4 (spTWant K C)) : FnOk P w K mg base CX0 5 f fd ["self", "places"] (spTClass K C) := by
  obtain ⟨fm, fdm, hm, hb, G⟩ := DW.ex
  refine F.ok scTClass (fun vs H Q E h => ?_) (fun cdv A outer s H vs Q E hr h => ?_)
  · obtain ⟨p, t, z, ss, L, ns, rfl, _⟩ := h
    rfl
  · obtain ⟨p, t, z, ss, L, ns, rfl, tab, ht, e, n1, few, pos, perm, lfew, q⟩ := h
    obtain ⟨dx, sa, ga, h1, h2, gv, h3, h4⟩ := id tab
    have hu := hr.units
    have h1' : Room 1 _ := hr.mono (by decide)
    refine ⟨_, pss_cons (ps_expr (pe_meth (pv 0) N.cl hm G hr hb .nil pass0 (pa_cons (pv 1) pa_nil)))
      (pss_one (ps_ret (pe_callB (cr_sortedT rfl) (by rfl) B.sorted (by decide +kernel) (pa_cons (pe_callTy (cr_setOfT rfl hu) (by rfl) B.set (by decide +kernel) (pa_cons (pe_lc (own := [("order", 2), ("sign", 3)]) (g := gTup K 2 (gCons (gName 2) (gCons (gName 3) gNil))) (tt := tYes) (te := tCall (spMoved K) [] E0 (tCons (tVar 1) (tCons (tVar 2) tNil))) (by rfl) scTClass.nd (pi_list (pe_fld (pv 0) rfl))
        (blkOk_by (own := [("order", 2), ("sign", 3)]) (N := nTClass) (sc := defScope sTClass) (by decide +kernel))
        (fun _ _ _ _ _ => pg_tup rfl (pgs_cons (pg_name (i := 2) scTClass.nd rfl (Or.inl rfl)) (pgs_cons (pg_name (i := 3) scTClass.nd rfl (Or.inl rfl)) pgs_nil))) (fun _ _ _ _ _ => pts_nil)
        (fun _ _ _ _ _ => pe_df DM h1' (by rfl) (pa_cons (pv 1) (pa_cons (pv 2) pa_nil)))) pa_nil)) pa_nil)))), ?_⟩
    refine ⟨_, rfl, p, dx, _, rfl, h1, fld_none (by decide) (by decide) (by decide), _, rfl, p, t, z, ss, L, ns, rfl, tab, ht, e, few, pos, fun H1 s1 => ?_⟩
    refine ⟨_, rfl, p, C, dx, _, _, rfl, s1 _ _ h1, N.cl, N.nT, rfl, ga, rfl, ⟨_, SqL.of (s1 _ _ h3)⟩, fun D hD => ?_⟩
    have len : gv.length = L.length := EachIs.length h4
    refine lc_it (walk_list (K := K) (a := ga) (xs := gv)) (fun i G => Same H1 G ∧ ∃ ks : List (Addr × List Int), G D = some (.lst (ks.map fun p => V.ref p.1)) ∧ (∀ p ∈ ks, OrdIs G p) ∧ ks.map Prod.snd = (L.take i).map fun t => mv ns t.1) ⟨sNew (Same.refl H1) hD, [], upd_same, (fun _ m => absurd m List.not_mem_nil), rfl⟩ (fun i G _ h => SqL.of (h.1 _ _ (s1 _ _ h3))) ?_ ?_
    · rintro i v _ G hi ⟨sG, ks, hks, tks, eks⟩ ⟨rfl, hv⟩
      have sHG := Same.trans s1 sG
      obtain ⟨q0, hq, T, u, rfl, e1, e2⟩ := each_get (TurnsS.same sHG h4) hv
      have perm0 := perm q0 (List.mem_of_getElem? hq)
      refine ⟨T, _, rfl, .inl (.inl e1), rfl, _, _, rfl, _, _, rfl, rfl, rfl, _, rfl, _, rfl, t, u, ns, q0.1, rfl, sTup sHG ht, .inl (.inl e2), idn_fits perm0, by rw [perm_len perm0]; omega, fun G2 pm s2 hpm em => ?_⟩
      have klen : ks.length ≤ 64 := by
        have := congrArg List.length eks
        rw [List.length_map, List.length_map, List.length_take] at this
        omega
      have eD := s2 _ _ hks
      refine ⟨_, eD, lt_line (by rw [List.length_map]; omega), sPut (Same.trans sG s2) hD, ks ++ [(pm, mv ns q0.1)], by rw [upd_same, List.map_append]; rfl, fun x m => ?_, ?_⟩
      · have o : OrdIs G2 x := by
          rcases List.mem_append.mp m with m | m
          · exact s2 _ _ (tks x m)
          · rw [List.mem_singleton.mp m]
            exact em
        show upd G2 D _ x.1 = _
        rw [upd_ne (ne_of o eD (fun z => by cases z))]
        exact o
      · rw [List.map_append, eks, List.take_add_one, hq, List.map_append]
        rfl
    rintro G ⟨sG, ks, hks, tks, eks⟩
    rw [len, List.take_length] at eks
    dsimp only [tNil]
    refine class_read hks tks eks lfew (d := ns.length) (by omega) (fun t ht => perm_len (perm t ht)) pos fun G' r js sr hr' h1 h2 h3 => ?_
    exact q G' r js (Same.trans s1 (Same.trans sG sr)) (s1.free (sG.free hr')) h1 h2 h3
end
end S11

/-! repr(x), x an instance whose own __repr__ is told where no repr is under way -/
namespace L2
open PySem PySem.Spec PyProof.Rows
theorem in1_guards {A : Around} : A.in1.guards = A.guards := by first | rfl | simp [Around.in1]
theorem call_reprOG {X : Cx} {k : Nat} {C g : Addr} {fd : FuncData} {sp : Sp} (own : PySem.W.findIn X.K (.ref C) "__repr__" = some (some (.ref g))) (isf : PySem.W.isFn X.K (.ref g) = true) (F : FnG X.prog X.w X.K X.mg X.base CX0 k g fd ["self"] sp) (b : Binds X.K fd ["self"] [])
    (quiet : X.A.guards = some []) (room : Room (k + 1) X.A) :
    CallR X (.builtin "repr") fun us H Q => ∃ a dx fs, us = [.ref a] ∧ H a = some (.ins C dx fs) ∧ sp [.ref a] H (fun v H' => ∃ t, v = .str t ∧ Q (.str t) H') E0 := by
  rintro pins s σ H _ us Q I r ⟨a, dx, fs, rfl, ha, q⟩
  rcases vals1 r with ⟨_, rfl, rfl⟩
  obtain ⟨od, It, _⟩ := (ins_get I.hok ha).choose_spec.1.look
  obtain ⟨m, frame⟩ := I.fr
  have fits : X.A.units + 1 < cLine := by
    have := room.un
    omega
  refine PySem.W.repr_K fits frame I.ok.mod.kin It own isf (wpAny_call (codeAny_mono (F.run X.A.in1 X.stack s H ⟨[.ref a], []⟩ [.ref a] [.ref a] _ E0 (in1_guards.trans quiet) room.in1' I.env0.in1 (b s [.ref a] I.kIn rfl) (.cons rfl .nil) q) ?_))
  rintro (er | fl) s1 z
  · exact z.elim
  cases fl with
  | ret u =>
    obtain ⟨_, H1, J1, rv, t, rfl, fin⟩ := I.after z
    obtain ⟨tk, rfl⟩ := rv
    exact ⟨.str t, H1, J1, ⟨tk, rfl⟩, fin⟩
  | _ => exact z.elim
end L2

namespace S11
open PySem L2 GM
open PySem.W (EachIs)
/-! ### data of tables -/
theorem dp_strs {K : PySem.W.Frag} {H : Hp} : ∀ ss : List Str, DpAll K H (ss.map V.str) (ss.map PyData.str)
  | [] => .nil
  | s :: ss => .cons (.str s) (dp_strs ss)
theorem deep_strs : ∀ ss : List Str, PyData.depthAll (ss.map PyData.str) = 0
  | [] => by simp [PyData.depthAll]
  | s :: ss => by
    show PyData.depthAll (.str s :: ss.map PyData.str) = 0
    rw [PyData.depthAll, deep_strs ss]
    simp [PyData.depth]
theorem NameOk.fit {z : Str} (h : NameOk z) : PyData.strOk z = true := by
  have small : ∀ c ∈ letters.cps.toList, c < 0x110000 := by decide +kernel
  unfold PyData.strOk
  rw [← Array.all_toList, List.all_eq_true]
  exact fun c m => decide_eq_true (small c (h.2.2 c m))
theorem lay_strs : ∀ ss : List Str, (∀ z ∈ ss, NameOk z) → PyData.canLayAll0 (ss.map PyData.str) = true
  | [], _ => by simp [PyData.canLayAll0]
  | s :: ss, h => by
    show PyData.canLayAll0 (.str s :: ss.map PyData.str) = true
    rw [PyData.canLayAll0, lay_strs ss fun z m => h z (List.mem_cons_of_mem _ m)]
    simp [PyData.canLay0, (h s List.mem_cons_self).fit]
theorem sh_strsT {ss : List Str} (h : SlotsOk ss) : SeqAt.shaped (.tuple (ss.map PyData.str)) = true := by
  have d := deep_strs ss
  unfold SeqAt.shaped
  rw [Bool.and_eq_true, decide_eq_true_eq, PyData.canLay0, PyData.depth]
  exact ⟨lay_strs ss h.2.2, by omega⟩
theorem kit_self {K : PySem.W.Frag} {C : Addr} : PySem.W.kitOne K (.ref C) (.ref C) = some true := by
  unfold PySem.W.kitOne
  rw [if_pos (by simp)]
theorem eqv_strs : ∀ a b : List Str, PyData.eqvAll (a.map PyData.str) (b.map PyData.str) = decide (a = b)
  | [], b => by cases b <;> simp [PyData.eqvAll]
  | _ :: _, [] => by simp [PyData.eqvAll]
  | x :: a, y :: b => by
    show PyData.eqvAll (.str x :: a.map PyData.str) (.str y :: b.map PyData.str) = _
    rw [PySem.W.eqv_all_cons, eqv_strs a b, PyData.eqv]
    by_cases h : x = y
    · subst h
      by_cases h2 : a = b <;> simp [h2]
    · simp [h]
theorem eqv_strsT (a b : List Str) : PyData.eqv (.tuple (a.map PyData.str)) (.tuple (b.map PyData.str)) = decide (a = b) := by rw [PyData.eqv, eqv_strs]
theorem eqv_turn (p q : Turn) : PyData.eqv (turnD p) (turnD q) = decide (p = q) := by
  rw [turnD, turnD, PyData.eqv, PySem.W.eqv_all_cons, PySem.W.eqv_all_cons, eqv_ord, PyData.eqv]
  obtain ⟨o, s⟩ := p
  obtain ⟨o', s'⟩ := q
  by_cases h : o = o'
  · by_cases h2 : s = s'
    · simp [h, h2, PyData.eqvAll]
    · simp [h, h2]
  · simp [h]
theorem eqv_turns : ∀ a b : List Turn, PyData.eqvAll (a.map turnD) (b.map turnD) = decide (a = b)
  | [], b => by cases b <;> simp [PyData.eqvAll]
  | _ :: _, [] => by simp [PyData.eqvAll]
  | x :: a, y :: b => by
    show PyData.eqvAll (turnD x :: a.map turnD) (turnD y :: b.map turnD) = _
    rw [PySem.W.eqv_all_cons, eqv_turns a b, eqv_turn]
    by_cases h : x = y
    · subst h
      by_cases h2 : a = b <;> simp [h2]
    · simp [h]
theorem eqv_turnsL (a b : List Turn) : PyData.eqv (.list (a.map turnD)) (.list (b.map turnD)) = decide (a = b) := by rw [PyData.eqv, eqv_turns]
theorem lay_turn (p : Turn) : (turnD p).canLay0 = true := by
  rw [turnD, PyData.canLay0, PyData.canLayAll0, ordD, PyData.canLay0, lay_ints p.1]
  simp [PyData.canLayAll0, PyData.canLay0]
theorem lay_turns : ∀ L : List Turn, PyData.canLayAll0 (L.map turnD) = true
  | [] => by simp [PyData.canLayAll0]
  | p :: L => by
    show PyData.canLayAll0 (turnD p :: L.map turnD) = true
    rw [PyData.canLayAll0, lay_turns L, lay_turn]
    rfl
theorem deep2_turn (p : Turn) : (turnD p).depth = 2 := by
  have d := PySem.W.depth_ints p.1
  simp only [PyData.depth, PyData.depthAll, d]
  omega
theorem deep_turns : ∀ L : List Turn, PyData.depthAll (L.map turnD) ≤ 2
  | [] => by simp [PyData.depthAll]
  | p :: L => by
    have h := deep_turns L
    have d := deep2_turn p
    show PyData.depthAll (turnD p :: L.map turnD) ≤ 2
    rw [PyData.depthAll]
    omega
theorem sh_turns (L : List Turn) : SeqAt.shaped (.list (L.map turnD)) = true := by
  have d := deep_turns L
  unfold SeqAt.shaped
  rw [Bool.and_eq_true, decide_eq_true_eq, PyData.canLay0, PyData.depth]
  exact ⟨lay_turns L, by omega⟩
theorem dp_turns {K : PySem.W.Frag} {H : Hp} {vs : List V} {L : List Turn} (h : TurnsS H vs L) : DpAll K H vs (L.map turnD) := by
  induction h with
  | nil => exact .nil
  | cons a _ ih => exact .cons a.dp ih
theorem GroupAt.dp {K : PySem.W.Frag} {H : Hp} {a : Addr} {L : List Turn} (h : GroupAt H a L) : Dp K H (.ref a) (.list (L.map turnD)) := by
  obtain ⟨vs, h1, h2⟩ := h
  exact .lst (SqL.of h1) (dp_turns h2)
/-- how a table is shown -/
def tabText (z : Str) (ss : List Str) : Str := "Table(" ++ reprText z ++ ", " ++ tupleText (ss.map reprText) ++ ")"
section
variable {P : Program} {w : World} {K : PySem.W.Frag} {mg : Str → Option Value} {base : Heap}
/-! ### __eq__ -/
def spTEq (K : PySem.W.Frag) (C : Addr) : Sp := fun vs H Q _ => (∃ (p q : Addr) (z z' : Str) (ss ss' : List Str) (L L' : List Turn), vs = [.ref p, .ref q] ∧ TabAt C H p z ss L ∧ TabAt C H q z' ss' L' ∧ SlotsOk ss ∧ SlotsOk ss' ∧ Q (.bl (decide (z = z' ∧ ss = ss' ∧ L = L'))) H) ∨
  ∃ (p : Addr) (y : V) (T : String) (z : Str) (ss : List Str) (L : List Turn), vs = [.ref p, y] ∧ TabAt C H p z ss L ∧ TyX K H y (.type T) ∧ PySem.W.kitOne K (.type T) (.ref C) = some false ∧ Q (.bl false) H
theorem scTEq : FnScope ["self", "other"] ["self", "other"] (defScope sTEq) := ⟨rfl, rfl, rfl, by decide +kernel, rfl, by decide +kernel, by decide +kernel⟩
theorem ok_teq {f C : Addr} {fd : FuncData} (F : Fun K "__eq__" "Table.__eq__" sTEq f fd) (B : Bn mg) (N : Tc K mg C) : FnOk P w K mg base CX0 1 f fd ["self", "other"] (spTEq K C) := by
  refine F.ok scTEq (fun vs H Q E h => ?_) (fun cdv A outer s H vs Q E hr h => ?_)
  · rcases h with ⟨p, q, z, z', ss, ss', L, L', rfl, _⟩ | ⟨p, y, T, z, ss, L, rfl, _⟩ <;> rfl
  · have hu := hr.units
    refine ⟨_, pss_cons (ps_if (PW.pt (pw_or (pt_not (pt_val (pe_callB call_isi (by rfl) B.isi (by decide +kernel) (pa_cons (pv 1) (pa_cons (pe_glob (v := .ref C) (by rfl) N.mgC rfl) pa_nil)))))
        (pw_or1 (pt_cmpR op_ne (pe_fld (pv 0) rfl) (pe_fld (pv 1) rfl) (nomark _))))) (pss_one (ps_ret pe_bl)) pss_nil)
      (pss_one (ps_ret (pe_and (pe_cmpR (op_eqD hu) (pe_fld (pv 0) rfl) (pe_fld (pv 1) rfl) (nomark _)) (pe_one (pe_cmpR (op_eqD hu) (pe_fld (pv 0) rfl) (pe_fld (pv 1) rfl) (nomark _)))))), ?_⟩
    rcases h with ⟨p, q, z, z', ss, ss', L, L', rfl, ⟨dx, sa, ga, h1, h2, h3⟩, ⟨dy, sb, gb, k1, k2, k3⟩, so, so', fin⟩ | ⟨p, y, T, z, ss, L, rfl, tab, ty, kt, fin⟩
    · refine ⟨_, rfl, _, _, _, _, true, rfl, .own C, .base (.ins k1 N.cl N.ic N.gt N.tk N.mo), kit_self, true, rfl, ?_⟩
      refine iteF ⟨_, rfl, p, C, dx, _, _, rfl, h1, N.cl, N.nN, rfl, _, rfl, q, C, dy, _, _, rfl, k1, N.cl, N.nN, rfl, rfl, _, rfl, ?_⟩
      by_cases ez : z = z'
      · subst ez
        rw [show (!decide (V.str z = V.str z)) = false by rw [decide_eq_true rfl]; rfl]
        refine iteF ⟨_, rfl, p, C, dx, _, _, rfl, h1, N.cl, N.nS, rfl, _, rfl, q, C, dy, _, _, rfl, k1, N.cl, N.nS, rfl, _, _, .tup (.inl (.inl h2)) (dp_strs ss), .tup (.inl (.inl k2)) (dp_strs ss'), sh_strsT so, sh_strsT so', _, rfl, ?_⟩
        rw [eqv_strsT]
        by_cases es : ss = ss'
        · rw [decide_eq_true es]
          refine iteT ⟨_, rfl, p, C, dx, _, _, rfl, h1, N.cl, N.nT, rfl, _, rfl, q, C, dy, _, _, rfl, k1, N.cl, N.nT, rfl, _, _, h3.dp, k3.dp, sh_turns _, sh_turns _, ?_⟩
          rw [eqv_turnsL]
          have e : decide (z = z ∧ ss = ss' ∧ L = L') = decide (L = L') := by
            by_cases x : L = L' <;> simp [es, x]
          rwa [e] at fin
        · rw [decide_eq_false es]
          refine iteF ?_
          have e : decide (z = z ∧ ss = ss' ∧ L = L') = false := by simp [es]
          rwa [e] at fin
      · rw [show (!decide (V.str z = V.str z')) = true by rw [decide_eq_false (fun y => ez (V.str.inj y))]; rfl]
        refine iteT ?_
        have e : decide (z = z' ∧ ss = ss' ∧ L = L') = false := by simp [ez]
        rwa [e] at fin
    · refine ⟨_, rfl, _, _, _, _, false, rfl, .own C, ty, kt, false, rfl, ?_⟩
      exact iteT fin
/-! ### __repr__ -/
def spTRepr (C : Addr) : Sp := fun vs H Q _ => ∃ (p : Addr) (z : Str) (ss : List Str) (L : List Turn), vs = [.ref p] ∧ TabAt C H p z ss L ∧ NameOk z ∧ SlotsOk ss ∧ ∀ H', Same H H' → Q (.str (tabText z ss)) H'
theorem scTRepr : FnScope ["self"] ["self"] (defScope sTRepr) := ⟨rfl, rfl, rfl, by decide +kernel, rfl, by decide +kernel, by decide +kernel⟩
theorem ok_trepr {f C : Addr} {fd : FuncData} (F : Fun K "__repr__" "Table.__repr__" sTRepr f fd) (N : Tc K mg C) : FnG P w K mg base CX0 3 f fd ["self"] (spTRepr C) := by
  refine F.okG scTRepr (fun vs H Q E h => ?_) (fun cdv A outer s H vs Q E gd hr h => ?_)
  · obtain ⟨p, z, ss, L, rfl, _⟩ := h
    rfl
  · obtain ⟨p, z, ss, L, rfl, ⟨dx, sa, ga, h1, h2, h3⟩, zok, sok, q⟩ := h
    refine ⟨_, pss_one (ps_ret (pe_joined (PJ.cons pe_str (PJ.cons (pe_fmtG (k := 2) (deeper_guards.trans gd) hr (pe_fld (pv 0) rfl)) (PJ.cons pe_str (PJ.cons (pe_fmtG (k := 2) (deeper_guards.trans gd) hr (pe_fld (pv 0) rfl)) (PJ.cons pe_str PJ.nil))))))), ?_⟩
    have sl : sizeLine = 16777216 := sizeLine_eq
    have zl := zok.shown
    have parts : ∀ t ∈ ss.map reprText, t.length ≤ 82 := fun t m => by
      obtain ⟨y, hy, rfl⟩ := List.mem_map.mp m
      exact (sok.2.2 y hy).shown
    have sum : ∀ ts : List Str, (∀ t ∈ ts, t.length ≤ 82) → (ts.map (·.length)).sum ≤ 82 * ts.length := by
      intro ts
      induction ts with
      | nil => intro _; exact Nat.le_refl _
      | cons t ts ih =>
        intro h
        have a := h t List.mem_cons_self
        have b := ih fun x m => h x (List.mem_cons_of_mem _ m)
        rw [List.map_cons, List.sum_cons, List.length_cons]
        omega
    have tl : (tupleText (ss.map reprText)).length ≤ 400 := by
      have a := tupleText_len_le (ss.map reprText)
      have b := sum _ parts
      rw [List.length_map] at a b
      have := sok.2.1
      omega
    have all : ∀ xs : List Str, (∀ y ∈ xs, NameOk y) → SgAll (cxOf CX0 P w K mg base ["self"] "Table.__repr__" (defScope sTRepr) f cdv A outer s H E).nox 1 (fun G => G = H) (fun _ => False) (xs.map V.str) (xs.map reprText) := by
      intro xs
      induction xs with
      | nil => intro _; exact .nil
      | cons x xs ih =>
        intro h
        have := (h x List.mem_cons_self).shown
        exact .cons (sg_str (by omega)) (ih fun y m => h y (List.mem_cons_of_mem _ m))
    refine ⟨_, rfl, (by rw [strLen_append, e_len, sl]; decide), ?_⟩
    refine ⟨_, rfl, p, C, dx, _, _, rfl, h1, N.cl, N.nN, rfl, reprText z, fun G => G = H, fun _ => False, rfl, sg_str (by omega), by omega, fun G j => ?_⟩
    have j' := j.symm
    subst j'
    refine ⟨_, rfl, (by simp only [strLen_append, e_len]; rw [sl]; have : ("Table(" : Str).length = 6 := rfl; omega), ?_⟩
    refine ⟨_, rfl, (by simp only [strLen_append, e_len]; rw [sl]; have : ("Table(" : Str).length = 6 := rfl; have : (", " : Str).length = 2 := rfl; omega), ?_⟩
    refine ⟨_, rfl, p, C, dx, _, _, rfl, h1, N.cl, N.nS, rfl, tupleText (ss.map reprText), fun G => G = H, fun c => c = sa ∨ False, rfl, sg_tup (fun G j => j ▸ h2) id (all ss sok.2.2), by omega, fun G j => ?_⟩
    have j' := j.symm
    subst j'
    refine ⟨_, rfl, (by simp only [strLen_append, e_len]; rw [sl]; have : ("Table(" : Str).length = 6 := rfl; have : (", " : Str).length = 2 := rfl; omega), ?_⟩
    refine ⟨_, rfl, (by simp only [strLen_append, e_len]; rw [sl]; have : ("Table(" : Str).length = 6 := rfl; have : (", " : Str).length = 2 := rfl; have : (")" : Str).length = 1 := rfl; omega), ?_⟩
    have e : Str.empty ++ ("Table(" : Str) ++ reprText z ++ (", " : Str) ++ tupleText (ss.map reprText) ++ (")" : Str) = tabText z ss := by
      unfold tabText
      rw [show Str.empty ++ ("Table(" : Str) = ("Table(" : Str) by decide +kernel]
    show Q (.str (Str.empty ++ ("Table(" : Str) ++ reprText z ++ (", " : Str) ++ tupleText (ss.map reprText) ++ (")" : Str))) _
    rw [e]
    exact q _ (Same.refl _)
end
end S11

/-! groups made anew -/
namespace GM
theorem mv_mv {o a b : List Int} (h : ∀ i ∈ b, 0 ≤ i ∧ i < a.length) : mv (mv o a) b = mv o (mv a b) := by
  unfold mv
  rw [List.map_map]
  refine List.map_congr_left fun i hi => ?_
  have z := h i hi
  have lt : i.toNat < a.length := by omega
  show (a.map fun i => o.getD i.toNat 0).getD i.toNat 0 = o.getD (a.getD i.toNat 0).toNat 0
  rw [List.getD_eq_getElem?_getD, List.getElem?_map, List.getD_eq_getElem?_getD (l := a), List.getElem?_eq_getElem lt] <;> rfl
theorem fits_perm {n : Nat} {a b : List Int} (ha : a.Perm (idn n)) (hb : b.Perm (idn n)) : ∀ i ∈ b, 0 ≤ i ∧ i < a.length := fun i hi => by
  have z := mem_idn.mp (hb.mem_iff.mp hi)
  have l : a.length = n := by rw [ha.length_eq, idn_len]
  omega
theorem Reach.mul {n : Nat} {T : List Turn} (h : Are n T) {o a : List Int} {s t : Int} (r : Reach n T o s) (q : Reach n T a t) : Reach n T (mv o a) (s * t) := by
  induction q with
  | one =>
    have l : o.length = n := by rw [(r.are h).1.length_eq, idn_len]
    have e := mv_idn o
    rw [l] at e
    rw [e, Int.mul_one]
    exact r
  | @step a t u q m ih =>
    rw [← mv_mv (fits_perm (q.are h).1 (h u m).1), ← Int.mul_assoc]
    exact .step ih m
theorem mv_left {n : Nat} {a : List Int} (h : a.Perm (idn n)) : mv (idn n) a = a := by
  unfold mv
  refine (List.map_congr_left (g := id) fun i hi => ?_).trans (List.map_id a)
  have z := mem_idn.mp (h.mem_iff.mp hi)
  unfold idn
  rw [List.getD_eq_getElem?_getD, List.getElem?_map, List.getElem?_range (by omega)]
  show ((i.toNat : Nat) : Int) = i
  omega
theorem Reach.self {n : Nat} {T : List Turn} (h : Are n T) {t : Turn} (m : t ∈ T) : Reach n T t.1 t.2 := by
  have z := Reach.step (.one (n := n) (T := T)) m
  rwa [mv_left (h t m).1, Int.one_mul] at z
/-- turns taken from a group lead to no more -/
theorem Reach.sub {n : Nat} {T S : List Turn} (h : Are n T) (hs : ∀ t ∈ S, Reach n T t.1 t.2) {o : List Int} {s : Int} (r : Reach n S o s) : Reach n T o s := by
  induction r with
  | one => exact .one
  | step r m ih => exact ih.mul h (hs _ m)
theorem Reach.mono {n : Nat} {S T : List Turn} (hs : ∀ t ∈ S, t ∈ T) {o : List Int} {s : Int} (r : Reach n S o s) : Reach n T o s := by
  induction r with
  | one => exact .one
  | step r m ih => exact .step ih (hs _ m)
theorem Single.sub {n : Nat} {T S : List Turn} (h : Are n T) (hs : ∀ t ∈ S, Reach n T t.1 t.2) (sg : Single n T) : Single n S := fun o s s' a b => sg o s s' (a.sub h hs) (b.sub h hs)
theorem nodup_of_keys {L : List Turn} (h : (L.map Prod.fst).Nodup) : L.Nodup := by
  induction L with
  | nil => exact List.nodup_nil
  | cons p L ih =>
    rw [List.map_cons, List.nodup_cons] at h
    exact List.nodup_cons.mpr ⟨fun m => h.1 (List.mem_map.mpr ⟨p, m, rfl⟩), ih h.2⟩
theorem single_of {n : Nat} {T L : List Turn} (l : Lists n T L) (nd : (L.map Prod.fst).Nodup) : Single n T := fun o s s' a b => keys_nodup nd ((l (o, s)).mpr a) ((l (o, s')).mpr b)
end GM

namespace S11
open PySem L2 GM
open PySem.W (EachIs)
def spStarT (K : PySem.W.Frag) (C D : Addr) : Sp := fun vs H Q E => ∃ ws rest, vs = ws ++ rest ∧ ws.length = (["self", "name", "slots"] : List Str).length ∧ rest.length ≤ sizeLine ∧ ∀ p, H p = Option.none → spTInit K C D (ws ++ [V.ref p]) (upd H p (.tup rest)) Q E
/-- what comes of Table(z, ss, *T) -/
def MadeT (C D : Addr) (H1 : Hp) (z : Str) (ss : List Str) (T : List Turn) (Q : VK) (E : XK) : Prop := (¬ Single ss.length T → XV D z H1 E) ∧ ∀ (H' : Hp) (p : Addr) (L : List Turn), Same H1 H' → H1 p = none → TabAt C H' p z ss L → Grp ss.length T L → Q (.ref p) H'
theorem made_t {K : PySem.W.Frag} {C D : Addr} {H1 : Hp} {z : Str} {a : Addr} {ss : List Str} {tv : List V} {T : List Turn} {Q : VK} {E : XK} (zok : NameOk z) (ha : TextsS H1 a ss) (sok : SlotsOk ss) (hts : TurnsAre K H1 tv T) (tok : ∀ p ∈ T, TurnOk ss p) (few : T.length ≤ 100) (m : MadeT C D H1 z ss T Q E)
    (x dx : Addr) (hx : H1 x = none) (hdx : H1 dx = none) (ne : dx ≠ x) : spStarT K C D (V.ref x :: V.str z :: V.ref a :: tv) (upd (upd H1 dx (.own x)) x (.ins C dx [])) (fun v H2 => v = .non ∧ Q (.ref x) H2) E := by
  have tl := hts.len
  refine ⟨[.ref x, .str z, .ref a], tv, rfl, rfl, le_line (by omega), fun p hp => ?_⟩
  have npx : p ≠ x := fun e => by rw [e, upd_same] at hp; cases hp
  have npd : p ≠ dx := fun e => by rw [e, upd_ne ne, upd_same] at hp; cases hp
  have hp0 : H1 p = none := by rw [upd_ne npx, upd_ne npd] at hp; exact hp
  have same : Same H1 (upd (upd (upd H1 dx (.own x)) x (.ins C dx [])) p (.tup tv)) := fun b o e => by
    have nbx : b ≠ x := ne_of_none e hx
    have nbd : b ≠ dx := ne_of_none e hdx
    have nbp : b ≠ p := ne_of_none e hp0
    rw [upd_ne nbp, upd_ne nbx, upd_ne nbd]
    exact e
  have past : ∀ H', SameX x (upd (upd (upd H1 dx (.own x)) x (.ins C dx [])) p (.tup tv)) H' → Same H1 H' := fun H' sx b o e => sx b o (ne_of_none e hx) (same b o e)
  refine ⟨x, dx, a, p, z, ss, tv, T, rfl, ?_, zok, ha.same same, sok, upd_same, hts.same same, tok, few, fun no H' d sx hd e => ?_, fun H' sa ga L sx hx' hsa hg grp => ⟨rfl, ?_⟩⟩
  · rw [upd_ne npx.symm, upd_same]
  · refine m.1 no H' d (past H' sx) ?_ e
    cases h : H1 d with
    | none => rfl
    | some o => rw [same d o h] at hd; cases hd
  · exact m.2 H' x L (past H' sx) hx ⟨dx, sa, ga, hx', hsa, hg⟩ grp
structure TMk (P : Program) (w : World) (K : PySem.W.Frag) (mg : Str → Option Value) (base : Heap) (C D : Addr) : Prop where
  tc : Tc K mg C
  ex : ∃ g, Mk K C g ∧ FnRG P w K mg base (L2.CX P w) 6 g (spStarT K C D)
theorem pe_tab {X : Cx} {C D : Addr} {E : XK} {e1 : Expr} {er : List Expr} {ta : TA} {pn pc : Pos} (M : TMk X.prog X.w X.K X.mg X.base C D) (gd : X.A.guards = some []) (hr : Room 7 X.A) (hg : Gl X "Table") (hx : Passes (L2.CX X.prog X.w) X E) (ha : PA X (e1 :: er) ta)
    (st : starEach (e1 :: er) X.env = (false, eval e1 X.env) :: starEach er X.env := by rfl) (pl : (backTo pc (starEach er X.env)).any (·.1) = false := by rfl) : PE X (.Call (.Name "Table" pn) (e1 :: er) [] pc) (StX.tMakeR C (spStarT X.K C D) E ta) := by
  obtain ⟨g, mk, F⟩ := M.ex
  exact pe_makeRG mk F gd hr hg M.tc.mgC hx ha (by decide) st pl
theorem pe_tabS {X : Cx} {C D : Addr} {E : XK} {e1 : Expr} {er : List Expr} {ta : TA} {pn pc : Pos} (M : TMk X.prog X.w X.K X.mg X.base C D) (gd : X.A.guards = some []) (hr : Room 7 X.A) (hg : Gl X "Table") (hx : Passes (L2.CX X.prog X.w) X E) (ha : PA X (e1 :: er) ta)
    (st : starEach (e1 :: er) X.env = (false, eval e1 X.env) :: starEach er X.env := by rfl) (star : (backTo pc (starEach er X.env)).any (·.1) = true := by rfl) : PE X (.Call (.Name "Table" pn) (e1 :: er) [] pc) (StX.tMakeR C (spStarT X.K C D) E ta) := by
  obtain ⟨g, mk, F⟩ := M.ex
  exact pe_makeSG mk F gd hr hg M.tc.mgC hx ha (by decide) st star
/-- the group of a group -/
theorem Grp.again {n : Nat} {T L L' : List Turn} (are : Are n T) (g : Grp n T L) (g' : Grp n L L') : L' = L := by
  refine srt_same (nodup_of_keys g'.nd) (nodup_of_keys g.nd) (fun p => ?_) g'.srt g.srt
  rw [g'.lists p, g.lists p]
  exact ⟨fun r => r.sub are fun t m => (g.lists t).mp m, fun r => r.mono fun t m => (g.lists t).mpr (Reach.self are m)⟩
section
variable {P : Program} {w : World} {K : PySem.W.Frag} {mg : Str → Option Value} {base : Heap}
/-! ### renamed -/
def spTNamed (C : Addr) : Sp := fun vs H Q _ => ∃ (p : Addr) (z z' : Str) (ss : List Str) (T L : List Turn), vs = [.ref p, .str z'] ∧ TabAt C H p z ss L ∧ NameOk z' ∧ SlotsOk ss ∧ (∀ q ∈ L, TurnOk ss q) ∧ Are ss.length T ∧ Grp ss.length T L ∧ L.length ≤ 24 ∧
  ∀ (H' : Hp) (r : Addr), Same H H' → H r = none → TabAt C H' r z' ss L → Q (.ref r) H'
theorem scTNamed : FnScope ["self", "name", "turns"] ["self", "name"] (defScope sTNamed) := ⟨rfl, rfl, rfl, by decide +kernel, rfl, by decide +kernel, by decide +kernel⟩
theorem ok_tnamed {f C D : Addr} {fd : FuncData} (F : Fun K "renamed" "Table.renamed" sTNamed f fd) (N : Tc K mg C) (M : TMk P w K mg base C D) : FnG P w K mg base CX0 8 f fd ["self", "name"] (spTNamed C) := by
  refine F.okG scTNamed (fun vs H Q E h => ?_) (fun cdv A outer s H vs Q E gd hr h => ?_)
  · obtain ⟨p, z, z', ss, T, L, rfl, _⟩ := h
    rfl
  · obtain ⟨p, z, z', ss, T, L, rfl, ⟨dx, sa, ga, h1, h2, gv, h3, h4⟩, zok, sok, tok, are, grp, few, q⟩ := h
    refine ⟨_, pss_cons (ps_set (i := 2) scTNamed.nd rfl (Or.inl rfl) (pe_fld (pv 0) rfl)) (pss_one (ps_ret (pe_tabS (E := E0) M (deeper_guards.trans gd) hr (by rfl) passF (pa_cons (pv 1) (pa_cons (pe_fld (pv 0) rfl) (StX.pa_star (pv 2) pa_nil))) (by rfl) (by rfl)))), ?_⟩
    refine ⟨_, rfl, p, C, dx, _, _, rfl, h1, N.cl, N.nT, rfl, ?_⟩
    refine ⟨_, rfl, _, rfl, p, C, dx, _, _, rfl, h1, N.cl, N.nS, rfl, _, rfl, ga, gv, rfl, .inr (SqL.of h3), fun x dy hx hdy ne => ?_⟩
    have sg : Single ss.length L := Single.sub are (fun t m => (grp.lists t).mp m) (single_of grp.lists grp.nd)
    refine made_t (ss := ss) (T := L) zok (.inr h2) sok (by rw [List.append_nil]; exact TurnsS.are h4) tok (by omega) ⟨fun no => absurd sg no, fun H' r L' s' hr' tab g' => ?_⟩ x dy hx hdy ne
    rw [Grp.again are grp g'] at tab
    exact q H' r s' hr' tab
end
end S11

namespace S11
open PySem L2 GM
open PySem.W (EachIs)
/-- the two numbers that draw -/
def PotAt (H : Hp) (l : Addr) : Prop := ∃ x y : Int, H l = some (.lst [.int x, .int y]) ∧ 0 ≤ x ∧ 0 ≤ y ∧ y < 4294967296
theorem PotAt.same {H H' : Hp} {l : Addr} (s : Same H H') (h : PotAt H l) : PotAt H' l := by
  obtain ⟨x, y, e, r⟩ := h
  exact ⟨x, y, s _ _ e, r⟩
theorem PotAt.ne {H : Hp} {l t : Addr} (h : PotAt H l) (ht : H t = none) : t ≠ l := fun e => by
  obtain ⟨x, y, e1, _⟩ := h
  rw [e, e1] at ht
  cases ht
theorem PotAt.put {H : Hp} {l p : Addr} {o : HO} (h : PotAt H l) (n : l ≠ p) : PotAt (upd H p o) l := by
  obtain ⟨x, y, e, r⟩ := h
  exact ⟨x, y, by rw [upd_ne n]; exact e, r⟩
theorem SameX.new {x p : Addr} {H H' : Hp} {o : HO} (a : SameX x H H') (n : H p = none) : SameX x H (upd H' p o) := fun b u hb e => by
  rw [upd_ne (ne_of_none e n)]
  exact a b u hb e
section
variable {P : Program} {w : World} {K : PySem.W.Frag} {mg : Str → Option Value} {base : Heap}
/-! ### _law_pot -/
def spPot (K : PySem.W.Frag) : Sp := fun vs H Q _ => ∃ (a : Addr) (ns : List Int) (k : Nat), vs = [.ref a, .int k] ∧ SqL K H a (ns.map V.int) ∧ k < 4 ∧ ns.length ≤ 1000 ∧ ∀ H' l, Same H H' → H l = none → PotAt H' l → Q (.ref l) H'
abbrev nPot : List Str := ["_law_script", "_law_k", "_law_cell"]
theorem scPot : FnScope nPot ["_law_script", "_law_k"] (defScope sPot) := ⟨rfl, rfl, rfl, by decide +kernel, rfl, by decide +kernel, by decide +kernel⟩
theorem ok_pot {f : Addr} {fd : FuncData} (F : Fun K "_law_pot" "_law_pot" sPot f fd) (T : Bn mg) : FnOk P w K mg base CX0 1 f fd ["_law_script", "_law_k"] (spPot K) := by
  refine F.ok scPot (fun vs H Q E h => ?_) (fun cdv A outer s H vs Q E hr h => ?_)
  · obtain ⟨a, ns, k, rfl, _⟩ := h
    rfl
  · obtain ⟨a, ns, k, rfl, ha, hk, hl, q⟩ := h
    refine ⟨_, pss_cons (ps_set (i := 2) scPot.nd rfl (Or.inl rfl) (pe_ifExp (pt_cmpR op_lt (pv 1) (pe_callB call_len_seq (by rfl) T.len PySem.boot_len (pa_cons (pv 0) pa_nil)) (nomark _))
        (pe_callB call_abs (by rfl) T.abs (by decide +kernel) (pa_cons (pe_ix ix_list (pv 0) (pv 1) (fun _ _ => rfl)) pa_nil)) pe_int))
      (pss_one (ps_ret (pe_lst (pa_cons (pe_callB (call_max2 rfl) (by rfl) T.max (by decide +kernel) (pa_cons pe_int (pa_cons (pe_op op_sub (pv 2) (pe_op op_pow pe_int pe_int)) pa_nil)))
        (pa_cons (pe_op op_mod (pe_callTy call_int1 (by rfl) T.int (by decide +kernel) (pa_cons (pe_op op_add (pe_op op_add (pe_op op_mul (pe_op op_mod (pe_callTy call_int1 (by rfl) T.int (by decide +kernel) (pa_cons (pv 2) pa_nil)) pe_int) pe_int) (pe_op op_mul pe_int (pv 1))) pe_int) pa_nil)) pe_int) pa_nil))))), ?_⟩
    refine ⟨_, rfl, _, rfl, a, _, rfl, .inl ha, _, _, rfl, rfl, _, rfl, ?_⟩
    have rest : ∀ c : Int, 0 ≤ c → ∀ (R : VK), (∀ x y : Int, 0 ≤ x → 0 ≤ y → y < 4294967296 → ∀ l, H l = none → R (.ref l) (upd H l (.lst [.int x, .int y]))) →
        (tLst (tCons (tCB (fun xs H Q => ∃ i j, xs = [.int i, .int j] ∧ Q (.int (if j > i then j else i)) H) (tCons (tC (.int 0)) (tCons (tOp (rI0 fun i j => .int (i - j)) (tVar 2) (tOp (rI CPow fun i j => .int (i ^ j.toNat)) (tC (.int 10)) (tC (.int 18)))) tNil)))
          (tCons (tOp (rI (fun _ j => 0 < j) fun i j => .int (i % j))
            (tCB (fun xs H Q => (∃ i, xs = [.int i] ∧ Q (.int i) H) ∨ ∃ k, xs = [.bl k] ∧ Q (.int (if k then 1 else 0)) H) (tCons (tOp (rI0 fun i j => .int (i + j)) (tOp (rI0 fun i j => .int (i + j)) (tOp (rI CMul fun i j => .int (i * j)) (tOp (rI (fun _ j => 0 < j) fun i j => .int (i % j))
              (tCB (fun xs H Q => (∃ i, xs = [.int i] ∧ Q (.int i) H) ∨ ∃ k, xs = [.bl k] ∧ Q (.int (if k then 1 else 0)) H) (tCons (tVar 2) tNil)) (tC (.int 2147483579))) (tC (.int 39119))) (tOp (rI CMul fun i j => .int (i * j)) (tC (.int 50021)) (tVar 1))) (tC (.int 77))) tNil))
            (tC (.int 2147483647))) tNil))) [some (.ref a), some (.int k), some (.int c)] H R := by
      intro c hc R hR
      refine ⟨_, rfl, _, _, rfl, rfl, ⟨by decide, by decide, by decide⟩, _, _, rfl, rfl, _, _, rfl, ?_⟩
      refine ⟨_, rfl, .inl ⟨_, rfl, _, _, rfl, rfl, (by show (0 : Int) < 2147483579; decide), _, _, rfl, rfl, .inr ⟨by decide, by decide⟩, _, rfl, _, _, rfl, rfl, .inl ⟨by decide, by decide⟩, _, _, rfl, rfl, _, _, rfl, rfl, .inl ⟨_, rfl, ?_⟩⟩⟩
      refine ⟨_, _, rfl, rfl, (by show (0 : Int) < 2147483647; decide), (by show 2 ≤ sizeLine; decide), fun l hl => hR _ _ ?_ ?_ ?_ l hl⟩
      · split <;> omega
      · exact Int.emod_nonneg _ (by omega)
      · have := Int.emod_lt_of_pos (c % 2147483579 * 39119 + 50021 * (k : Int) + 77) (b := 2147483647) (by omega)
        omega
    have done : ∀ x y : Int, 0 ≤ x → 0 ≤ y → y < 4294967296 → ∀ l, H l = none → Q (.ref l) (upd H l (.lst [.int x, .int y])) := fun x y h1 h2 h3 l hl => q _ l (sNew (Same.refl H) hl) hl ⟨x, y, upd_same, h1, h2, h3⟩
    by_cases hlt : ((k : Nat) : Int) < ((ns.map V.int).length : Nat)
    · rw [decide_eq_true hlt]
      refine iteT ?_
      have hk2 : k < ns.length := by
        rw [List.length_map] at hlt
        omega
      refine ⟨_, rfl, _, rfl, a, _, _, V.int ns[k], rfl, rfl, ha, at_of (j := k) rfl (by rw [List.getElem?_map, List.getElem?_eq_getElem hk2]; rfl), _, rfl, ?_⟩
      exact rest _ (by split <;> omega) Q done
    · rw [decide_eq_false hlt]
      refine iteF ?_
      exact rest _ (by omega) Q done
/-! ### _law_draw -/
def spDraw : Sp := fun vs H Q _ => ∃ (l : Addr) (many : Int), vs = [.ref l, .int many] ∧ PotAt H l ∧ 1 ≤ many ∧ many < 18446744073709551616 ∧ ∀ (H' : Hp) (d : Int), SameX l H H' → PotAt H' l → 0 ≤ d → d < many → Q (.int d) H'
abbrev nDraw : List Str := ["_law_pot_here", "_law_many", "_law_digit"]
theorem scDraw : FnScope nDraw ["_law_pot_here", "_law_many"] (defScope sDraw) := ⟨rfl, rfl, rfl, by decide +kernel, rfl, by decide +kernel, by decide +kernel⟩
theorem ok_draw {f : Addr} {fd : FuncData} (F : Fun K "_law_draw" "_law_draw" sDraw f fd) (T : Bn mg) : FnOk P w K mg base CX0 1 f fd ["_law_pot_here", "_law_many"] spDraw := by
  refine F.ok scDraw (fun vs H Q E h => ?_) (fun cdv A outer s H vs Q E hr h => ?_)
  · obtain ⟨l, many, rfl, _⟩ := h
    rfl
  · obtain ⟨l, many, rfl, ⟨x, y, hl, hx, hy, hy2⟩, m1, m2, q⟩ := h
    refine ⟨_, pss_cons (ps_if (pt_cmpR op_gt (pe_ix ix_list (pv 0) pe_int (fun _ _ => rfl)) pe_int (nomark _))
        (pss_cons (ps_asg (pe_callB call_divmodW (by rfl) T.divmod (by decide +kernel) (pa_cons (pe_ix ix_list (pv 0) pe_int (fun _ _ => rfl)) (pa_cons (pv 1) pa_nil)))
          (pg_tup rfl (pgs_cons (pg_sub (pv 0) pe_int set_list) (pgs_cons (pg_name (i := 2) scDraw.nd rfl (Or.inl rfl)) pgs_nil))))
        (pss_one (ps_ret (pv 2)))) pss_nil)
      (pss_cons (ps_asg (pe_op op_mod (pe_callTy call_int1 (by rfl) T.int (by decide +kernel) (pa_cons (pe_op op_add (pe_op op_mul (pe_ix ix_list (pv 0) pe_int (fun _ _ => rfl)) pe_int) pe_int) pa_nil)) pe_int) (pg_sub (pv 0) pe_int set_list))
      (pss_one (ps_ret (pe_op op_mod (pe_callTy call_int1 (by rfl) T.int (by decide +kernel) (pa_cons (pe_op op_fdiv (pe_op op_mod (pe_callTy call_int1 (by rfl) T.int (by decide +kernel) (pa_cons (pe_op op_mul (pe_ix ix_list (pv 0) pe_int (fun _ _ => rfl)) (pe_ix ix_list (pv 0) pe_int (fun _ _ => rfl))) pa_nil)) pe_int) pe_int) pa_nil)) (pv 1))))), ?_⟩
    refine ⟨_, rfl, l, _, _, V.int x, rfl, rfl, SqL.of hl, at_of (j := 0) rfl rfl, _, _, rfl, rfl, _, rfl, ?_⟩
    by_cases hp : x > 0
    · rw [decide_eq_true hp]
      refine iteT ?_
      refine ⟨_, rfl, l, _, _, V.int x, rfl, rfl, SqL.of hl, at_of (j := 0) rfl rfl, _, rfl, _, _, rfl, ⟨by omega, PyProof.noPylong_of_log2 (Nat.lt_trans ((Nat.log2_lt (by omega)).mpr (show many.natAbs < 2 ^ 64 by omega)) (by decide))⟩, fun t ht => ?_⟩
      have s1 := sNew (o := .tup [V.int (x / many), V.int (x % many)]) (Same.refl H) ht
      refine ⟨t, _, rfl, .inl (.inl upd_same), rfl, _, _, rfl, _, rfl, l, _, _, 0, rfl, rfl, old hl ht, rfl, _, _, rfl, rfl, _, rfl, ?_⟩
      have e1 := Int.emod_nonneg x (b := many) (by omega)
      have e2 := Int.emod_lt_of_pos x (b := many) (by omega)
      have e3 : 0 ≤ x / many := Int.ediv_nonneg hx (by omega)
      exact q _ _ (SameX.put (SameX.of s1)) ⟨x / many, y, upd_same, e3, hy, hy2⟩ e1 e2
    · rw [decide_eq_false hp]
      refine iteF ?_
      refine ⟨_, rfl, l, _, _, V.int y, rfl, rfl, SqL.of hl, at_of (j := 1) rfl rfl, _, _, rfl, rfl, .inl ⟨by omega, by omega⟩, _, _, rfl, rfl, .inl ⟨_, rfl, ?_⟩⟩
      refine ⟨_, _, rfl, rfl, (by show (0 : Int) < 2147483549; decide), ?_⟩
      refine ⟨_, rfl, l, _, _, 1, rfl, rfl, hl, rfl, ?_⟩
      have e1 := Int.emod_nonneg (y * 48271 + 10007) (b := 2147483549) (by omega)
      have e2 := Int.emod_lt_of_pos (y * 48271 + 10007) (b := 2147483549) (by omega)
      have h2 : upd H l (.lst ([V.int x, V.int y].set 1 (V.int ((y * 48271 + 10007) % 2147483549)))) l = some (.lst [V.int x, V.int ((y * 48271 + 10007) % 2147483549)]) := upd_same
      have sx : SameX l H (upd H l (.lst ([V.int x, V.int y].set 1 (V.int ((y * 48271 + 10007) % 2147483549))))) := SameX.put (SameX.of (Same.refl H))
      generalize upd H l (.lst ([V.int x, V.int y].set 1 (V.int ((y * 48271 + 10007) % 2147483549)))) = H2 at h2 sx ⊢
      generalize (y * 48271 + 10007) % 2147483549 = z at e1 e2 h2 ⊢
      refine ⟨_, rfl, l, _, _, V.int z, rfl, rfl, SqL.of h2, at_of (j := 1) rfl rfl, _, rfl, l, _, _, V.int z, rfl, rfl, SqL.of h2, at_of (j := 1) rfl rfl, _, _, rfl, rfl, .inl ⟨by omega, by omega⟩, .inl ⟨_, rfl, ?_⟩⟩
      refine ⟨_, _, rfl, rfl, (by show (0 : Int) < 2147483497; decide), _, _, rfl, rfl, ⟨by decide, by decide⟩, .inl ⟨_, rfl, _, rfl, _, _, rfl, rfl, (by show (0 : Int) < many; omega), ?_⟩⟩
      exact q _ _ sx ⟨x, z, h2, hx, e1, by omega⟩ (Int.emod_nonneg _ (by omega)) (Int.emod_lt_of_pos _ (by omega))
/-! ### _law_pick -/
def spPick : Sp := fun vs H Q _ => ∃ (l s : Addr) (xs : List V), vs = [.ref l, .ref s] ∧ PotAt H l ∧ H s = some (.lst xs) ∧ s ≠ l ∧ 1 ≤ xs.length ∧ xs.length ≤ 1000 ∧ ∀ (H' : Hp) (v : V), SameX l H H' → PotAt H' l → v ∈ xs → Q v H'
theorem scPick : FnScope ["_law_pot_here", "_law_some"] ["_law_pot_here", "_law_some"] (defScope sPick) := ⟨rfl, rfl, rfl, by decide +kernel, rfl, by decide +kernel, by decide +kernel⟩
theorem ok_pick {f : Addr} {fd : FuncData} (F : Fun K "_law_pick" "_law_pick" sPick f fd) (T : Bn mg) (DD : Df P w K mg base "_law_draw" ["_law_pot_here", "_law_many"] 1 spDraw) : FnOk P w K mg base CX0 2 f fd ["_law_pot_here", "_law_some"] spPick := by
  refine F.ok scPick (fun vs H Q E h => ?_) (fun cdv A outer s H vs Q E hr h => ?_)
  · obtain ⟨l, s, xs, rfl, _⟩ := h
    rfl
  · obtain ⟨l, s, xs, rfl, hp, hs, ne, h1, h2, q⟩ := h
    refine ⟨_, pss_one (ps_ret (pe_ix ix_list (pv 1) (pe_df DD hr (by rfl) (pa_cons (pv 0) (pa_cons (pe_callB call_len_seq (by rfl) T.len PySem.boot_len (pa_cons (pv 1) pa_nil)) pa_nil))) (fun _ _ => rfl))), ?_⟩
    refine ⟨_, rfl, _, rfl, _, rfl, s, _, rfl, .inl (SqL.of hs), l, _, rfl, hp, by omega, by omega, fun H' d sx hp' d0 d1 => ?_⟩
    have hd : d.toNat < xs.length := by omega
    refine ⟨s, xs, d, xs[d.toNat], rfl, rfl, SqL.of (sx _ _ ne hs), at_of (j := d.toNat) (by omega) (List.getElem?_eq_getElem hd), ?_⟩
    exact q H' _ sx hp' (List.getElem_mem hd)
end
end S11

/-! How values are shown, also where an exception is handled. -/
namespace L2
open PySem PySem.Spec PyProof.Rows PySem.Builtin
/-- room; the exception that is handled, if any, stands at a pin -/
structure RmX (pn : List (Addr × Obj)) (k : Nat) (A : Around) : Prop where
  dp : A.depth + 3 * k + 5 < recursionLimit
  un : A.units + 16 * k + 200 < cLine
  hot : A.handled = none ∨ ∃ p ∈ pn, L2H.Hot1 A p
theorem hot_on {pn : List (Addr × Obj)} {A A' : Around} (e : A'.handled = A.handled) (h : A.handled = none ∨ ∃ p ∈ pn, L2H.Hot1 A p) : A'.handled = none ∨ ∃ p ∈ pn, L2H.Hot1 A' p :=
  h.imp (fun z => e.trans z) fun ⟨p, m, z, r⟩ => ⟨p, m, e.trans z, r⟩
section
variable {pn : List (Addr × Obj)} {k : Nat} {A : Around}
theorem RmX.mono {j : Nat} (r : RmX pn j A) (h : k ≤ j) : RmX pn k A := ⟨by have := r.dp; omega, by have := r.un; omega, r.hot⟩
theorem RmX.units0 (r : RmX pn k A) : A.units < cLine := by
  have := r.un
  omega
theorem RmX.in1' (r : RmX pn (k + 1) A) : RmX pn k A.in1 := ⟨by have := r.dp; have := @in1_depth A; omega, by have := r.un; have e : A.in1.units = A.units + 1 := rfl; omega, hot_on rfl r.hot⟩
theorem RmX.rl (r : RmX pn (k + 1) A) (args : Args) : RmX pn k (A.under (.builtin "list.__repr__.loop" args)) := ⟨by have := r.dp; have := @rl_depth A args; omega, by have := r.un; have := @rl_units A args; omega, hot_on rl_handled r.hot⟩
theorem RmX.tr (r : RmX pn (k + 1) A) (args : Args) : RmX pn k (A.under (.builtin "tuple.__repr__" args)) := ⟨by have := r.dp; have := @tr_depth A args; omega, by have := r.un; have := units_under_tuple_repr A args; omega, hot_on tr_handled r.hot⟩
theorem RmX.tu (r : RmX pn (k + 1) A) (args : Args) : RmX pn k (A.under (.builtin "tuple.__repr__.under" args)) := ⟨by have := r.dp; have := @tu_depth A args; omega, by have := r.un; have := units_under_tuple_repr_under A args; omega, hot_on tu_handled r.hot⟩
theorem Room.rmX (r : Room k A) : RmX pn k A := ⟨r.dp, r.un, .inl r.hd⟩
end
/-- v is shown as t: within a container, by !r, by repr(..); J holds of the heap before and behind -/
structure Sx (X : Cx) (k : Nat) (J : Hp → Prop) (B : Addr → Prop) (v : V) (t : Str) : Prop where
  under : ∀ (A' : Around) (g : List Code) (pins : List (Addr × Obj)) (s : Shared) (σ : St) (H : Hp) (u : Value) (b : Nat) (E : Value → Shared → Prop) (Q : Str → Shared → Prop), A'.frames = some X.stack → A'.guards = some g → Clr g B → RmX X.pn k A' → Inv X pins σ H s → J H → RelV v u → b + t.length ≤ sizeLine →
    (∀ s' H', Inv X pins σ H' s' → J H' → Q t s') → wpAny (model X.prog X.w) A' (pyReprUnder b u) Q E s
  obj : ∀ (A' : Around) (g : List Code) (pins : List (Addr × Obj)) (s : Shared) (σ : St) (H : Hp) (u : Value) (E : Value → Shared → Prop) (Q : Value → Shared → Prop), A'.frames = some X.stack → A'.guards = some g → Clr g B → RmX X.pn k A' → Inv X pins σ H s → J H → RelV v u → t.length ≤ sizeLine →
    (∀ s' H' tk, Inv X pins σ H' s' → J H' → Q (.str t tk) s') → wpAny (model X.prog X.w) A' (pyReprObj u) Q E s
  call : ∀ (A' : Around) (g : List Code) (pins : List (Addr × Obj)) (s : Shared) (σ : St) (H : Hp) (u : Value) (E : Value → Shared → Prop) (Q : Value → Shared → Prop), A'.frames = some X.stack → A'.guards = some g → Clr g B → RmX X.pn (k + 1) A' → Inv X pins σ H s → J H → RelV v u → t.length ≤ sizeLine →
    (∀ s' H' tk, Inv X pins σ H' s' → J H' → Q (.str t tk) s') → wpAny (model X.prog X.w) A' (PySem.call (.builtin "repr") [u]) Q E s
theorem Sx.mono {X : Cx} {j k : Nat} {J : Hp → Prop} {B B' : Addr → Prop} {v : V} {t : Str} (S : Sx X j J B v t) (h : j ≤ k) (hB : ∀ b, B b → B' b) : Sx X k J B' v t :=
  ⟨fun A' g pins s σ H u b E Q hf hg hc hr => S.under A' g pins s σ H u b E Q hf hg (fun c hc' => hc c (hB c hc')) (hr.mono h), fun A' g pins s σ H u E Q hf hg hc hr => S.obj A' g pins s σ H u E Q hf hg (fun c hc' => hc c (hB c hc')) (hr.mono h),
   fun A' g pins s σ H u E Q hf hg hc hr => S.call A' g pins s σ H u E Q hf hg (fun c hc' => hc c (hB c hc')) (hr.mono (Nat.succ_le_succ h))⟩
section
variable {X : Cx} {k : Nat} {J : Hp → Prop} {B : Addr → Prop}
theorem sx_int {i : Int} (hi : i.natAbs.log2 < 1920) : Sx X k J B (.int i) (toString i) :=
  ⟨fun A' g pins s σ H u b E Q hf hg hc hr I j r hb q => by
    obtain ⟨t, rfl⟩ := r
    exact ReprIs.int t hi b hb A' E s Q fun tk => q _ H (I.tok tk) j,
  fun A' g pins s σ H u E Q hf hg hc hr I j r hb q => by
    obtain ⟨t, rfl⟩ := r
    exact pyReprObj_int hi (q _ H _ (I.tok _) j),
  fun A' g pins s σ H u E Q hf hg hc hr I j r hb q => by
    obtain ⟨t, rfl⟩ := r
    exact PySem.P.repr_of_int hi (q _ H _ (I.tok _) j)⟩
theorem sx_str {x : Str} (hx : (reprText x).length ≤ sizeLine) : Sx X k J B (.str x) (reprText x) :=
  ⟨fun A' g pins s σ H u b E Q hf hg hc hr I j r hb q => by
    obtain ⟨t, rfl⟩ := r
    exact ReprIs.str x t hx b hb A' E s Q fun tk => q _ H (I.tok tk) j,
  fun A' g pins s σ H u E Q hf hg hc hr I j r hb q => by
    obtain ⟨t, rfl⟩ := r
    exact pyReprObj_str (q _ H _ (I.tok _) j) hx,
  fun A' g pins s σ H u E Q hf hg hc hr I j r hb q => by
    obtain ⟨t, rfl⟩ := r
    exact PySem.P.repr_of_str (q _ H _ (I.tok _) j) hx⟩
theorem sx_bl {x : Bool} : Sx X k J B (.bl x) (if x then "True" else "False") :=
  ⟨fun A' g pins s σ H u b E Q hf hg hc hr I j r hb q => by
    obtain rfl : u = Value.bool x := r
    exact ReprIs.bool x b hb A' E s Q fun tk => q _ H (I.tok tk) j,
  fun A' g pins s σ H u E Q hf hg hc hr I j r hb q => by
    obtain rfl : u = Value.bool x := r
    exact pyReprObj_bool (q _ H _ (I.tok _) j),
  fun A' g pins s σ H u E Q hf hg hc hr I j r hb q => by
    obtain rfl : u = Value.bool x := r
    exact PySem.P.repr_of_bool (q _ H _ (I.tok _) j)⟩
theorem sx_non : Sx X k J B .non "None" :=
  ⟨fun A' g pins s σ H u b E Q hf hg hc hr I j r hb q => by
    obtain rfl : u = Value.none := r
    exact ReprIs.none b hb A' E s Q fun tk => q _ H (I.tok tk) j,
  fun A' g pins s σ H u E Q hf hg hc hr I j r hb q => by
    obtain rfl : u = Value.none := r
    exact pyReprObj_none (q _ H _ (I.tok _) j),
  fun A' g pins s σ H u E Q hf hg hc hr I j r hb q => by
    obtain rfl : u = Value.none := r
    exact PySem.P.repr_of_none (q _ H _ (I.tok _) j)⟩
/-- the empty list -/
theorem sx_nil {a : Addr} (hJ : ∀ H, J H → H a = some (.lst [])) : Sx X k J B (.ref a) "[]" :=
  ⟨fun A' g pins s σ H u b E Q hf hg hc hr I j r hb q => by
    obtain rfl : u = Value.ref a := r
    obtain ⟨_, its, nn, rv, ha⟩ := (show ObjOk X.prog X.w H s.heap a (.lst []) from I.hok a _ (hJ H j))
    cases rv
    exact wpAny_pyReprUnder_ref (by omega) (wpAny_pyReprObjUnder_list_empty ⟨_, ha, rfl⟩ hr.units0 ha rfl ⟨_, _, rfl, q _ H (I.tok _) j⟩),
  fun A' g pins s σ H u E Q hf hg hc hr I j r hb q => by
    obtain rfl : u = Value.ref a := r
    obtain ⟨_, its, nn, rv, ha⟩ := (show ObjOk X.prog X.w H s.heap a (.lst []) from I.hok a _ (hJ H j))
    cases rv
    exact wpAny_pyReprObj_list_empty ⟨_, ha, rfl⟩ hr.units0 ha rfl (q _ H _ (I.tok _) j),
  fun A' g pins s σ H u E Q hf hg hc hr I j r hb q => by
    obtain rfl : u = Value.ref a := r
    obtain ⟨_, its, nn, rv, ha⟩ := (show ObjOk X.prog X.w H s.heap a (.lst []) from I.hok a _ (hJ H j))
    cases rv
    exact call_repr_slot (by have := hr.un; omega) ⟨_, ha, rfl⟩ F.slot_list_repr.toG (call_list_repr_empty ⟨_, ha, rfl⟩ ha rfl ⟨_, _, rfl, q _ H _ (I.tok _) j⟩)⟩
end
section
variable {X : Cx} {k : Nat} {J : Hp → Prop} {B : Addr → Prop}
theorem rx_run {A : Around} {g : List Code} {R : Result → Shared → Prop} {a P : Addr} {xs : List V} {ts : List Str} {b : Nat} {pins : List (Addr × Obj)} {σ : St} (hfr : A.frames = some X.stack) (hg : A.guards = some g) (hcl : Clr g B) (hna : ¬ B a) (hr : RmX X.pn (k + 1) A) (hJ : ∀ H, J H → H a = some (.lst xs))
    (hlen : ts.length = xs.length) (hT : ∀ (i : Nat) (v : V), xs[i]? = some v → ∃ t, ts[i]? = some t ∧ Sx X k J B v t) (hsz : b + (listText ts).length ≤ sizeLine)
    (hP1 : X.s_0.heap.objs.size ≤ P) (hP2 : ∀ p ∈ X.pn ++ pins, p.1 ≠ P)
    (hR : ∀ s' H' u, Inv X pins σ H' s' → J H' → R (.ok (.ret (.str (listText ts) u))) s') :
    ∀ (n i : Nat) (s : Shared) (H : Hp) (acc : Array Value) (c : Nat) (done : List (Str × Tok)), xs.length - i = n → i ≤ xs.length → Inv X ((P, lobj acc c) :: pins) σ H s → J H → acc.toList = strValues done → done.map (·.1) = ts.take i →
    codeAny (model X.prog X.w) A (.builtin "list.__repr__.loop" ⟨[.ref a, rawInt i, .ref P, rawInt ((b + piled (ts.take i) : Nat) : Int)], []⟩) R s := by
  obtain ⟨hsz1, hsz2⟩ := shown_in_line hlen (Nat.le_trans (Nat.le_add_left _ _) hsz)
  have hsz3 : (listText ts).length ≤ sizeLine := by omega
  have hp3 := piled_le_listText ts
  have drop : ∀ {acc : Array Value} {c : Nat} {H : Hp} {s : Shared}, Inv X ((P, lobj acc c) :: pins) σ H s → Inv X pins σ H s := fun I => I.pins_of fun p hp => I.pin p (List.mem_append_right _ (List.mem_cons_of_mem _ hp))
  intro n
  induction n with
  | zero =>
    intro i s H acc c done hk hi I j hacc hdone
    have hin : i = xs.length := by omega
    obtain ⟨_, its, nn, rv, ha⟩ := (show ObjOk X.prog X.w H s.heap a (.lst xs) from I.hok a _ (hJ H j))
    have hlv := rv.length
    obtain ⟨hPo, hPn, hPl, hPf, _⟩ := I.pin (P, lobj acc c) (List.mem_append_right _ List.mem_cons_self)
    refine codeAny_builtin F.entry_list_repr_loop ?_
    show wpAny _ _ (Builtin.«list.__repr__.loop» ⟨[.ref a, .int i 0, .ref P, .int ((b + piled (ts.take i) : Nat) : Int) 0], []⟩) _ _ s
    rw [repr_loop_tree]
    refine wpAny_bind (wpAny_listItems ha rfl ?_)
    have over : its.toArray[(i : Int).toNat]? = none := by simp [hin, hlv]
    have whole : done.map (·.1) = ts := by simpa [hin, ← hlen] using hdone
    rw [over]
    dsimp only
    unfold reprEnd
    exact wpAny_bind (wpAny_listItems hPo rfl (by rw [hacc, repr_fold, whole]; exact wpAny_bind (wpAny_pure (wpAny_bind (wpAny_mkStr (wpAny_pure (hR _ H _ ((drop I).tok _) j)) hsz3)))))
  | succ n ih =>
    intro i s H acc c done hk hi I j hacc hdone
    have hlt : i < xs.length := by omega
    obtain ⟨_, its, nn, rv, ha⟩ := (show ObjOk X.prog X.w H s.heap a (.lst xs) from I.hok a _ (hJ H j))
    have hlv := rv.length
    obtain ⟨t, ht, hrep⟩ := hT i xs[i] (by simp [hlt])
    obtain ⟨u, hu, ru⟩ := rv.get (show xs[i]? = some xs[i] by simp [hlt])
    have grown := And.intro (piled_take_succ ht) (piled_take_le ts (i + 1))
    obtain ⟨hp1, hp2⟩ := grown
    have here : its.toArray[(i : Int).toNat]? = some u := by simpa using hu
    refine codeAny_builtin F.entry_list_repr_loop ?_
    change wpAny _ _ (Builtin.«list.__repr__.loop» ⟨[.ref a, .int i 0, .ref P, .int ((b + piled (ts.take i) : Nat) : Int) 0], []⟩) _ _ s
    rw [repr_loop_tree]
    refine wpAny_bind (wpAny_listItems ha rfl ?_)
    rw [here, Int.toNat_natCast]
    dsimp only
    refine wpAny_bind (wpAny_holding (hrep.under _ _ ((P, lobj acc c) :: pins) s σ H u (b + piled (ts.take i) + 1) _ _ (by rw [rl_frames]; exact hfr) (guards_under_guard (isGuard_list_loop _) hg) (fun c hc => (hcl c hc).cons (a := a) fun e => hna (e ▸ hc)) (hr.rl _) I j ru (by omega) fun s1 H1 I1 j1 => ?_))
    have short := hsz2 t (List.mem_of_getElem? ht)
    refine wpAny_bind (wpAny_mkStr (wpAny_bind ?_) short)
    change wpAny _ _ (updateSeq P _) _ _ _
    have hasz : acc.size ≤ sizeLine := by
      have gathered := congrArg List.length hacc
      have told := congrArg List.length hdone
      simp only [strValues, List.length_map, List.length_take, Array.length_toList] at gathered told
      omega
    obtain ⟨hPo, hPn, hPl, hPf, _⟩ := I1.pin (P, lobj acc c) (List.mem_append_right _ List.mem_cons_self)
    refine wpAny_updateSeq hPo rfl (wpAny_pure ⟨F.quiet_list_repr_loop _, ?_⟩) hasz
    rw [show ((i : Int) + 1) = ((i + 1 : Nat) : Int) by omega, show b + piled (ts.take i) + (t.length + 2) = b + piled (ts.take (i + 1)) by omega]
    obtain ⟨c', hself⟩ : ∃ c', (s1.heap.update P (Obj.mapSeq (·.push (.str t s1.toks)))).get? P = some (lobj (acc.push (.str t s1.toks)) c') := ⟨_, Heap.get?_update_self _ hPo rfl⟩
    refine ih (i + 1) _ H1 (acc.push (.str t s1.toks)) c' (done ++ [(t, s1.toks)]) (by omega) hlt ?_ j1 (by simp [hacc, strValues]) (by simp [List.take_add_one, ht, hdone])
    refine Inv.pins_of (pins := pins) ?_ fun p hp => ?_
    · refine ((drop I1).tok (s1.toks + 1)).turned (it := P) (t' := s1.toks + 1) (fun b o hb e => (Heap.get?_update_other _ _ (fun h : P = b => hb h.symm)).trans e) hPn hPl (.inr hP1) (fun x c' hc z => ?_) hP2
      obtain ⟨v, o, ho, hd⟩ := I1.cell x c' hc
      rw [z, hPo] at ho
      cases ho
      cases hd
    · rcases List.mem_cons.mp hp with rfl | hp
      · exact ⟨hself, hPn, hPl, hPf, fun v z => by cases z⟩
      · obtain ⟨q1, q2, q3, q4, q5⟩ := I1.pin p (List.mem_append_right _ (List.mem_cons_of_mem _ hp))
        exact ⟨(Heap.get?_update_other _ _ (fun h : P = p.1 => hP2 p (List.mem_append_right _ hp) h.symm)).trans q1, q2, q3, q4, q5⟩
/-- what listReprAt does -/
theorem rx_at {A : Around} {g : List Code} {R : Result → Shared → Prop} {a : Addr} {xs : List V} {ts : List Str} {b : Nat} {pins : List (Addr × Obj)} {σ : St} {s : Shared} {H : Hp} (hfr : A.frames = some X.stack) (hg : A.guards = some g) (hcl : Clr g fun c => c = a ∨ B c) (hna : ¬ B a) (hr : RmX X.pn (k + 1) A) (I : Inv X pins σ H s) (j : J H) (hJ : ∀ H, J H → H a = some (.lst xs)) (hne : xs ≠ [])
    (hlen : ts.length = xs.length) (hT : ∀ (i : Nat) (v : V), xs[i]? = some v → ∃ t, ts[i]? = some t ∧ Sx X k J B v t) (hsz : b + (listText ts).length ≤ sizeLine)
    (hR : ∀ s' H' u, Inv X pins σ H' s' → J H' → R (.ok (.ret (.str (listText ts) u))) s') :
    wpAny (model X.prog X.w) A.in1 (Builtin.listReprAt b ⟨[.ref a], []⟩) (fun fin s' => match fin with | .done f => R (.ok f) s' | .again c' => c'.quiet = true ∧ codeAny (model X.prog X.w) A c' R s') (fun e s' => R (.error e) s') s := by
  obtain ⟨_, its, nn, rv, ha⟩ := (show ObjOk X.prog X.w H s.heap a (.lst xs) from I.hok a _ (hJ H j))
  cases its with
  | nil =>
    cases rv
    exact absurd rfl hne
  | cons x l =>
    have hca : Clear g a := hcl a (.inl rfl)
    refine wpAny_list_repr_head (A := A.in1) (g := g) hg (fun v rest kw hm => listSameRef_of_ne (hca _ _ _ _ hm)) ha rfl ?_
    refine wpAny_bind (m := newList []) (wpAny_newObj_type ?_)
    refine wpAny_pure ⟨F.quiet_list_repr_loop _, ?_⟩
    have kk : ∀ b o, s.heap.get? b = some o → (s.heap.push (lobj #[] 0)).get? b = some o := fun b o e => Heap.get?_push_of_some _ e
    have I1 : Inv X pins σ H { s with heap := s.heap.push (lobj #[] 0), toks := s.toks } := I.kept (t' := s.toks) kk
    have hget : (s.heap.push (lobj #[] 0)).get? s.heap.objs.size = some (lobj #[] 0) := Heap.get?_push_size _ rfl
    have nP : ∀ p ∈ X.pn ++ pins, p.1 ≠ s.heap.objs.size := fun p hp => Nat.ne_of_lt (Heap.lt_size (I.pin p hp).1)
    have I2 : Inv X ((s.heap.objs.size, lobj #[] 0) :: pins) σ H { s with heap := s.heap.push (lobj #[] 0), toks := s.toks } := I1.pins_of fun p hp => by
      rcases List.mem_cons.mp hp with rfl | hp
      · exact ⟨hget, I.hok.fresh (Nat.le_refl _), Nat.ne_of_gt I.lt, I.nofs (Nat.le_refl _), fun v z => by cases z⟩
      · exact I1.pin p (List.mem_append_right _ hp)
    exact rx_run (A := A) (R := R) (b := b) (σ := σ) (pins := pins) hfr hg (fun c hc => hcl c (.inr hc)) hna hr hJ hlen hT hsz I.sz nP hR xs.length 0 _ H #[] 0 [] (by omega) (Nat.zero_le _) I2 j rfl rfl
theorem rx_call {A : Around} {g : List Code} {E : Value → Shared → Prop} {Q : Value → Shared → Prop} {a : Addr} {xs : List V} {ts : List Str} {pins : List (Addr × Obj)} {σ : St} {s : Shared} {H : Hp} (hfr : A.frames = some X.stack) (hg : A.guards = some g) (hcl : Clr g fun c => c = a ∨ B c) (hna : ¬ B a) (hr : RmX X.pn (k + 1) A) (I : Inv X pins σ H s) (j : J H) (hJ : ∀ H, J H → H a = some (.lst xs)) (hne : xs ≠ [])
    (hlen : ts.length = xs.length) (hT : ∀ (i : Nat) (v : V), xs[i]? = some v → ∃ t, ts[i]? = some t ∧ Sx X k J B v t) (hsz : (listText ts).length ≤ sizeLine)
    (hR : ∀ s' H' u, Inv X pins σ H' s' → J H' → Q (.str (listText ts) u) s') : wpAny (model X.prog X.w) A (call (.builtin "list.__repr__") [.ref a]) Q E s := by
  obtain ⟨_, its, nn, rv, ha⟩ := (show ObjOk X.prog X.w H s.heap a (.lst xs) from I.hok a _ (hJ H j))
  exact wpAny_call (codeAny_call_builtin F.slot_list_repr.plain F.entry_list_repr (F.slot_list_repr.check _ _ _ _ _ _ _ _ ⟨_, ha, rfl⟩ (F.args_list_repr_1 _)
    (rx_at (R := callEnd Q E) (b := 0) hfr hg hcl hna hr I j hJ hne hlen hT (by omega) hR)))
/-- a list -/
theorem sx_list {a : Addr} {xs : List V} {ts : List Str} (hJ : ∀ H, J H → H a = some (.lst xs)) (hne : xs ≠ []) (hna : ¬ B a) (hlen : ts.length = xs.length) (hT : ∀ (i : Nat) (v : V), xs[i]? = some v → ∃ t, ts[i]? = some t ∧ Sx X k J B v t) :
    Sx X (k + 1) J (fun c => c = a ∨ B c) (.ref a) (listText ts) :=
  ⟨fun A' g pins s σ H u b E Q hf hg hc hr I j r hb q => by
    obtain rfl : u = Value.ref a := r
    obtain ⟨_, its, nn, rv, ha⟩ := (show ObjOk X.prog X.w H s.heap a (.lst xs) from I.hok a _ (hJ H j))
    refine wpAny_pyReprUnder_ref (by omega) (wpAny_pyReprObjUnder_twin (twin := "list.__repr__.under") ⟨_, ha, rfl⟩ F.slot_list_repr.toG rfl hr.units0 ?_)
    exact call_twin_plain F.plain_list_repr_under F.entry_list_repr_under F.check_list_repr_under ⟨_, ha, rfl⟩ F.slot_list_repr.toG (F.args_list_repr_1 _)
      (rx_at (R := callEnd _ E) (b := b) hf hg hc hna hr I j hJ hne hlen hT hb fun s' H' u I' j' => ⟨⟨_, _, rfl⟩, _, _, rfl, q s' H' I' j'⟩),
  fun A' g pins s σ H u E Q hf hg hc hr I j r hb q => by
    obtain rfl : u = Value.ref a := r
    obtain ⟨_, its, nn, rv, ha⟩ := (show ObjOk X.prog X.w H s.heap a (.lst xs) from I.hok a _ (hJ H j))
    have hTy : s.TypeIs (.ref a) "list" := ⟨_, ha, rfl⟩
    unfold pyReprObj
    refine wpAny_bind (wpAny_cRoomFor hr.units0 ?_)
    refine wpAny_bind (wpAny_specialOf (name := Str.ofString "__repr__") hTy F.slot_list_repr.lookup ?_)
    refine wpAny_bind (m := callSpecialIfBound? (.ref a) (Str.ofString "__repr__")) (wpAny_callSpecialIfBound?_slot (name := Str.ofString "__repr__") hTy F.slot_list_repr ?_)
    refine rx_call hf hg hc hna hr I j hJ hne hlen hT hb fun s' H' u I' j' => ?_
    exact wpAny_bind (wpAny_isInstance (T := "str") (b := true) rfl isSubtype_str_str (wpAny_pure (q s' H' u I' j'))),
  fun A' g pins s σ H u E Q hf hg hc hr I j r hb q => by
    obtain rfl : u = Value.ref a := r
    obtain ⟨_, its, nn, rv, ha⟩ := (show ObjOk X.prog X.w H s.heap a (.lst xs) from I.hok a _ (hJ H j))
    refine call_repr_slot (by have := hr.un; omega) ⟨_, ha, rfl⟩ F.slot_list_repr.toG ?_
    exact rx_call (A := A'.in1) hf hg hc hna hr.in1' I j hJ hne hlen hT hb fun s' H' u I' j' => ⟨_, _, rfl, q s' H' u I' j'⟩⟩
end
inductive SxAll (X : Cx) (k : Nat) (J : Hp → Prop) (B : Addr → Prop) : List V → List Str → Prop
  | nil : SxAll X k J B [] []
  | cons {v : V} {t : Str} {vs : List V} {ts : List Str} : Sx X k J B v t → SxAll X k J B vs ts → SxAll X k J B (v :: vs) (t :: ts)
theorem SxAll.length {X : Cx} {k : Nat} {J : Hp → Prop} {B : Addr → Prop} : ∀ {vs : List V} {ts : List Str}, SxAll X k J B vs ts → ts.length = vs.length
  | _, _, .nil => rfl
  | _, _, .cons _ h => by simp [h.length]
theorem SxAll.at_ {X : Cx} {k : Nat} {J : Hp → Prop} {B : Addr → Prop} : ∀ {vs : List V} {ts : List Str}, SxAll X k J B vs ts → ∀ (i : Nat) (v : V), vs[i]? = some v → ∃ t, ts[i]? = some t ∧ Sx X k J B v t
  | _, _, .nil, i, v, h => by simp at h
  | _, _, .cons h r, 0, v, e => by
    obtain rfl := Option.some.inj e
    exact ⟨_, rfl, h⟩
  | _, _, .cons h r, i + 1, v, e => r.at_ i v (by simpa using e)
theorem SxAll.mono {X : Cx} {j k : Nat} {J : Hp → Prop} {B B' : Addr → Prop} (h : j ≤ k) (hB : ∀ b, B b → B' b) : ∀ {vs : List V} {ts : List Str}, SxAll X j J B vs ts → SxAll X k J B' vs ts
  | _, _, .nil => .nil
  | _, _, .cons a r => .cons (a.mono h hB) (r.mono h hB)
section
variable {X : Cx} {k : Nat} {J : Hp → Prop} {B : Addr → Prop}
theorem ty_fold {A : Around} {g : List Code} {E : Value → Shared → Prop} {pins : List (Addr × Obj)} {σ : St} (hfr : A.frames = some X.stack) (hg : A.guards = some g) (hcl : Clr g B) (hr : RmX X.pn k A) :
    ∀ (vs : List V) (us : List Value) (ts : List Str) (acc : Array Str) (n : Nat) (s : Shared) (H : Hp) (Q : (Array Str × Nat) → Shared → Prop), Vals vs us → SxAll X k J B vs ts → n + piled ts ≤ sizeLine → Inv X pins σ H s → J H →
    (∀ s' H', Inv X pins σ H' s' → J H' → Q ⟨acc ++ ts.toArray, n + piled ts⟩ s') → wpAny (model X.prog X.w) A (forIn us (⟨acc, n⟩ : (Array Str × Nat)) tupBody) Q E s := by
  intro vs
  induction vs with
  | nil =>
    intro us ts acc n s H Q rv hT _ I j h
    cases rv
    cases hT
    have h0 := h s H I j
    simp only [List.forIn_nil]
    exact wpAny_pure (by simpa [piled] using h0)
  | cons x l ih =>
    intro us ts acc n s H Q rv hT hn I j h
    cases rv with
    | cons r rr =>
      cases hT with
      | cons hx hl =>
        rename_i t ts'
        rw [piled_cons] at hn
        rw [List.forIn_cons]
        refine wpAny_bind (wpAny_bind (hx.under _ _ pins s σ H _ (n + 1) _ _ hfr hg hcl hr I j r (by omega) fun s1 H1 I1 j1 => wpAny_pure ?_))
        refine ih _ ts' (acc.push t) (n + (t.length + 2)) _ H1 Q rr hl (by omega) I1 j1 fun s2 H2 I2 j2 => ?_
        have h1 := h s2 H2 I2 j2
        have e : n + piled (t :: ts') = n + (t.length + 2) + piled ts' := by rw [piled_cons]; omega
        rw [e] at h1
        simpa using h1
theorem ty_at {A : Around} {g : List Code} {R : Result → Shared → Prop} {a : Addr} {xs : List V} {ts : List Str} {b : Nat} {pins : List (Addr × Obj)} {σ : St} {s : Shared} {H : Hp} {id : String} {rest : List Value}
    (hcg : (Code.builtin id ⟨.ref a :: rest, []⟩).isGuard = true) (hru : RmX X.pn k (A.under (.builtin id ⟨.ref a :: rest, []⟩))) (hfu : (A.under (.builtin id ⟨.ref a :: rest, []⟩)).frames = some X.stack) (hg : A.guards = some g) (hcl : Clr g fun c => c = a ∨ B c) (hna : ¬ B a) (I : Inv X pins σ H s) (j : J H) (hJ : ∀ H, J H → H a = some (.tup xs))
    (hT : SxAll X k J B xs ts) (hsz : b + (tupleText ts).length ≤ sizeLine) (hR : ∀ s' H' u, Inv X pins σ H' s' → J H' → R (.ok (.ret (.str (tupleText ts) u))) s') :
    wpOwn (model X.prog X.w) A (.builtin id ⟨.ref a :: rest, []⟩) (Builtin.tupleReprAt b ⟨[.ref a], []⟩) (fun fin s' => match fin with | .done f => R (.ok f) s' | .again c' => c'.quiet = true ∧ codeAny (model X.prog X.w) A c' R s') (fun e s' => R (.error e) s') s := by
  obtain ⟨_, its, rv, ob, ha, hc, hd⟩ := (show ObjOk X.prog X.w H s.heap a (.tup xs) from I.hok a _ (hJ H j))
  obtain ⟨n, hd⟩ := hd
  have hca : Clear g a := hcl a (.inl rfl)
  have hlen : ts.length = its.toArray.size := by rw [hT.length, rv.length]; simp
  have hp := piled_le_tupleText ts
  have hsz0 := Nat.le_trans (Nat.le_add_left (tupleText ts).length b) hsz
  rw [tuple_repr_tree, tupleReprUnderWay_eq]
  refine wpOwn_bind (wpOwn_stackTailAny hg (tupGuardF_off _) (tupGuardF_pos _) ?_)
  have away : (g.any fun c => tupGuardF (.ref a) (c, default)) = false := List.any_eq_false.mpr fun c hcm => by simp [tupGuardF_of_clear hca c hcm]
  rw [away]
  refine wpOwn_of_wpAny ?_
  show wpAny _ _ (tupleReprRest b (.ref a)) _ _ s
  unfold tupleReprRest Builtin.Tuple.tupleItemsOf
  refine wpAny_bind (wpAny_bind (wpAny_seqItems ha hd (wpAny_pure ?_)))
  rw [← Array.forIn_toList]
  refine wpAny_bind (ty_fold (pins := pins) (σ := σ) hfu (guards_under_guard hcg hg) (fun c hc => (hcl c (.inr hc)).cons (a := a) fun e => hna (e ▸ hc)) hru xs _ ts _ _ _ H _ rv hT (by omega) I j fun s1 H1 I1 j1 => ?_)
  refine wpAny_bind (wpAny_mkStr (wpAny_pure ?_) (by simpa [tupleText, hlen] using hsz0))
  have h1 := hR { s1 with toks := s1.toks + 1 } H1 s1.toks (I1.tok _) j1
  simpa [tupleText, hlen] using h1
end
section
variable {X : Cx} {k : Nat} {J : Hp → Prop} {B : Addr → Prop}
/-- a tuple -/
theorem sx_tup {a : Addr} {xs : List V} {ts : List Str} (hJ : ∀ H, J H → H a = some (.tup xs)) (hna : ¬ B a) (hT : SxAll X k J B xs ts) : Sx X (k + 1) J (fun c => c = a ∨ B c) (.ref a) (tupleText ts) :=
  ⟨fun A' g pins s σ H u b E Q hf hg hc hr I j r hb q => by
    obtain rfl : u = Value.ref a := r
    obtain ⟨_, its, rv, ob, ha, hcl, hd⟩ := (show ObjOk X.prog X.w H s.heap a (.tup xs) from I.hok a _ (hJ H j))
    refine wpAny_pyReprUnder_ref (by omega) (wpAny_pyReprObjUnder_twin (twin := "tuple.__repr__.under") ⟨_, ha, hcl⟩ F.slot_tuple_repr rfl hr.units0 ?_)
    exact call_twin_own (F.quiet_tuple_repr_under _) F.entry_tuple_repr_under F.check_tuple_repr_under ⟨_, ha, hcl⟩ F.slot_tuple_repr (F.args_tuple_repr_1 _)
      (ty_at (R := callEnd _ E) (b := b) (isGuard_tuple_repr_under _) (hr.tu _) (by rw [tu_frames]; exact hf) hg hc hna I j hJ hT hb fun s' H' u I' j' => ⟨⟨_, _, rfl⟩, _, _, rfl, q s' H' I' j'⟩),
  fun A' g pins s σ H u E Q hf hg hc hr I j r hb q => by
    obtain rfl : u = Value.ref a := r
    obtain ⟨_, its, rv, ob, ha, hcl, hd⟩ := (show ObjOk X.prog X.w H s.heap a (.tup xs) from I.hok a _ (hJ H j))
    have hTy : s.TypeIs (.ref a) "tuple" := ⟨_, ha, hcl⟩
    unfold pyReprObj
    refine wpAny_bind (wpAny_cRoomFor hr.units0 ?_)
    refine wpAny_bind (wpAny_specialOf (name := Str.ofString "__repr__") hTy F.slot_tuple_repr.lookup ?_)
    refine wpAny_bind (m := callSpecialIfBound? (.ref a) (Str.ofString "__repr__")) (wpAny_callSpecialIfBound?_slotG (name := Str.ofString "__repr__") hTy F.slot_tuple_repr ?_)
    refine wpAny_call (codeAny_call_builtin_own (Code.quiet_builtin _ (by decide +kernel)) F.entry_tuple_repr (F.slot_tuple_repr.check _ _ _ _ _ _ _ _ hTy (F.args_tuple_repr_1 _)
      (ty_at (R := callEnd _ E) (b := 0) (isGuard_tuple_repr _) (hr.tr _) (by rw [tr_frames]; exact hf) hg hc hna I j hJ hT (by omega) fun s' H' u I' j' => ?_)))
    exact wpAny_bind (wpAny_isInstance (T := "str") (b := true) rfl isSubtype_str_str (wpAny_pure (q s' H' u I' j'))),
  fun A' g pins s σ H u E Q hf hg hc hr I j r hb q => by
    obtain rfl : u = Value.ref a := r
    obtain ⟨_, its, rv, ob, ha, hcl, hd⟩ := (show ObjOk X.prog X.w H s.heap a (.tup xs) from I.hok a _ (hJ H j))
    have hTy : s.TypeIs (.ref a) "tuple" := ⟨_, ha, hcl⟩
    refine call_repr_slot (by have := hr.un; omega) hTy F.slot_tuple_repr ?_
    exact wpAny_call (codeAny_call_builtin_own (Code.quiet_builtin _ (by decide +kernel)) F.entry_tuple_repr (F.slot_tuple_repr.check _ _ _ _ _ _ _ _ hTy (F.args_tuple_repr_1 _)
      (ty_at (A := A'.in1) (R := callEnd _ E) (b := 0) (isGuard_tuple_repr _) (hr.in1'.tr _) (by rw [tr_frames]; exact hf) hg hc hna I j hJ hT (by omega) fun s' H' u I' j' => ⟨_, _, rfl, q s' H' u I' j'⟩)))⟩
/-- the empty dict -/
theorem sx_d0 {a : Addr} (hJ : ∀ H, J H → H a = some (.dK [])) (hB : B a) : Sx X (k + 1) J B (.ref a) (dictText []) :=
  ⟨fun A' g pins s σ H u b E Q hf hg hc hr I j r hb q => by
    obtain rfl : u = Value.ref a := r
    obtain ⟨_, hS, vs, rv, ob, es, ep, ha, hx, hd, hk, hp, hnd⟩ := (show ObjOk X.prog X.w H s.heap a (.dK []) from I.hok a _ (hJ H j))
    cases rv
    have he : es.toList = [] := by cases hes : es.toList with | nil => rfl | cons a b => rw [hes] at hp; cases hp
    refine (ReprK.dict (as := []) (h₀ := s.heap) (d := 0) ha hx.1 hd hS (by simp) (by rw [he]; exact .nil)) b hb A' g E s Q hg (fun c hc' => hc c (by rw [List.mem_singleton.mp hc']; exact hB)) (by have := hr.un; omega) (fun _ _ e => e) fun h' tk hkp => ?_
    exact q _ H (I.kept hkp) j,
  fun A' g pins s σ H u E Q hf hg hc hr I j r hb q => by
    obtain rfl : u = Value.ref a := r
    obtain ⟨_, hS, vs, rv, ob, es, ep, ha, hx, hd, hk, hp, hnd⟩ := (show ObjOk X.prog X.w H s.heap a (.dK []) from I.hok a _ (hJ H j))
    cases rv
    have he : es.toList = [] := by cases hes : es.toList with | nil => rfl | cons a b => rw [hes] at hp; cases hp
    refine wpAny_pyReprObj_dictK (as := []) (h₀ := s.heap) (d := 0) ha hx.1 hd hS (by simp) (by rw [he]; exact .nil) hg (fun c hc' => hc c (by rw [List.mem_singleton.mp hc']; exact hB)) (by have := hr.un; omega) (fun _ _ e => e) (fun h' u tk hkp => ?_) hb
    exact q _ H _ (I.kept hkp) j,
  fun A' g pins s σ H u E Q hf hg hc hr I j r hb q => by
    obtain rfl : u = Value.ref a := r
    obtain ⟨_, hS, vs, rv, ob, es, ep, ha, hx, hd, hk, hp, hnd⟩ := (show ObjOk X.prog X.w H s.heap a (.dK []) from I.hok a _ (hJ H j))
    cases rv
    have he : es.toList = [] := by cases hes : es.toList with | nil => rfl | cons a b => rw [hes] at hp; cases hp
    refine call_repr_slot (by have := hr.un; omega) ⟨_, ha, hx.1⟩ F.slot_dict_repr ?_
    refine call_dict_reprK (A := A'.in1) (as := []) (h₀ := s.heap) (d := 0) ha hx.1 hd hS (by simp) (by rw [he]; exact .nil) hg (fun c hc' => hc c (by rw [List.mem_singleton.mp hc']; exact hB)) (by have := hr.un; show A'.units + 1 + 1 < cLine; omega) (fun _ _ e => e) (fun h' u tk hkp => ?_) hb
    exact ⟨_, _, rfl, q _ H _ (I.kept hkp) j⟩⟩
/-- repr(v) -/
theorem call_sx (gd : X.A.guards = some []) (hr : RmX X.pn (k + 1) X.A) : CallR X (.builtin "repr") (fun us H Q => ∃ (v : V) (t : Str) (J : Hp → Prop) (B : Addr → Prop), us = [v] ∧ J H ∧ Sx X k J B v t ∧ t.length ≤ sizeLine ∧ ∀ H', J H' → Q (.str t) H') := by
  intro pins s σ H xs us Q I r h
  obtain ⟨v, t, J, B, rfl, j, S, hz, q⟩ := h
  obtain ⟨u, rfl, ru⟩ := vals1 r
  exact S.call X.A [] pins s σ H u _ _ I.ok.frames gd (Clr.nil _) hr I j ru hz fun s' H' tk I' j' => ⟨.str t, H', I', ⟨tk, rfl⟩, q H' j'⟩
/-- {e!r} -/
def tFmtX (X : Cx) (k : Nat) (te : TE) : TE := fun σ H Q => te σ H fun v H1 => ∃ (t : Str) (J : Hp → Prop) (B : Addr → Prop), J H1 ∧ Sx X k J B v t ∧ t.length ≤ sizeLine ∧ ∀ H', J H' → Q (.str t) H'
theorem pe_fmtX {e : Expr} {te : TE} {pos : Pos} (gd : X.A.guards = some []) (hr : RmX X.pn k X.A) (he : PE X e te) : PE X (.FormattedValue e 114 none pos) (tFmtX X k te) := by
  refine ⟨fun pins s σ H Q I h => ?_⟩
  refine wpAny_FormattedValue_repr (thn (he.run pins s σ H _ I h) fun u s1 ⟨v, H1, I1, rv, t, J, B, j, S, hz, q⟩ => ?_)
  refine S.obj X.A [] pins s1 σ H1 u _ _ I.ok.frames gd (Clr.nil _) hr I1 j rv hz fun s' H' tk I' j' => ?_
  exact wpAny_formatField_str ⟨.str t, H', I'.tok _, ⟨_, rfl⟩, q H' j'⟩ ⟨.str t, H', I'.tok _, ⟨_, rfl⟩, q H' j'⟩ hz
end
end L2

namespace S11
open PySem L2 GM
/-! ### values that are none of what is asked, and how they are shown -/
abbrev itx (i : Int) : Str := ((toString i : String) : Str)
theorem log_lt {n m : Nat} (h : n < 2 ^ m) (h0 : 0 < m) : n.log2 < m := by
  by_cases hn : n = 0
  · subst hn; exact h0
  · exact (Nat.log2_lt hn).mpr h
theorem itx_log {i : Int} (h : i.natAbs < 2 ^ 200) : i.natAbs.log2 < 1920 := Nat.lt_trans (log_lt h (by decide)) (by decide)
theorem itx_len {i : Int} (h : i.natAbs < 2 ^ 200) : (itx i).length ≤ 2000 := by
  have := PyProof.Rows.int_text_len_1921 (i := i) (itx_log h)
  exact Nat.le_trans this (by decide)
inductive Prt (H : Hp) : V → String → Str → Prop where
  | non : Prt H .non "NoneType" "None"
  | bl (b : Bool) : Prt H (.bl b) "bool" (if b then "True" else "False")
  | int {i : Int} (h : i.natAbs < 2 ^ 200) : Prt H (.int i) "int" (itx i)
  | str {x : Str} (h : (reprText x).length ≤ 200 ∧ x.length ≤ 100) : Prt H (.str x) "str" (reprText x)
  | nil {a : Addr} (e : H a = some (.lst [])) : Prt H (.ref a) "list" "[]"
  | d0 {a : Addr} (e : H a = some (.dK [])) : Prt H (.ref a) "dict" (dictText [])
  | one {a : Addr} (e : H a = some (.tup [.int 0])) : Prt H (.ref a) "tuple" (tupleText [itx 0])
inductive Prts (H : Hp) : List V → List Str → Prop where
  | nil : Prts H [] []
  | cons {v : V} {T : String} {t : Str} {vs : List V} {ts : List Str} : Prt H v T t → Prts H vs ts → Prts H (v :: vs) (t :: ts)
inductive Odd (H : Hp) : V → String → Str → Prop where
  | prt {v : V} {T : String} {t : Str} (p : Prt H v T t) : Odd H v T t
  | row {a : Addr} {vs : List V} {ts : List Str} (e : H a = some (.tup vs)) (p : Prts H vs ts) (few : vs.length ≤ 5) : Odd H (.ref a) "tuple" (tupleText ts)
  | lst {a : Addr} {vs : List V} {ts : List Str} (e : H a = some (.lst vs)) (ne : vs ≠ []) (p : Prts H vs ts) (few : vs.length ≤ 5) : Odd H (.ref a) "list" (listText ts)
theorem Prts.len {H : Hp} {vs : List V} {ts : List Str} (h : Prts H vs ts) : ts.length = vs.length := by
  induction h with
  | nil => rfl
  | cons _ _ ih => simp [ih]
/-- any way of keeping the objects -/
theorem Prt.keep {H G : Hp} (k : ∀ a o, H a = some o → (o = .lst [] ∨ o = .dK [] ∨ o = .tup [.int 0]) → G a = some o) {v : V} {T : String} {t : Str} (h : Prt H v T t) : Prt G v T t := by
  cases h with
  | non => exact .non
  | bl b => exact .bl b
  | int h => exact .int h
  | str h => exact .str h
  | nil e => exact .nil (k _ _ e (.inl rfl))
  | d0 e => exact .d0 (k _ _ e (.inr (.inl rfl)))
  | one e => exact .one (k _ _ e (.inr (.inr rfl)))
theorem Prts.keep {H G : Hp} (k : ∀ a o, H a = some o → (o = .lst [] ∨ o = .dK [] ∨ o = .tup [.int 0]) → G a = some o) {vs : List V} {ts : List Str} (h : Prts H vs ts) : Prts G vs ts := by
  induction h with
  | nil => exact .nil
  | cons p _ ih => exact .cons (p.keep k) ih
theorem Odd.keep {H G : Hp} {v : V} {T : String} {t : Str} (k : ∀ a o, H a = some o → (o = .lst [] ∨ o = .dK [] ∨ o = .tup [.int 0]) → G a = some o) (k2 : ∀ a vs, H a = some (.tup vs) → G a = some (.tup vs)) (k3 : ∀ a vs, v = .ref a → H a = some (.lst vs) → G a = some (.lst vs)) (h : Odd H v T t) : Odd G v T t := by
  cases h with
  | prt p => exact .prt (p.keep k)
  | row e p few => exact .row (k2 _ _ e) (p.keep k) few
  | lst e ne p few => exact .lst (k3 _ _ rfl e) ne (p.keep k) few
theorem Odd.same {H G : Hp} {v : V} {T : String} {t : Str} (s : Same H G) (h : Odd H v T t) : Odd G v T t := h.keep (fun a o e _ => s a o e) (fun a vs e => s a _ e) (fun a vs _ e => s a _ e)
theorem Odd.x {H G : Hp} {l : Addr} {v : V} {T : String} {t : Str} (p : PotAt H l) (s : SameX l H G) (ne : v ≠ .ref l) (h : Odd H v T t) : Odd G v T t := by
  obtain ⟨x, y, e, _⟩ := p
  have off : ∀ a o, H a = some o → o ≠ .lst [.int x, .int y] → a ≠ l := fun a o ea no q => by
    rw [q, e] at ea
    exact no (Option.some.inj ea).symm
  refine h.keep (fun a o ea c => s a o (off a o ea ?_) ea) (fun a vs ea => s a _ (off a _ ea (fun z => by cases z)) ea) (fun a vs q ea => s a _ (fun z => ne (by rw [q, z])) ea)
  rcases c with rfl | rfl | rfl <;> exact fun z => by cases z
theorem Prt.len {H : Hp} {v : V} {T : String} {t : Str} (h : Prt H v T t) : t.length ≤ 2000 := by
  cases h with
  | non => decide
  | bl b => cases b <;> decide
  | int h => exact itx_len h
  | str h =>
    have := h.1
    omega
  | nil e => decide
  | d0 e => decide +kernel
  | one e => decide +kernel
theorem Prts.sum {H : Hp} {vs : List V} {ts : List Str} (h : Prts H vs ts) : (ts.map (·.length)).sum ≤ 2000 * ts.length := by
  induction h with
  | nil => exact Nat.le_refl _
  | cons p _ ih =>
    have := p.len
    rw [List.map_cons, List.sum_cons, List.length_cons]
    omega
theorem Odd.len {H : Hp} {v : V} {T : String} {t : Str} (h : Odd H v T t) : t.length ≤ 20000 := by
  cases h with
  | prt p =>
    have := p.len
    omega
  | @row a vs ts e p few =>
    have a := tupleText_len_le ts
    have b := p.sum
    have c := p.len
    omega
  | @lst a vs ts e ne p few =>
    have a := listText_len_le ts
    have b := p.sum
    have c := p.len
    omega
theorem Prt.sg {X : Cx} {H : Hp} {v : V} {T : String} {t : Str} (h : Prt H v T t) : Sg X 1 (fun G => G = H) (fun c => v = .ref c) v t := by
  cases h with
  | non => exact sg_non
  | bl b => exact sg_bl
  | int h => exact sg_int (itx_log h)
  | str h => exact sg_str (Nat.le_trans h.1 (by rw [sizeLine_eq]; decide))
  | nil e => exact sg_nil (fun G j => by rw [j]; exact e)
  | d0 e => exact sg_d0 (k := 0) (fun G j => by rw [j]; exact e) rfl
  | @one a e => exact (sg_tup (k := 0) (B := fun _ => False) (fun G j => by rw [j]; exact e) id (.cons (sg_int (by decide)) .nil)).mono (Nat.le_refl _) (fun c hc => by rcases hc with rfl | z; exact rfl; exact z.elim)
theorem Prts.sg {X : Cx} {H : Hp} {vs : List V} {ts : List Str} (h : Prts H vs ts) : SgAll X 1 (fun G => G = H) (fun c => .ref c ∈ vs) vs ts := by
  induction h with
  | nil => exact .nil
  | @cons v T t vs ts p _ ih => exact .cons (p.sg.mono (Nat.le_refl _) fun c e => by rw [e]; exact List.mem_cons_self) (ih.mono (Nat.le_refl _) fun c e => List.mem_cons_of_mem _ e)
/-- a part that is an object is no row, and no list with items -/
theorem Prts.at_ {H : Hp} {vs : List V} {ts : List Str} (h : Prts H vs ts) {c : Addr} (m : V.ref c ∈ vs) : H c = some (.lst []) ∨ H c = some (.dK []) ∨ H c = some (.tup [.int 0]) := by
  induction h with
  | nil => exact absurd m List.not_mem_nil
  | cons p _ ih =>
    rcases List.mem_cons.mp m with e | m
    · cases p with
      | non => cases e
      | bl b => cases e
      | int h => cases e
      | str h => cases e
      | nil a => cases e; exact .inl a
      | d0 a => cases e; exact .inr (.inl a)
      | one a => cases e; exact .inr (.inr a)
    · exact ih m
theorem Odd.sg {X : Cx} {H : Hp} {v : V} {T : String} {t : Str} (h : Odd H v T t) : ∃ B : Addr → Prop, (∀ c, B c → H c ≠ none) ∧ Sg X 2 (fun G => G = H) B v t := by
  cases h with
  | @prt v T t p =>
    refine ⟨_, fun c e => ?_, p.sg.mono (by decide) fun _ e => e⟩
    have := (Prts.cons p .nil).at_ (c := c) (by rw [e]; exact List.mem_cons_self)
    rcases this with z | z | z <;> rw [z] <;> exact fun q => by cases q
  | @row a vs ts e p few =>
    refine ⟨_, fun c z => ?_, sg_tup (k := 1) (fun G j => by rw [j]; exact e) (fun m => ?_) p.sg⟩
    · rcases z with rfl | m
      · rw [e]; exact fun q => by cases q
      · rcases p.at_ m with z | z | z <;> rw [z] <;> exact fun q => by cases q
    · rcases p.at_ m with z | z | z
      · rw [e] at z; cases z
      · rw [e] at z; cases z
      · rw [e] at z
        cases z
        cases List.mem_singleton.mp m
  | @lst a vs ts e ne p few =>
    refine ⟨fun c => c = a ∨ .ref c ∈ vs, fun c z => ?_, sg_list (k := 1) (fun G j => by rw [j]; exact e) ne (fun m => ?_) p.len fun i u hu => (p.sg (X := X)).at_ i u hu⟩
    · rcases z with rfl | m
      · rw [e]; exact fun q => by cases q
      · rcases p.at_ m with z | z | z <;> rw [z] <;> exact fun q => by cases q
    · rcases p.at_ m with z | z | z
      · rw [e] at z
        cases z
        exact absurd m List.not_mem_nil
      · rw [e] at z; cases z
      · rw [e] at z; cases z
theorem Prt.ty {K : PySem.W.Frag} {H : Hp} {v : V} {T : String} {t : Str} (h : Prt H v T t) : TyX K H v (.type T) := by
  cases h with
  | non => exact .base .non
  | bl b => exact .base (.bl b)
  | int h => exact .base (.int _)
  | str h => exact .base (.str _)
  | nil e => exact .base (.lst e)
  | d0 e => exact .base (.dK e)
  | one e => exact .base (.tup e)
theorem Odd.ty {K : PySem.W.Frag} {H : Hp} {v : V} {T : String} {t : Str} (h : Odd H v T t) : TyX K H v (.type T) := by
  cases h with
  | prt p => exact p.ty
  | row e p few => exact .base (.tup e)
  | lst e ne p few => exact .base (.lst e)
/-- the seven types -/
def T7 : List String := ["NoneType", "bool", "int", "str", "list", "dict", "tuple"]
theorem Prt.t7 {H : Hp} {v : V} {T : String} {t : Str} (h : Prt H v T t) : T ∈ T7 := by cases h <;> decide
theorem Odd.t7 {H : Hp} {v : V} {T : String} {t : Str} (h : Odd H v T t) : T ∈ T7 := by
  cases h with
  | prt p => exact p.t7
  | row e p few => decide
  | lst e ne p few => decide
theorem kit7 {K : PySem.W.Frag} (U : String) (b : String → Bool) (h : ∀ T ∈ T7, PySem.W.kitOne K (.type T) (.type U) = some (b T)) {H : Hp} {v : V} {T : String} {t : Str} (o : Odd H v T t) : PySem.W.kitOne K (.type T) (.type U) = some (b T) := h T o.t7
end S11

namespace S11
open PySem L2 GM
abbrev fV : Str := "value"
section
variable {P : Program} {w : World} {K : PySem.W.Frag} {mg : Str → Option Value} {base : Heap}
/-! ### the errors that keep a value -/
def spIV (D : Addr) : Sp := fun vs H Q _ => ∃ (a : Addr) (v : V) (T : String) (t : Str), vs = [.ref a, v] ∧ H a = some (exo a D none) ∧ Odd H v T t ∧
  ∀ dx, H dx = none → dx ≠ a → Q .non (upd (upd H dx (exd dx [(fV, v)])) a (exo a D (some dx)))
def niArg : Arg := ((defArgs sINInit).posonlyargs ++ (defArgs sINInit).args).headD (Arg.mk "" none ⟨0, 0, 0, 0⟩)
theorem ni_len : (("not a name: " : Str)).length = 12 := rfl
theorem ok_ni {f D cc : Addr} {cd1 : Option Addr} {sl1 : Array (Option Value)} {kV doc pm cdv ct : Value} {an : Option Addr} (hcd : PySem.W.codeIn K cdv "InvalidName.__init__" = true) (hcc : K.lookup cc = some ⟨.type "cell", cd1, .cell (some (.ref D)), sl1⟩)
    (T : SupK "ValueError" "ValueError.__new__" "ValueError.__init__" veTail P K mg D f (fnC "__init__" "InvalidName.__init__" (defArgs sINInit) (defBody sINInit) (defScope sINInit) .none kV doc pm an cdv ct cc) niArg)
    (O : OexC K D) (hno : PySem.W.findIn K (.ref D) "value" = some none) :
    FnG P w K mg base CX0 3 f (fnC "__init__" "InvalidName.__init__" (defArgs sINInit) (defBody sINInit) (defScope sINInit) .none kV doc pm an cdv ct cc) ["self", "value"] (spIV D) := by
  refine fn_sup (k := 2) (N := ["self", "value"]) ⟨rfl, rfl, rfl, by decide, rfl, by show ∀ x ∈ [("self" : Str), "value"], (defScope sINInit).names.lookup x = some .local; decide +kernel, by show ∀ y ∈ (defScope sINInit).names, y.2 ≠ .cell; decide +kernel, by show ∀ y ∈ (defScope sINInit).names, y.2 = .free → y.1 = ("__class__" : Str); decide +kernel, rfl, rfl, rfl, rfl, rfl⟩ hcc F.excBase_ValueError PySem.W.kxs_ValueError T rfl hcd rfl (fun vs H Q E h => ?_) (fun env => rfl) (fun env => rfl) (fun L => rfl) (fun L => rfl) (fun A outer s H vs Q E gd hr h => ?_)
  · obtain ⟨a, v, T, t, rfl, _⟩ := h
    rfl
  · obtain ⟨a, v, T, t, rfl, ha, od, q⟩ := h
    refine ⟨a, _, _, rfl, ha, pa_cons (pe_joined (PJ.cons pe_str (PJ.cons (pe_fmtG (k := 2) (deeper_guards.trans gd) hr (pv 1)) PJ.nil))) pa_nil, pss_one (ps_ost (pv 0) (pv 1)), ?_⟩
    have sl : sizeLine = 16777216 := sizeLine_eq
    have hl := od.len
    obtain ⟨B, _, sg⟩ := od.sg (X := cxS CX0 P w K mg base ["self", "value"] _ f A outer s H E)
    refine ⟨_, rfl, ?_, _, rfl, t, fun H' => H' = H, B, rfl, sg, by omega, fun H' j => ?_⟩
    · rw [strLen_append, e_len, ni_len, sl]; decide
    subst j
    refine ⟨_, rfl, ?_, by show 1 ≤ 1000; decide, ha, ?_⟩
    · show (Str.empty ++ ("not a name: " : Str) ++ t).length ≤ _
      rw [strLen_append, strLen_append, e_len, ni_len]; omega
    refine ⟨_, rfl, _, rfl, a, D, rfl, O, hno, .inl ⟨ha, q⟩⟩
def ciArg : Arg := ((defArgs sICInit).posonlyargs ++ (defArgs sICInit).args).headD (Arg.mk "" none ⟨0, 0, 0, 0⟩)
theorem ci_len : (("not a count that is allowed here: " : Str)).length = 34 := rfl
theorem ok_ci {f D cc : Addr} {cd1 : Option Addr} {sl1 : Array (Option Value)} {kV doc pm cdv ct : Value} {an : Option Addr} (hcd : PySem.W.codeIn K cdv "InvalidCount.__init__" = true) (hcc : K.lookup cc = some ⟨.type "cell", cd1, .cell (some (.ref D)), sl1⟩)
    (T : SupK "ValueError" "ValueError.__new__" "ValueError.__init__" veTail P K mg D f (fnC "__init__" "InvalidCount.__init__" (defArgs sICInit) (defBody sICInit) (defScope sICInit) .none kV doc pm an cdv ct cc) ciArg)
    (O : OexC K D) (hno : PySem.W.findIn K (.ref D) "value" = some none) :
    FnG P w K mg base CX0 3 f (fnC "__init__" "InvalidCount.__init__" (defArgs sICInit) (defBody sICInit) (defScope sICInit) .none kV doc pm an cdv ct cc) ["self", "value"] (spIV D) := by
  refine fn_sup (k := 2) (N := ["self", "value"]) ⟨rfl, rfl, rfl, by decide, rfl, by show ∀ x ∈ [("self" : Str), "value"], (defScope sICInit).names.lookup x = some .local; decide +kernel, by show ∀ y ∈ (defScope sICInit).names, y.2 ≠ .cell; decide +kernel, by show ∀ y ∈ (defScope sICInit).names, y.2 = .free → y.1 = ("__class__" : Str); decide +kernel, rfl, rfl, rfl, rfl, rfl⟩ hcc F.excBase_ValueError PySem.W.kxs_ValueError T rfl hcd rfl (fun vs H Q E h => ?_) (fun env => rfl) (fun env => rfl) (fun L => rfl) (fun L => rfl) (fun A outer s H vs Q E gd hr h => ?_)
  · obtain ⟨a, v, T, t, rfl, _⟩ := h
    rfl
  · obtain ⟨a, v, T, t, rfl, ha, od, q⟩ := h
    refine ⟨a, _, _, rfl, ha, pa_cons (pe_joined (PJ.cons pe_str (PJ.cons (pe_fmtG (k := 2) (deeper_guards.trans gd) hr (pv 1)) PJ.nil))) pa_nil, pss_one (ps_ost (pv 0) (pv 1)), ?_⟩
    have sl : sizeLine = 16777216 := sizeLine_eq
    have hl := od.len
    obtain ⟨B, _, sg⟩ := od.sg (X := cxS CX0 P w K mg base ["self", "value"] _ f A outer s H E)
    refine ⟨_, rfl, ?_, _, rfl, t, fun H' => H' = H, B, rfl, sg, by omega, fun H' j => ?_⟩
    · rw [strLen_append, e_len, ci_len, sl]; decide
    subst j
    refine ⟨_, rfl, ?_, by show 1 ≤ 1000; decide, ha, ?_⟩
    · show (Str.empty ++ ("not a count that is allowed here: " : Str) ++ t).length ≤ _
      rw [strLen_append, strLen_append, e_len, ci_len]; omega
    refine ⟨_, rfl, _, rfl, a, D, rfl, O, hno, .inl ⟨ha, q⟩⟩
def piArg : Arg := ((defArgs sIPInit).posonlyargs ++ (defArgs sIPInit).args).headD (Arg.mk "" none ⟨0, 0, 0, 0⟩)
theorem pi_len : (("not places that are allowed here: " : Str)).length = 34 := rfl
theorem ok_pi {f D cc : Addr} {cd1 : Option Addr} {sl1 : Array (Option Value)} {kV doc pm cdv ct : Value} {an : Option Addr} (hcd : PySem.W.codeIn K cdv "InvalidPlaces.__init__" = true) (hcc : K.lookup cc = some ⟨.type "cell", cd1, .cell (some (.ref D)), sl1⟩)
    (T : SupK "ValueError" "ValueError.__new__" "ValueError.__init__" veTail P K mg D f (fnC "__init__" "InvalidPlaces.__init__" (defArgs sIPInit) (defBody sIPInit) (defScope sIPInit) .none kV doc pm an cdv ct cc) piArg)
    (O : OexC K D) (hno : PySem.W.findIn K (.ref D) "value" = some none) :
    FnG P w K mg base CX0 3 f (fnC "__init__" "InvalidPlaces.__init__" (defArgs sIPInit) (defBody sIPInit) (defScope sIPInit) .none kV doc pm an cdv ct cc) ["self", "value"] (spIV D) := by
  refine fn_sup (k := 2) (N := ["self", "value"]) ⟨rfl, rfl, rfl, by decide, rfl, by show ∀ x ∈ [("self" : Str), "value"], (defScope sIPInit).names.lookup x = some .local; decide +kernel, by show ∀ y ∈ (defScope sIPInit).names, y.2 ≠ .cell; decide +kernel, by show ∀ y ∈ (defScope sIPInit).names, y.2 = .free → y.1 = ("__class__" : Str); decide +kernel, rfl, rfl, rfl, rfl, rfl⟩ hcc F.excBase_ValueError PySem.W.kxs_ValueError T rfl hcd rfl (fun vs H Q E h => ?_) (fun env => rfl) (fun env => rfl) (fun L => rfl) (fun L => rfl) (fun A outer s H vs Q E gd hr h => ?_)
  · obtain ⟨a, v, T, t, rfl, _⟩ := h
    rfl
  · obtain ⟨a, v, T, t, rfl, ha, od, q⟩ := h
    refine ⟨a, _, _, rfl, ha, pa_cons (pe_joined (PJ.cons pe_str (PJ.cons (pe_fmtG (k := 2) (deeper_guards.trans gd) hr (pv 1)) PJ.nil))) pa_nil, pss_one (ps_ost (pv 0) (pv 1)), ?_⟩
    have sl : sizeLine = 16777216 := sizeLine_eq
    have hl := od.len
    obtain ⟨B, _, sg⟩ := od.sg (X := cxS CX0 P w K mg base ["self", "value"] _ f A outer s H E)
    refine ⟨_, rfl, ?_, _, rfl, t, fun H' => H' = H, B, rfl, sg, by omega, fun H' j => ?_⟩
    · rw [strLen_append, e_len, pi_len, sl]; decide
    subst j
    refine ⟨_, rfl, ?_, by show 1 ≤ 1000; decide, ha, ?_⟩
    · show (Str.empty ++ ("not places that are allowed here: " : Str) ++ t).length ≤ _
      rw [strLen_append, strLen_append, e_len, pi_len]; omega
    refine ⟨_, rfl, _, rfl, a, D, rfl, O, hno, .inl ⟨ha, q⟩⟩
/-- what is known of such an error -/
structure Ive (P : Program) (w : World) (K : PySem.W.Frag) (mg : Str → Option Value) (base : Heap) (nm : Str) (D S : Addr) : Prop where
  cl : OexC K D
  mgD : mg nm = some (.ref D)
  ex : ∃ fI fd, PySem.W.findIn K (.ref D) "__init__" = some (some (.ref fI)) ∧ PySem.W.typeIn K (.ref fI) = some (.type "function") ∧ Binds K fd ["self", "value"] [] ∧ FnG P w K mg base CX0 3 fI fd ["self", "value"] (spIV D)
  me : PySem.W.exmOne K (.ref D) (.ref D) = some true
  xf : XfC K D
  no : PySem.W.findIn K (.ref D) "value" = some none
  ec : ExcC K D
  mgS : mg "SlotsumsError" = some (.ref S)
  ks : PySem.W.kitOne K (.ref D) (.ref S) = some true
end
theorem pmk_iv {X : Cx} {nm : Str} {D S : Addr} {e : Expr} {es : List Expr} {ta : TA} {p pos : Pos} (Z : Ive X.prog X.w X.K X.mg X.base nm D S) (gd : X.A.guards = some []) (hr : Room 4 X.A) (hg : Gl X nm) (ha : PA X (e :: es) ta) (hdb : (nm == ("__debug__" : Str)) = false := by decide)
    (he : starEach (e :: es) X.env = (false, eval e X.env) :: starEach es X.env := by rfl) (hpl : (backTo pos (starEach es X.env)).any (·.1) = false := by rfl) : L2.PMk X (.Call (.Name nm p) (e :: es) [] pos) (tMkO D (spIV D) [] ta) := by
  obtain ⟨fI, fd, h1, h2, h3, h4⟩ := Z.ex
  exact pmk_oexG (CX := CX0) Z.cl h1 h2 h4 gd hr h3 .nil pass0 hg Z.mgD ha hdb he hpl
/-- what is let out -/
def XW (D : Addr) (v : V) (H : Hp) (E : XK) : Prop := ∀ (H' : Hp) (d : Addr), Same H H' → H d = none → H' d = some (.xd [(fV, v)]) → E (.ref D) (some d) H'
theorem XW.same {D : Addr} {v : V} {H H' : Hp} {E : XK} (s : Same H H') (h : XW D v H E) : XW D v H' E := fun H2 d s2 hn e => h H2 d (Same.trans s s2) (s.free hn) e
theorem raisedW {D : Addr} {v : V} {T : String} {t : Str} {H H1 : Hp} {E : XK} (s1 : Same H H1) (od : Odd H v T t) (x : XW D v H E) : [v].length ≤ 1000 ∧ ∀ a, H1 a = none → spIV D (.ref a :: ([v] ++ [])) (upd H1 a (exo a D none))
  (fun r H2 => r = .non ∧ ∃ (d : Addr) (fs : List (Str × V)), H2 a = some (exo a D (some d)) ∧ H2 d = some (exd d fs) ∧ H1 d = none ∧ E (.ref D) (some d) (upd (del H2 a) d (.xd fs))) (fun _ _ _ => False) := by
  refine ⟨by show 1 ≤ 1000; decide, fun a ha => ⟨a, v, T, t, rfl, upd_same, od.same (sNew s1 ha), fun dx hdx ne => ⟨rfl, dx, [(fV, v)], upd_same, ?_, ?_, ?_⟩⟩⟩
  · rw [upd_ne ne]; exact upd_same
  · rw [upd_ne ne] at hdx; exact hdx
  · rw [upd_ne ne] at hdx
    refine x _ dx (fun b o hb => ?_) (s1.free hdx) upd_same
    have hb1 := s1 _ _ hb
    have n1 : b ≠ a := ne_of_none hb1 ha
    have n2 : b ≠ dx := ne_of_none hb1 hdx
    rw [upd_ne n2, del_ne n1, upd_ne n1, upd_ne n2, upd_ne n1]
    exact hb1
end S11

namespace S11
open PySem L2 GM
theorem Odd.cases7 {H : Hp} {v : V} {T : String} {t : Str} (h : Odd H v T t) : T = "NoneType" ∨ T = "bool" ∨ T = "int" ∨ T = "str" ∨ T = "list" ∨ T = "dict" ∨ T = "tuple" := by
  have := h.t7
  simpa [T7] using this
theorem Odd.int {H : Hp} {v : V} {T : String} {t : Str} (h : Odd H v T t) (e : T = "int") : ∃ i, v = .int i := by
  cases h with
  | prt p =>
    cases p with
    | int h => exact ⟨_, rfl⟩
    | _ => exact absurd e (by decide)
  | row _ _ _ => exact absurd e (by decide)
  | lst _ _ _ _ => exact absurd e (by decide)
theorem Odd.str {H : Hp} {v : V} {T : String} {t : Str} (h : Odd H v T t) (e : T = "str") : ∃ z : Str, v = .str z ∧ z.length ≤ 100 := by
  cases h with
  | prt p =>
    cases p with
    | str h => exact ⟨_, rfl, h.2⟩
    | _ => exact absurd e (by decide)
  | row _ _ _ => exact absurd e (by decide)
  | lst _ _ _ _ => exact absurd e (by decide)
instance (z : Str) : Decidable (NameOk z) := by unfold NameOk; infer_instance
/-- is it a number; a number from 0 on; a name -/
def intB : V → Bool
  | .int _ => true
  | _ => false
def cntB : V → Bool
  | .int i => decide (0 ≤ i)
  | _ => false
def nameB : V → Bool
  | .str z => decide (NameOk z)
  | _ => false
theorem Odd.noInt {H : Hp} {v : V} {T : String} {t : Str} (h : Odd H v T t) (ne : T ≠ "int") : intB v = false ∧ cntB v = false := by
  cases h with
  | prt p =>
    cases p with
    | int h => exact absurd rfl ne
    | _ => exact ⟨rfl, rfl⟩
  | row e p few => exact ⟨rfl, rfl⟩
  | lst e n p few => exact ⟨rfl, rfl⟩
theorem Odd.noStr {H : Hp} {v : V} {T : String} {t : Str} (h : Odd H v T t) (ne : T ≠ "str") : nameB v = false := by
  cases h with
  | prt p =>
    cases p with
    | str h => exact absurd rfl ne
    | _ => rfl
  | row e p few => rfl
  | lst e n p few => rfl
section
variable {P : Program} {w : World} {K : PySem.W.Frag} {mg : Str → Option Value} {base : Heap}
def spIsIntO : Sp := fun vs H Q _ => ∃ (v : V) (T : String) (t : Str), vs = [v] ∧ Odd H v T t ∧ Q (.bl (intB v)) H
theorem ok_isIntO {f : Addr} {fd : FuncData} (F : Fun K "is_integer" "is_integer" sIsInt f fd) (B : Bn mg) : FnOk P w K mg base CX0 1 f fd ["value"] spIsIntO := by
  refine F.ok scIsInt (fun vs H Q E h => ?_) (fun cdv A outer s H vs Q E hr h => ?_)
  · obtain ⟨v, T, t, rfl, _⟩ := h
    rfl
  · obtain ⟨v, T, t, rfl, od, q⟩ := h
    refine ⟨_, pss_one (ps_ret (pe_and (pe_callB call_isi (by rfl) B.isi (by decide +kernel) (pa_cons (pv 0) (pa_cons (pe_bltn (v := .ty "int") (by rfl) B.int (by decide +kernel) rfl) pa_nil)))
      (pe_one (pe_not (pe_callB call_isi (by rfl) B.isi (by decide +kernel) (pa_cons (pv 0) (pa_cons (pe_bltn (v := .ty "bool") (by rfl) B.bool (by decide +kernel) rfl) pa_nil))))))), ?_⟩
    have off : T ≠ "int" → Q (.bl false) H := fun ne => by
      rw [(od.noInt ne).1] at q
      exact q
    rcases od.cases7 with rfl | rfl | rfl | rfl | rfl | rfl | rfl
    · exact ⟨_, rfl, _, _, _, _, false, rfl, .ty "int", od.ty, kit_ty (by decide +kernel), false, rfl, iteF (off (by decide))⟩
    · exact ⟨_, rfl, _, _, _, _, true, rfl, .ty "int", od.ty, kit_ty (by decide +kernel), true, rfl, iteT ⟨_, rfl, _, _, _, _, true, rfl, .ty "bool", od.ty, kit_ty (by decide +kernel), true, rfl, off (by decide)⟩⟩
    · obtain ⟨i, rfl⟩ := od.int rfl
      exact ⟨_, rfl, _, _, _, _, true, rfl, .ty "int", od.ty, kit_ty (by decide +kernel), true, rfl, iteT ⟨_, rfl, _, _, _, _, false, rfl, .ty "bool", od.ty, kit_ty (by decide +kernel), false, rfl, q⟩⟩
    · exact ⟨_, rfl, _, _, _, _, false, rfl, .ty "int", od.ty, kit_ty (by decide +kernel), false, rfl, iteF (off (by decide))⟩
    · exact ⟨_, rfl, _, _, _, _, false, rfl, .ty "int", od.ty, kit_ty (by decide +kernel), false, rfl, iteF (off (by decide))⟩
    · exact ⟨_, rfl, _, _, _, _, false, rfl, .ty "int", od.ty, kit_ty (by decide +kernel), false, rfl, iteF (off (by decide))⟩
    · exact ⟨_, rfl, _, _, _, _, false, rfl, .ty "int", od.ty, kit_ty (by decide +kernel), false, rfl, iteF (off (by decide))⟩
def spIsCountO : Sp := fun vs H Q _ => ∃ (v : V) (T : String) (t : Str), vs = [v] ∧ Odd H v T t ∧ Q (.bl (cntB v)) H
theorem ok_isCountO {f : Addr} {fd : FuncData} (F : Fun K "is_count" "is_count" sIsCount f fd) (DI : Df P w K mg base "is_integer" ["value"] 1 spIsIntO) : FnOk P w K mg base CX0 2 f fd ["value"] spIsCountO := by
  refine F.ok scIsCount (fun vs H Q E h => ?_) (fun cdv A outer s H vs Q E hr h => ?_)
  · obtain ⟨v, T, t, rfl, _⟩ := h
    rfl
  · obtain ⟨v, T, t, rfl, od, q⟩ := h
    refine ⟨_, pss_one (ps_ret (pe_and (pe_df DI hr (by rfl) (pa_cons (pv 0) pa_nil)) (pe_one (pe_cmp (pc_ge (pv 0) pe_int) rfl)))), ?_⟩
    refine ⟨_, rfl, v, T, t, rfl, od, intB v, rfl, ?_⟩
    by_cases e : T = "int"
    · subst e
      obtain ⟨i, rfl⟩ := od.int rfl
      exact iteT ⟨_, rfl, _, _, rfl, rfl, q⟩
    · obtain ⟨a, b⟩ := od.noInt e
      rw [a]
      rw [b] at q
      exact iteF q
def spIsNameO : Sp := fun vs H Q _ => ∃ (v : V) (T : String) (t : Str), vs = [v] ∧ Odd H v T t ∧ ∀ H', Same H H' → Q (.bl (nameB v)) H'
theorem ok_isNameO {f : Addr} {fd : FuncData} (F : Fun K "is_name" "is_name" sIsName f fd) (B : Bn mg) (N : Cn mg) : FnOk P w K mg base CX0 1 f fd ["value"] spIsNameO := by
  obtain ⟨tl, gl⟩ := N.letters
  obtain ⟨tm, gm⟩ := N.longest
  refine F.ok scIsName (fun vs H Q E h => ?_) (fun cdv A outer s H vs Q E hr h => ?_)
  · obtain ⟨v, T, t, rfl, _⟩ := h
    rfl
  · obtain ⟨v, T, t, rfl, od, q⟩ := h
    refine ⟨_, pss_one (ps_ret (pe_and (pe_callB call_isi (by rfl) B.isi (by decide +kernel) (pa_cons (pv 0) (pa_cons (pe_bltn (v := .ty "str") (by rfl) B.str (by decide +kernel) rfl) pa_nil)))
      (pe_and (pe_chain op_le op_le pe_int (pe_callB call_len_str (by rfl) B.len PySem.boot_len (pa_cons (pv 0) pa_nil)) (pe_glob (v := .int 8) (by rfl) gm ⟨_, rfl⟩))
      (pe_one (pe_callB (cr_all rfl) (by rfl) B.all (by decide +kernel) (pa_cons (pe_lc (own := [("sign", 1)]) (g := gName 1) (tt := tYes) (by rfl) scIsName.nd (pi_str (pv 0)) (blkOk_by (own := [("sign", 1)]) (N := ["value", "sign"]) (sc := defScope sIsName) (by decide +kernel))
        (fun _ _ _ _ _ => pg_name (i := 1) scIsName.nd rfl (Or.inl rfl)) (fun _ _ _ _ _ => pts_nil) (fun _ _ _ _ _ => pe_cmpR op_in_sign (pv 1) (pe_glob (v := .str letters) (by rfl) gl ⟨_, rfl⟩) rfl)) pa_nil)))))), ?_⟩
    have off : T ≠ "str" → Q (.bl false) H := fun ne => by
      have z := q H (Same.refl H)
      rwa [od.noStr ne] at z
    rcases od.cases7 with rfl | rfl | rfl | rfl | rfl | rfl | rfl
    · exact ⟨_, rfl, _, _, _, _, false, rfl, .ty "str", od.ty, kit_ty (by decide +kernel), false, rfl, iteF (off (by decide))⟩
    · exact ⟨_, rfl, _, _, _, _, false, rfl, .ty "str", od.ty, kit_ty (by decide +kernel), false, rfl, iteF (off (by decide))⟩
    · exact ⟨_, rfl, _, _, _, _, false, rfl, .ty "str", od.ty, kit_ty (by decide +kernel), false, rfl, iteF (off (by decide))⟩
    · obtain ⟨z, rfl, zl⟩ := od.str rfl
      refine ⟨_, rfl, _, _, _, _, true, rfl, .ty "str", od.ty, kit_ty (by decide +kernel), true, rfl, iteT ?_⟩
      have z3 : z.length ≤ sizeLine := Nat.le_trans zl (by decide)
      refine ⟨_, rfl, z, rfl, z3, _, _, rfl, rfl, _, rfl, ?_⟩
      by_cases c1 : 1 ≤ z.length
      · rw [decide_eq_true (show (1 : Int) ≤ (z.length : Nat) by omega)]
        refine ⟨_, _, rfl, rfl, decide (((z.length : Nat) : Int) ≤ 8), rfl, ?_⟩
        by_cases c8 : z.length ≤ 8
        · rw [decide_eq_true (show ((z.length : Nat) : Int) ≤ 8 by omega)]
          refine iteT ⟨_, rfl, z, rfl, fun D hD => ?_⟩
          refine lc_new walk_str (fun i => (z.cps[i]?).map fun c => V.bl (decide (c ∈ letters.cps.toList))) (Nat.lt_of_le_of_lt zl (by decide)) hD (fun _ _ => True.intro) ?_ ?_
          · rintro i x H1 _ hi s1 ⟨rfl, c, hc, rfl⟩ Kt Kn kt kn
            refine ⟨rfl, _, rfl, c, letters, rfl, rfl, kt _ _ ?_ (Same.refl _)⟩
            show (z.cps[i]?).map _ = _
            rw [hc] <;> rfl
          · intro H1 s1 at_
            have e : kept (fun i => (z.cps[i]?).map fun c => V.bl (decide (c ∈ letters.cps.toList))) z.cps.size = (z.cps.toList.map fun c => decide (c ∈ letters.cps.toList)).map V.bl := by
              have y := kept_all (ys := z.cps.toList.map fun c => V.bl (decide (c ∈ letters.cps.toList))) (f := fun i => (z.cps[i]?).map fun c => V.bl (decide (c ∈ letters.cps.toList))) fun i => by rw [List.getElem?_map, Array.getElem?_toList]
              rw [List.length_map, Array.length_toList] at y
              rw [y, List.map_map] <;> rfl
            rw [e] at at_
            refine ⟨D, _, rfl, SqL.of at_, ?_⟩
            have b : (z.cps.toList.map fun c => decide (c ∈ letters.cps.toList)).all id = nameB (.str z) := by
              show _ = decide (NameOk z)
              rw [List.all_map]
              by_cases ok : ∀ c ∈ z.cps.toList, c ∈ letters.cps.toList
              · rw [decide_eq_true (show NameOk z from ⟨c1, c8, ok⟩)]
                exact List.all_eq_true.mpr fun c m => decide_eq_true (ok c m)
              · rw [decide_eq_false (fun n : NameOk z => ok n.2.2)]
                refine Bool.eq_false_iff.mpr fun y => ok fun c m => ?_
                exact of_decide_eq_true (List.all_eq_true.mp y c m)
            rw [b]
            exact q H1 s1
        · rw [decide_eq_false (show ¬ ((z.length : Nat) : Int) ≤ 8 by omega)]
          have y := q H (Same.refl H)
          rw [show nameB (.str z) = false from decide_eq_false fun n : NameOk z => c8 n.2.1] at y
          exact iteF y
      · rw [decide_eq_false (show ¬ (1 : Int) ≤ (z.length : Nat) by omega)]
        have y := q H (Same.refl H)
        rw [show nameB (.str z) = false from decide_eq_false fun n : NameOk z => c1 n.1] at y
        exact ⟨false, rfl, iteF y⟩
    · exact ⟨_, rfl, _, _, _, _, false, rfl, .ty "str", od.ty, kit_ty (by decide +kernel), false, rfl, iteF (off (by decide))⟩
    · exact ⟨_, rfl, _, _, _, _, false, rfl, .ty "str", od.ty, kit_ty (by decide +kernel), false, rfl, iteF (off (by decide))⟩
    · exact ⟨_, rfl, _, _, _, _, false, rfl, .ty "str", od.ty, kit_ty (by decide +kernel), false, rfl, iteF (off (by decide))⟩
/-! ### want_name, all of it -/
def spWantNameB (D : Addr) : Sp := fun vs H Q E => ∃ (v : V) (T : String) (t : Str), vs = [v] ∧ Odd H v T t ∧ (nameB v = true → ∀ H', Same H H' → Q .non H') ∧ (nameB v = false → XW D v H E)
theorem ok_wantNameB {f D S : Addr} {fd : FuncData} (F : Fun K "want_name" "want_name" sWantName f fd) (Z : Ive P w K mg base "InvalidName" D S) (DN : Df P w K mg base "is_name" ["value"] 1 spIsNameO) : FnG P w K mg base (L2.CX P w) 5 f fd ["value"] (spWantNameB D) := by
  obtain ⟨oc, od', kV, doc, pm, an, cdv, ct, osl, rfl, lk, hcd⟩ := F.ex
  refine fn_ofG lk hcd scWantName (fun vs H Q E h => ?_) fun A outer s H vs Q E gd hr h => ?_
  · obtain ⟨v, T, t, rfl, _⟩ := h
    rfl
  · obtain ⟨v, T, t, rfl, od, yes, no⟩ := h
    refine ⟨_, pss_one (ps_if (pt_not (pt_val (pe_df DN (hr.mono (by decide)) (by rfl) (pa_cons (pv 0) pa_nil)))) (pss_one (ps_raise (by rfl) (takes_of (E := E) rfl rfl rfl rfl) (pmk_iv Z (deeper_guards.trans gd) hr (by rfl) (pa_cons (pv 0) pa_nil)))) pss_nil), ?_⟩
    refine ⟨_, rfl, v, T, t, rfl, od, fun H' s1 => ⟨_, rfl, ?_⟩⟩
    cases b : nameB v with
    | true => exact iteF (yes b H' s1)
    | false => exact iteT ⟨_, rfl, raisedW s1 od (no b)⟩
/-- the def, all of it, by its name -/
structure DfE (P : Program) (w : World) (K : PySem.W.Frag) (mg : Str → Option Value) (base : Heap) (x : Str) (ps : List Str) (k : Nat) (sp : Sp) : Prop where
  ex : ∃ f fd, mg x = some (.ref f) ∧ PySem.W.keepIn K (.ref f) = true ∧ Binds K fd ps [] ∧ FnG P w K mg base (L2.CX P w) k f fd ps sp
end
theorem pe_dfE {X : Cx} {x : Str} {ps : List Str} {k : Nat} {sp : Sp} {e : Expr} {es : List Expr} {t : TA} {E : XK} {p pos : Pos} (D : DfE X.prog X.w X.K X.mg X.base x ps k sp) (gd : X.A.guards = some []) (hr : Room k X.A) (hg : Gl X x) (pass : Passes (L2.CX X.prog X.w) X E) (ha : PA X (e :: es) t)
    (hdb : (x == ("__debug__" : Str)) = false := by decide) (hst : starEach (e :: es) X.env = (false, eval e X.env) :: starEach es X.env := by rfl) (hpl : (backTo pos (starEach es X.env)).any (·.1) = false := by rfl) :
    PE X (.Call (.Name x p) (e :: es) [] pos) (tCall sp [] E t) := by
  obtain ⟨f, fd, hm, kp, b, F⟩ := D.ex
  exact pe_callG F gd hr hg hm kp b .nil pass ha (hdb := hdb) (he := hst) (hpl := hpl)
/-- a name is a value as any other -/
theorem NameOk.odd {H : Hp} {z : Str} (h : NameOk z) : Odd H (.str z) "str" (reprText z) := .prt (.str ⟨Nat.le_trans h.shown (by decide), Nat.le_trans h.2.1 (by decide)⟩)
theorem nameB_ok {z : Str} (h : NameOk z) : nameB (.str z) = true := decide_eq_true h
theorem nameB_str {v : V} (h : nameB v = true) : ∃ z, v = .str z ∧ NameOk z := by
  cases v with
  | str z => exact ⟨z, rfl, of_decide_eq_true h⟩
  | _ => cases h
end S11

/-! what is reached in k steps -/
namespace GM
/-- one turn more -/
def ext (p t : Turn) : Turn := (mv p.1 t.1, p.2 * t.2)
def Ball (n : Nat) (T : List Turn) : Nat → Turn → Prop
  | 0, p => p = (idn n, 1)
  | k + 1, p => Ball n T k p ∨ ∃ q t, Ball n T k q ∧ t ∈ T ∧ p = ext q t
theorem Ball.reach {n : Nat} {T : List Turn} : ∀ {k : Nat} {p : Turn}, Ball n T k p → Reach n T p.1 p.2
  | 0, p, h => by
    obtain rfl : p = (idn n, 1) := h
    exact .one
  | k + 1, p, h => by
    rcases h with h | ⟨q, t, h, m, rfl⟩
    · exact Ball.reach h
    · exact .step (Ball.reach h) m
theorem Ball.le {n : Nat} {T : List Turn} {k : Nat} {p : Turn} (h : Ball n T k p) : ∀ {j : Nat}, k ≤ j → Ball n T j p := fun {j} l => by
  induction j with
  | zero =>
    obtain rfl : k = 0 := by omega
    exact h
  | succ j ih =>
    by_cases e : k = j + 1
    · exact e ▸ h
    · exact .inl (ih (by omega))
def halves (n : Nat) : List Turn := (orders n).flatMap fun o => [(o, 1), (o, -1)]
theorem mem_halves {n : Nat} {p : Turn} (h : p.1.Perm (idn n)) (s : Sgn p.2) : p ∈ halves n := by
  obtain ⟨o, g⟩ := p
  refine List.mem_flatMap.mpr ⟨o, mem_orders h, ?_⟩
  rcases s with e | e
  · have e' : g = 1 := e
    subst e'
    exact List.mem_cons_self
  · have e' : g = -1 := e
    subst e'
    exact List.mem_cons_of_mem _ List.mem_cons_self
theorem halves_len (n : Nat) : (halves n).length = 2 * (orders n).length := by
  unfold halves
  generalize orders n = X
  induction X with
  | nil => rfl
  | cons a X ih =>
    rw [List.flatMap_cons, List.length_append, ih]
    show 2 + 2 * X.length = 2 * (X.length + 1)
    omega
theorem reach_few {n : Nat} {T L : List Turn} (hn : n ≤ 4) (are : Are n T) (nd : L.Nodup) (ok : ∀ p ∈ L, Reach n T p.1 p.2) : L.length ≤ 48 := by
  have z := nodup_few L (halves n) nd fun p m => mem_halves ((ok p m).are are).1 ((ok p m).are are).2
  have := orders_few hn
  rw [halves_len] at z
  omega
/-- one round of the search: found F, fresh N; the first i of F are done, of F[i] the first j turns -/
structure Rnd (T F N : List Turn) (i j : Nat) : Prop where
  nd : (F ++ N).Nodup
  sub : ∀ p ∈ N, ∃ q ∈ F, ∃ t ∈ T, p = ext q t
  did : ∀ q ∈ F.take i, ∀ t ∈ T, ext q t ∈ F ++ N
  part : ∀ q, F[i]? = some q → ∀ t ∈ T.take j, ext q t ∈ F ++ N
theorem Rnd.start {T F : List Turn} (h : F.Nodup) : Rnd T F [] 0 0 := ⟨by rw [List.append_nil]; exact h, fun _ m => absurd m List.not_mem_nil, fun _ m => absurd m (by simp), fun _ _ _ m => absurd m (by simp)⟩
theorem Rnd.next {T F N : List Turn} {i : Nat} (h : Rnd T F N i T.length) : Rnd T F N (i + 1) 0 := by
  refine ⟨h.nd, h.sub, fun q m t mt => ?_, fun _ _ _ m => absurd m (by simp)⟩
  rw [List.take_add_one] at m
  rcases List.mem_append.mp m with m | m
  · exact h.did q m t mt
  · cases e : F[i]? with
    | none => rw [e] at m; cases m
    | some x =>
      rw [e] at m
      obtain rfl := List.mem_singleton.mp (show q ∈ [x] from m)
      exact h.part q e t (by rw [List.take_length]; exact mt)
theorem Rnd.old {T F N : List Turn} {i j : Nat} {q t : Turn} (h : Rnd T F N i j) (hq : F[i]? = some q) (ht : T[j]? = some t) (m : ext q t ∈ F ++ N) : Rnd T F N i (j + 1) := by
  refine ⟨h.nd, h.sub, h.did, fun q' e u mu => ?_⟩
  obtain rfl : q = q' := Option.some.inj (hq.symm.trans e)
  rw [List.take_add_one, ht] at mu
  rcases List.mem_append.mp mu with mu | mu
  · exact h.part q e u mu
  · obtain rfl := List.mem_singleton.mp (show u ∈ [t] from mu)
    exact m
theorem Rnd.new {T F N : List Turn} {i j : Nat} {q t : Turn} (h : Rnd T F N i j) (hq : F[i]? = some q) (ht : T[j]? = some t) (m : ext q t ∉ F) (m' : ext q t ∉ N) : Rnd T F (N ++ [ext q t]) i (j + 1) := by
  have up : ∀ x, x ∈ F ++ N → x ∈ F ++ (N ++ [ext q t]) := fun x hx => by
    rw [← List.append_assoc]
    exact List.mem_append_left _ hx
  refine ⟨?_, fun p mp => ?_, fun x mx u mu => up _ (h.did x mx u mu), fun q' e u mu => ?_⟩
  · rw [← List.append_assoc, List.nodup_append]
    refine ⟨h.nd, by simp, fun a ha b hb => ?_⟩
    rw [List.mem_singleton.mp hb]
    rintro rfl
    rcases List.mem_append.mp ha with ha | ha
    · exact m ha
    · exact m' ha
  · rcases List.mem_append.mp mp with mp | mp
    · exact h.sub p mp
    · rw [List.mem_singleton.mp mp]
      exact ⟨q, List.mem_of_getElem? hq, t, List.mem_of_getElem? ht, rfl⟩
  · obtain rfl : q = q' := Option.some.inj (hq.symm.trans e)
    rw [List.take_add_one, ht] at mu
    rcases List.mem_append.mp mu with mu | mu
    · exact up _ (h.part q e u mu)
    · obtain rfl := List.mem_singleton.mp (show u ∈ [t] from mu)
      exact List.mem_append_right _ (List.mem_append_right _ List.mem_cons_self)
theorem Rnd.ball {n : Nat} {T F N : List Turn} {k : Nat} (h : Rnd T F N F.length 0) (b : ∀ p, p ∈ F ↔ Ball n T k p) : ∀ p, p ∈ F ++ N ↔ Ball n T (k + 1) p := fun p => by
  constructor
  · intro m
    rcases List.mem_append.mp m with m | m
    · exact .inl ((b p).mp m)
    · obtain ⟨q, hq, t, ht, rfl⟩ := h.sub p m
      exact .inr ⟨q, t, (b q).mp hq, ht, rfl⟩
  · rintro (m | ⟨q, t, hq, ht, rfl⟩)
    · exact List.mem_append_left _ ((b p).mpr m)
    · exact h.did q (by rw [List.take_length]; exact (b q).mpr hq) t ht
/-- closed once, closed ever -/
theorem Ball.stop {n : Nat} {T : List Turn} {k : Nat} (h : ∀ p, Ball n T (k + 1) p → Ball n T k p) {p : Turn} (r : Reach n T p.1 p.2) : Ball n T k p := by
  obtain ⟨o, s⟩ := p
  replace r : Reach n T o s := r
  induction r with
  | one => exact Ball.le (k := 0) rfl (Nat.zero_le _)
  | @step o s t r m ih => exact h _ (.inr ⟨(o, s), t, ih, m, rfl⟩)
/-- a list of the ball grows while it is not closed -/
theorem ball_grows {n : Nat} {T : List Turn} : ∀ k : Nat, (∃ j, j ≤ k ∧ ∀ p, Ball n T (j + 1) p → Ball n T j p) ∨ ∃ L : List Turn, L.Nodup ∧ (∀ p ∈ L, Ball n T (k + 1) p) ∧ k + 2 ≤ L.length
  | 0 => by
    by_cases h : ∀ p, Ball n T 1 p → Ball n T 0 p
    · exact .inl ⟨0, Nat.le_refl _, h⟩
    · simp only [Classical.not_forall] at h
      obtain ⟨p, h1, h0⟩ := h
      refine .inr ⟨[(idn n, 1), p], ?_, fun q m => ?_, Nat.le_refl _⟩
      · rw [List.nodup_cons]
        exact ⟨fun m => h0 (List.mem_singleton.mp m).symm, by simp⟩
      · rcases List.mem_cons.mp m with rfl | m
        · exact .inl rfl
        · rw [List.mem_singleton.mp m]
          exact h1
  | k + 1 => by
    rcases ball_grows (n := n) (T := T) k with ⟨j, hj, h⟩ | ⟨L, nd, sub, len⟩
    · exact .inl ⟨j, by omega, h⟩
    · by_cases h : ∀ p, Ball n T (k + 2) p → Ball n T (k + 1) p
      · exact .inl ⟨k + 1, Nat.le_refl _, h⟩
      · simp only [Classical.not_forall] at h
        obtain ⟨p, h1, h0⟩ := h
        refine .inr ⟨p :: L, List.nodup_cons.mpr ⟨fun m => h0 (sub p m), nd⟩, fun q m => ?_, by rw [List.length_cons]; omega⟩
        rcases List.mem_cons.mp m with rfl | m
        · exact h1
        · exact .inl (sub q m)
/-- where each order has one sign, 24 rounds are enough -/
theorem Ball.all {n : Nat} {T : List Turn} (hn : n ≤ 4) (are : Are n T) (sg : Single n T) {p : Turn} : Ball n T 24 p ↔ Reach n T p.1 p.2 := by
  refine ⟨Ball.reach, fun r => ?_⟩
  rcases ball_grows (n := n) (T := T) 23 with ⟨j, hj, h⟩ | ⟨L, nd, sub, len⟩
  · exact (Ball.stop h r).le (by omega)
  · have keys : (L.map Prod.fst).Nodup := by
      have : ∀ M : List Turn, M.Nodup → (∀ p ∈ M, Reach n T p.1 p.2) → (M.map Prod.fst).Nodup := by
        intro M
        induction M with
        | nil => intro _ _; exact List.nodup_nil
        | cons a M ih =>
          intro nd ok
          rw [List.nodup_cons] at nd
          rw [List.map_cons, List.nodup_cons]
          refine ⟨fun m => ?_, ih nd.2 fun p mp => ok p (List.mem_cons_of_mem _ mp)⟩
          obtain ⟨b, hb, e⟩ := List.mem_map.mp m
          have ra := ok a List.mem_cons_self
          have rb := ok b (List.mem_cons_of_mem _ hb)
          rw [← e] at ra
          have e2 := sg _ _ _ ra rb
          exact nd.1 ((Prod.ext e e2.symm : b = a) ▸ hb)
      exact this L nd fun p m => (sub p m).reach
    have := Srch.few hn are keys fun p m => (sub p m).reach
    omega
end GM

/-! tables that are symmetric, and tables that alternate: plain mathematics -/
namespace GM
/-- the orders as the law makes them: k places are given to n positions -/
def grow (n : Nat) : Nat → List (List Int)
  | 0 => [[]]
  | k + 1 => (grow n k).flatMap fun o => ((idn n).filter fun p => !o.contains p).map fun p => o ++ [p]
def ords (n : Nat) : List (List Int) := grow n n
/-- how many stand ahead of a lesser one -/
def swaps : List Int → Nat
  | [] => 0
  | x :: o => (o.filter fun y => decide (y < x)).length + swaps o
def par (o : List Int) : Int := 1 - 2 * ((swaps o : Int) % 2)
def due (n : Nat) (tn : Bool) : List Turn := (ords n).map fun o => (o, if tn then par o else 1)
/-- two neighbours exchanged -/
def nbr (n i : Nat) : List Int := ((idn n).set i ((i + 1 : Nat) : Int)).set (i + 1) ((i : Nat) : Int)
def nbrs (n : Nat) : List (List Int) := (List.range (n - 1)).map (nbr n)
def near (n : Nat) (s : Int) : List Turn := (nbrs n).map fun o => (o, s)
/-- a turn round, and the first two exchanged -/
def roundO (n : Nat) : List Int := (idn n).drop 1 ++ [0]
def swapO (n : Nat) : List Int := [1, 0] ++ (idn n).drop 2
def twoWay (n : Nat) (tn : Bool) : List Turn := [(roundO n, if tn then par (roundO n) else 1), (swapO n, if tn then par (swapO n) else 1), (roundO n, if tn then par (roundO n) else 1)]
/-! ### what is reached, by trying -/
def wave (T : List Turn) : Nat → List Turn → List Turn
  | 0, S => S
  | k + 1, S => wave T k (S ++ ((S.flatMap fun q => T.map (ext q)).filter fun p => !S.contains p).eraseDups)
theorem wave_reach {n : Nat} {T : List Turn} : ∀ (k : Nat) (S : List Turn), (∀ p ∈ S, Reach n T p.1 p.2) → ∀ p ∈ wave T k S, Reach n T p.1 p.2
  | 0, S, h => h
  | k + 1, S, h => wave_reach k _ fun p m => by
    rcases List.mem_append.mp m with m | m
    · exact h p m
    · have m2 := (List.mem_filter.mp (List.mem_eraseDups.mp m)).1
      obtain ⟨q, hq, m3⟩ := List.mem_flatMap.mp m2
      obtain ⟨t, ht, rfl⟩ := List.mem_map.mp m3
      exact (h q hq).step ht
/-- closed under the turns, with the identity -/
def shut (n : Nat) (T L : List Turn) : Bool := L.contains (idn n, 1) && L.all fun q => T.all fun t => L.contains (ext q t)
theorem shut_reach {n : Nat} {T L : List Turn} (h : shut n T L = true) {o : List Int} {s : Int} (r : Reach n T o s) : (o, s) ∈ L := by
  unfold shut at h
  rw [Bool.and_eq_true] at h
  induction r with
  | one => simpa using h.1
  | @step o s t r m ih =>
    have := List.all_eq_true.mp (List.all_eq_true.mp h.2 _ ih) t m
    simpa [ext] using this
def grpB (n : Nat) (T L : List Turn) : Bool := shut n T L && (let W := wave T 8 [(idn n, 1)]; L.all fun p => W.contains p)
theorem lists_of {n : Nat} {T L : List Turn} (h : grpB n T L = true) : Lists n T L := fun p => by
  unfold grpB at h
  rw [Bool.and_eq_true] at h
  refine ⟨fun m => ?_, shut_reach h.1⟩
  refine wave_reach 8 _ (fun q hq => ?_) p (by simpa using List.all_eq_true.mp h.2 p m)
  rw [List.mem_singleton.mp hq]
  exact .one
instance (p q : Turn) : Decidable (tlt p q) := by unfold tlt; infer_instance
instance (p q : Turn) : Decidable (tle p q) := by unfold tle; infer_instance
instance (L : List Turn) : Decidable (Srt L) := by unfold Srt; infer_instance
theorem due_srt : ∀ n ≤ 4, ∀ tn, Srt (due n tn) ∧ ((due n tn).map Prod.fst).Nodup := by decide +kernel
theorem near_due : ∀ n ≤ 4, 1 ≤ n → grpB n (near n 1) (due n false) = true ∧ grpB n (near n (-1)) (due n true) = true := by decide +kernel
theorem two_due : ∀ n ≤ 4, 2 ≤ n → ∀ tn, grpB n (twoWay n tn) (due n tn) = true := by decide +kernel
end GM

/-! c.m(e, ..), m a staticmethod of the class that c holds; c(e, .., *xs), c a local name that holds the class; where no repr is under way -/
namespace L2
open PySem PySem.Spec PyProof.Rows
/-- C.m is a staticmethod: its record at p, its def at g -/
structure SMet (K : PySem.W.Frag) (C : Addr) (mc : Value) (m : Str) (p g : Addr) : Prop where
  at_ : PySem.W.findCls K (.ref C) mc m = some (.get (.builtin "staticmethod.__get__") (.ref p) .none (.ref C))
  rc : ∃ rest, PySem.W.recIn K p "staticmethod" = some (.ref g :: rest)
  kp : PySem.W.keepIn K (.ref g) = true
def tSMeth (C : Addr) (pr : Sp) (E : XK) (ta : TE) (t : TA) : TE := fun σ H Q => ta σ H fun x H1 => x = .ref C ∧ t σ H1 fun vs H2 => pr vs H2 Q E
theorem pe_smethG {X : Cx} {CX : CXT} {n : Nat} {C p g : Addr} {mc : Value} {fd : FuncData} {ps : List Str} {pr : Sp} {E : XK} {o e : Expr} {es : List Expr} {m : Str} {pos apos : Pos} {ta : TE} {t : TA} {pl : Sem Bool} (ob : PE X o ta) (rd : ClX.CRead X.K C mc) (met : SMet X.K C mc m p g)
    (F : FnG X.prog X.w X.K X.mg X.base CX n g fd ps pr) (quiet : X.A.guards = some []) (room : Room n X.A) (bn : Binds X.K fd ps []) (pass : Passes CX X E) (args : PA X (e :: es) t)
    (st : starEach (e :: es) X.env = (false, eval e X.env) :: starEach es X.env := by rfl) (pn : (backTo pos (starEach es X.env)).any (·.1) = false := by rfl)
    (ht : eval (.Call (.Attribute o m apos) (e :: es) [] pos) X.env = (eval o X.env >>= fun ov => standAt apos.atName >>= fun _ => holding [ov] (getMethod ov m pl) >>= fun fb => callWith pos fb.1 fb.2 (backTo pos (starEach (e :: es) X.env)) (backToKw pos (keywordEach [] X.env))) := by rfl) :
    PE X (.Call (.Attribute o m apos) (e :: es) [] pos) (tSMeth C pr E ta t) := by
  refine ⟨fun pins s0 σ H W J w => PySem.W.methodCall_KW (pl := pl) (thn (ob.run pins s0 σ H _ J w) ?_) ht⟩
  rintro _ s1 ⟨_, H1, J1, rel, rfl, w1⟩
  cases rel
  obtain ⟨rest, record⟩ := met.rc
  refine PySem.W.method_cls J1.kIn rd.ga (PySem.W.cls_bind J1.kIn rd.rd met.at_ (wpAny_call (PySem.W.sm_get (s := { s1 with toks := s1.toks + 1 }) J1.kIn record (PySem.W.handed_on rfl ?_))))
  have J2 := J1.tok (s1.toks + 1)
  refine PySem.W.callWith_K (first := []) (h₀ := X.base) J.ok.mod.kin met.kp (thn (args.run pos pins _ σ H1 _ J2 w1) ?_) st pn
  rintro us s2 ⟨as, H2, J3, rv, w2⟩
  exact ⟨J3.kIn, run_fnG F quiet room bn .nil pass J3 rv (by rw [List.append_nil]; exact w2)⟩
def tMakeLS (i : Nat) (C : Addr) (pr : Sp) (E : XK) (t : TA) : TE := fun σ H Q => σ[i]? = some (some (.ref C)) ∧ StX.tMakeR C pr E t σ H Q
theorem pe_makeLS {X : Cx} {CX : CXT} {n i : Nat} {C g : Addr} {pr : Sp} {E : XK} {nm : Str} {e1 : Expr} {er : List Expr} {ta : TA} {pn pc : Pos} (mk : Mk X.K C g) (init : FnRG X.prog X.w X.K X.mg X.base CX n g pr) (quiet : X.A.guards = some []) (room : Room (n + 1) X.A)
    (at_ : X.N[i]? = some nm) (vis : Vis X.env.scope nm) (pass : Passes CX X E) (args : PA X (e1 :: er) ta) (nd : (nm == ("__debug__" : Str)) = false := by decide) (ncd : (nm == ("__classdict__" : Str)) = false := by decide) (st : starEach (e1 :: er) X.env = (false, eval e1 X.env) :: starEach er X.env := by rfl)
    (star : (backTo pc (starEach er X.env)).any (·.1) = true := by rfl) : PE X (.Call (.Name nm pn) (e1 :: er) [] pc) (tMakeLS i C pr E ta) := by
  refine ⟨fun pins s0 σ H W J w => ?_⟩
  obtain ⟨slot, w⟩ := w
  refine wpAny_Call_Name_kw (thn ((pe_var (pos := pn) at_ vis nd ncd).run pins s0 σ H (fun v H1 => v = .ref C ∧ H1 = H) J ⟨.ref C, slot, rfl, rfl⟩) ?_)
  rintro u s1 ⟨v, H1, J1, rel, rfl, rfl⟩
  cases rel
  refine PySem.W.callWith_S2 (h₀ := X.base) J1.ok.mod.kin mk.kp (thn (args.run pc pins s1 σ _ _ J1 w) ?_) st star
  rintro us s2 ⟨as, H2, J2, rv, w2⟩
  exact ⟨J2.kIn, made_by mk init quiet room pass J2 rv w2⟩
end L2

namespace S11
open PySem L2 GM
open PySem.W (EachIs)
theorem _root_.L2.FnG.rawG {P : Program} {w : World} {K : PySem.W.Frag} {mg : Str → Option Value} {base : Heap} {CX : CXT} {k : Nat} {f : Addr} {fd : FuncData} {ps : List Str} {sp : Sp} (F : FnG P w K mg base CX k f fd ps sp) (b : Binds K fd ps []) : FnRG P w K mg base CX k f sp :=
  fun A outer s H us vs Q E gd hr e0 r h => F.run A outer s H ⟨us, []⟩ us vs Q E gd hr e0 (by
    have z := b s us (e0.mod.kin.keeps fun b o e => (e0.bs b o e).1) (by rw [List.append_nil, ← r.length]; exact F.len _ _ _ _ h)
    rwa [List.append_nil] at z) r h
/-- rows of numbers in a list -/
def OrdsAt (H : Hp) (r : Addr) (os : List (List Int)) : Prop := ∃ ks : List (Addr × List Int), H r = some (.lst (ks.map fun p => V.ref p.1)) ∧ (∀ p ∈ ks, OrdIs H p) ∧ ks.map Prod.snd = os
theorem OrdsAt.same {H G : Hp} {r : Addr} {os : List (List Int)} (s : Same H G) (h : OrdsAt H r os) : OrdsAt G r os := by
  obtain ⟨ks, h1, h2, h3⟩ := h
  exact ⟨ks, s _ _ h1, fun p m => s _ _ (h2 p m), h3⟩
theorem OrdIs.put {H : Hp} {p : Addr × List Int} {a : Addr} {xs ys : List V} (h : OrdIs H p) (ha : H a = some (.lst xs)) : OrdIs (upd H a (.lst ys)) p := by
  show upd H a _ p.1 = _
  rw [upd_ne (ne_of h ha (fun z => by cases z))]
  exact h
section
variable {P : Program} {w : World} {K : PySem.W.Frag} {mg : Str → Option Value} {base : Heap}
/-! ### neighbour_orders -/
def spNeigh : Sp := fun vs H Q _ => ∃ n : Nat, vs = [.int n] ∧ n ≤ 4 ∧ ∀ H' r, Same H H' → H r = none → OrdsAt H' r (nbrs n) → Q (.ref r) H'
abbrev nNeigh : List Str := ["many", "found", "position", "order"]
theorem scNeigh : FnScope nNeigh ["many"] (defScope sNeigh) := ⟨rfl, rfl, rfl, by decide +kernel, rfl, by decide +kernel, by decide +kernel⟩
theorem ok_neigh {f : Addr} {fd : FuncData} (F : Fun K "neighbour_orders" "neighbour_orders" sNeigh f fd) (B : Bn mg) : FnOk P w K mg base CX0 1 f fd ["many"] spNeigh := by
  refine F.ok scNeigh (fun vs H Q E h => ?_) (fun cdv A outer s H vs Q E hr h => ?_)
  · obtain ⟨n, rfl, _⟩ := h
    rfl
  · obtain ⟨n, rfl, n4, q⟩ := h
    refine ⟨_, pss_cons (ps_set (i := 1) scNeigh.nd rfl (Or.inl rfl) (pe_lst pa_nil))
      (pss_cons (ps_for PassesOwn.never rfl (pi_range1 (by rfl) B.range (pa_cons (pe_op op_sub (pv 0) pe_int) pa_nil)) (pg_name (i := 2) scNeigh.nd rfl (Or.inl rfl))
        (pss_cons (ps_set (i := 3) scNeigh.nd rfl (Or.inl rfl) (pe_listRg rfl (by rfl) B.list (prg_1 (by rfl) B.range (pv 0))))
        (pss_cons (ps_asg (pe_tup (pa_cons (pe_op op_add (pv 2) pe_int) (pa_cons (pv 2) pa_nil))) (pg_tup (by rfl) (pgs_cons (pg_sub (pv 3) (pv 2) set_list) (pgs_cons (pg_sub (pv 3) (pe_op op_add (pv 2) pe_int) set_list) pgs_nil))))
        (pss_one (ps_expr (pe_bm PySem.F.plainAttrs_list PySem.F.slot_list_append PySem.F.type_list_append mt_append (pv 1) (pa_cons (pe_callTy call_tuple_of (by rfl) B.tuple (by decide +kernel) (pa_cons (pv 3) pa_nil)) pa_nil)))))))
      (pss_one (ps_ret (pv 1)))), ?_⟩
    refine ⟨(by show 0 ≤ sizeLine; decide), fun D hD => ?_⟩
    have s0 := sNew (o := .lst []) (Same.refl H) hD
    have at0 := upd_same (H := H) (a := D) (o := .lst [])
    generalize upd H D (.lst []) = H0 at s0 at0
    refine ⟨_, rfl, _, _, rfl, rfl, _, rfl, by omega, by omega, ?_⟩
    have en : ((n : Int) - 1).toNat = n - 1 := by omega
    refine for_it (walk_range (lo := 0) (n := ((n : Int) - 1).toNat)) (fun i σ G => Same H G ∧ ∃ (ks : List (Addr × List Int)) (y2 y3 : Option V), G D = some (.lst (ks.map fun p => V.ref p.1)) ∧ (∀ p ∈ ks, OrdIs G p) ∧ ks.map Prod.snd = (List.range i).map (nbr n) ∧ σ = [some (.int n), some (.ref D), y2, y3])
      ⟨s0, [], none, none, at0, by simp, rfl, rfl⟩ (fun _ _ _ _ _ => trivial) ?_ ?_
    · rintro i v σ _ G hi ⟨s1, ks, y2, y3, hks, oks, eks, rfl⟩ ⟨rfl, rfl⟩
      rw [en] at hi
      have klen : ks.length = i := by
        have := congrArg List.length eks
        rwa [List.length_map, List.length_map, List.length_range] at this
      have e0 : (0 : Int) + (i : Nat) = (i : Nat) := by omega
      refine ⟨_, rfl, _, rfl, RgOk.of_le (by decide) (by omega) (by decide) (by omega), fun l hl => ?_⟩
      rw [rg_idn]
      have s2 := sNew (o := .lst ((idn n).map V.int)) (Same.refl G) hl
      have at2 := upd_same (H := G) (a := l) (o := .lst ((idn n).map V.int))
      generalize upd G l (.lst ((idn n).map V.int)) = G2 at s2 at2
      refine ⟨_, rfl, _, _, rfl, rfl, _, rfl, (by show 2 ≤ sizeLine; decide), fun t ht => ?_⟩
      have s3 := sNew (o := .tup [V.int ((0 : Int) + (i : Nat) + 1), V.int ((0 : Int) + (i : Nat))]) (Same.refl G2) ht
      have at3 := upd_same (H := G2) (a := t) (o := .tup [V.int ((0 : Int) + (i : Nat) + 1), V.int ((0 : Int) + (i : Nat))])
      generalize upd G2 t (.tup [V.int ((0 : Int) + (i : Nat) + 1), V.int ((0 : Int) + (i : Nat))]) = G3 at s3 at3
      have hl3 := s3 _ _ at2
      have len : ((idn n).map V.int).length = n := by rw [List.length_map, idn_len]
      refine ⟨t, _, rfl, .inl (.inl at3), rfl, _, _, rfl, _, rfl, _, rfl, l, _, _, i, rfl, rfl, hl3, by unfold ixN; rw [if_pos (by omega), if_pos (by rw [len]; omega), e0, Int.toNat_natCast], ?_⟩
      refine ⟨_, _, rfl, _, rfl, _, rfl, _, _, rfl, rfl, l, _, _, i + 1, rfl, rfl, upd_same, by unfold ixN; rw [if_pos (by omega), if_pos (by rw [List.length_set, len]; omega), e0, show ((i : Nat) : Int) + 1 = ((i + 1 : Nat) : Int) by omega, Int.toNat_natCast], ?_⟩
      have eset : (((idn n).map V.int).set i (V.int ((0 : Int) + (i : Nat) + 1))).set (i + 1) (V.int ((0 : Int) + (i : Nat))) = (nbr n i).map V.int := by
        unfold nbr
        rw [List.map_set, List.map_set, e0]
        rfl
      generalize eW : upd (upd G3 l (.lst (((idn n).map V.int).set i (V.int ((0 : Int) + (i : Nat) + 1))))) l (.lst ((((idn n).map V.int).set i (V.int ((0 : Int) + (i : Nat) + 1))).set (i + 1) (V.int ((0 : Int) + (i : Nat))))) = G4
      have hl4 : G4 l = some (.lst ((nbr n i).map V.int)) := by rw [← eW, upd_same, eset]
      have s4 : Same G G4 := fun b o e => by
        have nb : b ≠ l := ne_of_none e hl
        rw [← eW, upd_ne nb, upd_ne nb]
        exact s3 _ _ (s2 _ _ e)
      refine ⟨rfl, _, rfl, .inl ⟨rfl, _, SqL.of (s4 _ _ hks)⟩, _, rfl, l, _, rfl, .inl ⟨SqL.of hl4, fun u hu => ?_⟩⟩
      have s5 := sNew (o := .tup ((nbr n i).map V.int)) (Same.refl G4) hu
      have at5 := upd_same (H := G4) (a := u) (o := .tup ((nbr n i).map V.int))
      generalize upd G4 u (.tup ((nbr n i).map V.int)) = G5 at s5 at5
      have hks5 := s5 _ _ (s4 _ _ hks)
      refine ⟨D, _, _, rfl, rfl, hks5, lt_line (by rw [List.length_map]; omega), sPut (Same.trans s1 (Same.trans s4 s5)) hD, ks ++ [(u, nbr n i)], _, _, by rw [upd_same, List.map_append]; rfl, fun p m => ?_, ?_, rfl⟩
      · rcases List.mem_append.mp m with m | m
        · exact OrdIs.put (s5 _ _ (s4 _ _ (oks p m))) hks5
        · rw [List.mem_singleton.mp m]
          exact OrdIs.put (show OrdIs G5 (u, nbr n i) from at5) hks5
      · rw [List.map_append, eks, List.range_succ, List.map_append]
        rfl
    · rintro σ G ⟨s1, ks, y2, y3, hks, oks, eks, rfl⟩
      rw [en] at eks
      exact ⟨_, rfl, q G D s1 hD ⟨ks, hks, oks, eks⟩⟩
end
end S11

namespace S11
open PySem L2 GM
open PySem.W (EachIs)
def manyB : V → Bool
  | .int i => decide (1 ≤ i) && decide (i ≤ 4)
  | _ => false
theorem Odd.noMany {H : Hp} {v : V} {T : String} {t : Str} (h : Odd H v T t) (ne : T ≠ "int") : manyB v = false := by
  cases h with
  | prt p =>
    cases p with
    | int h => exact absurd rfl ne
    | _ => rfl
  | row e p few => rfl
  | lst e n p few => rfl
theorem manyB_int {v : V} (h : manyB v = true) : ∃ k : Nat, v = .int (k : Nat) ∧ 1 ≤ k ∧ k ≤ 4 := by
  cases v with
  | int i =>
    have h' : (decide (1 ≤ i) && decide (i ≤ 4)) = true := h
    rw [Bool.and_eq_true, decide_eq_true_eq, decide_eq_true_eq] at h'
    obtain ⟨k, rfl⟩ := Int.eq_ofNat_of_zero_le (show 0 ≤ i by omega)
    exact ⟨k, rfl, by omega, by omega⟩
  | _ => cases h
theorem rep_flat (v : V) : ∀ k : Nat, (List.replicate k [v]).flatten = List.replicate k v
  | 0 => rfl
  | k + 1 => by rw [List.replicate_succ, List.flatten_cons, rep_flat v k, List.replicate_succ]; rfl
section
variable {P : Program} {w : World} {K : PySem.W.Frag} {mg : Str → Option Value} {base : Heap}
/-! ### alike_slots -/
/-- the three arguments, judged one behind the other -/
def Three (DN DC : Addr) (H : Hp) (n s m : V) (E : XK) (done : Prop) : Prop := ∃ (T1 T2 T3 : String) (t1 t2 t3 : Str), Odd H n T1 t1 ∧ Odd H s T2 t2 ∧ Odd H m T3 t3 ∧ (nameB n = false → XW DN n H E) ∧ (nameB n = true → nameB s = false → XW DN s H E) ∧
  (nameB n = true → nameB s = true → manyB m = false → XW DC m H E) ∧ (nameB n = true → nameB s = true → manyB m = true → done)
def spAlike (DN DC : Addr) : Sp := fun vs H Q E => ∃ n s m : V, vs = [n, s, m] ∧ Three DN DC H n s m E (∀ (H' : Hp) (a : Addr) (k : Nat), m = .int k → Same H H' → H a = none → H' a = some (.lst (List.replicate k s)) → Q (.ref a) H')
theorem scAlike : FnScope ["name", "sort", "many"] ["name", "sort", "many"] (defScope sTAlike) := ⟨rfl, rfl, rfl, by decide +kernel, rfl, by decide +kernel, by decide +kernel⟩
theorem ok_alike {f DN DC S : Addr} {fd : FuncData} (F : Fun K "alike_slots" "Table.alike_slots" sTAlike f fd) (CN : Cn mg) (ZC : Ive P w K mg base "InvalidCount" DC S) (DW : DfE P w K mg base "want_name" ["value"] 5 (spWantNameB DN)) (DI : Df P w K mg base "is_integer" ["value"] 1 spIsIntO) :
    FnG P w K mg base (L2.CX P w) 6 f fd ["name", "sort", "many"] (spAlike DN DC) := by
  obtain ⟨tm, gm⟩ := CN.most
  obtain ⟨oc, od', kV, doc, pm, an, cdv, ct, osl, rfl, lk, hcd⟩ := F.ex
  refine fn_ofG lk hcd scAlike (fun vs H Q E h => ?_) fun A outer s H vs Q E gd hr h => ?_
  · obtain ⟨n, s, m, rfl, _⟩ := h
    rfl
  · obtain ⟨n, so, m, rfl, T1, T2, T3, t1, t2, t3, o1, o2, o3, x1, x2, x3, done⟩ := h
    have dg : (A.deeper (PyProof.Rows.envOfC "Table.alike_slots" (defScope sTAlike) s.heap.objs.size f cdv)).guards = some [] := deeper_guards.trans gd
    have ps : Passes (L2.CX P w) (cxOf (L2.CX P w) P w K mg base ["name", "sort", "many"] "Table.alike_slots" (defScope sTAlike) f cdv A outer s H E) E := L2.passes_call (L2.takes_of (E := E) rfl rfl rfl rfl) fun _ _ _ _ z => z
    refine ⟨_, pss_cons (ps_expr (pe_dfE DW dg hr (by rfl) ps (pa_cons (pv 0) pa_nil))) (pss_cons (ps_expr (pe_dfE DW dg hr (by rfl) ps (pa_cons (pv 1) pa_nil)))
      (pss_cons (ps_if (PW.pt (pw_or (pt_not (pt_val (pe_df DI (hr.mono (by decide)) (by rfl) (pa_cons (pv 2) pa_nil)))) (pw_or1 (pt_not (pt_chain op_le op_le pe_int (pv 2) (pe_glob (v := .int 4) (by rfl) gm ⟨_, rfl⟩))))))
        (pss_one (ps_raise (by rfl) (takes_of (E := E) rfl rfl rfl rfl) (pmk_iv ZC dg (hr.mono (by decide)) (by rfl) (pa_cons (pv 2) pa_nil)))) pss_nil)
      (pss_one (ps_ret (pe_op op_rep (pe_lst (pa_cons (pv 1) pa_nil)) (pv 2)))))), ?_⟩
    refine ⟨_, rfl, n, T1, t1, rfl, o1, fun n1 H1 s1 => ?_, fun n0 => x1 n0⟩
    refine ⟨_, rfl, so, T2, t2, rfl, o2.same s1, fun n2 H2 s2 => ?_, fun n0 => (x2 n1 n0).same s1⟩
    have s12 := Same.trans s1 s2
    refine ⟨_, rfl, m, T3, t3, rfl, o3.same s12, _, rfl, ?_⟩
    have bad : manyB m = false → _ := fun no => raisedW s12 o3 (x3 n1 n2 no)
    by_cases e : T3 = "int"
    · obtain ⟨i, rfl⟩ := o3.int e
      refine iteF ⟨_, rfl, _, _, rfl, rfl, _, rfl, ?_⟩
      by_cases c1 : (1 : Int) ≤ i
      · rw [decide_eq_true c1]
        refine ⟨_, _, rfl, rfl, _, rfl, ?_⟩
        by_cases c4 : i ≤ 4
        · rw [decide_eq_true c4]
          have yes : manyB (.int i) = true := by
            show (decide (1 ≤ i) && decide (i ≤ 4)) = true
            rw [decide_eq_true c1, decide_eq_true c4]; rfl
          obtain ⟨k, rfl⟩ := Int.eq_ofNat_of_zero_le (show 0 ≤ i by omega)
          refine iteF ⟨_, rfl, (by show 1 ≤ sizeLine; decide), fun l hl => ?_⟩
          refine ⟨_, rfl, l, _, _, rfl, rfl, upd_same, by omega, by omega, by show 1 * k ≤ sizeLine; exact le_line (by omega), fun p hp => ?_⟩
          have s3 := sNew (o := .lst (List.replicate k [so]).flatten) (sNew (o := .lst [so]) s12 hl) hp
          exact done n1 n2 yes _ p k rfl s3 (Same.free (sNew s12 hl) hp) (by rw [upd_same, Int.toNat_natCast, rep_flat])
        · rw [decide_eq_false c4]
          refine iteT ⟨_, rfl, bad ?_⟩
          show (decide (1 ≤ i) && decide (i ≤ 4)) = false
          rw [decide_eq_false c4, Bool.and_false]
      · rw [decide_eq_false c1]
        refine ⟨_, rfl, iteT ⟨_, rfl, bad ?_⟩⟩
        show (decide (1 ≤ i) && decide (i ≤ 4)) = false
        rw [decide_eq_false c1, Bool.false_and]
    · rw [(o3.noInt e).1]
      exact iteT ⟨_, rfl, bad (o3.noMany e)⟩
end
end S11

namespace S11
open PySem L2 GM
open PySem.W (EachIs)
theorem nbrs_perm : ∀ n ≤ 4, ∀ o ∈ nbrs n, o.Perm (idn n) := by decide +kernel
theorem keeps_rep {k : Nat} {y : Str} {o : List Int} (p : o.Perm (idn k)) : Keeps (List.replicate k y) o := by
  refine ⟨by rw [List.length_replicate]; exact p, fun i j e => ?_⟩
  have jm := mem_idn.mp (p.mem_iff.mp (List.mem_of_getElem? e))
  have il : i < k := by
    have := (List.getElem?_eq_some_iff.mp e).1
    rwa [p.length_eq, idn_len] at this
  rw [List.getElem?_replicate, List.getElem?_replicate, if_pos (by omega), if_pos il]
theorem slots_rep {k : Nat} {y : Str} (h1 : 1 ≤ k) (h4 : k ≤ 4) (ok : NameOk y) : SlotsOk (List.replicate k y) :=
  ⟨by rw [List.length_replicate]; exact h1, by rw [List.length_replicate]; exact h4, fun z m => by rw [(List.mem_replicate.mp m).2]; exact ok⟩
theorem near_ok {k : Nat} {y : Str} {s : Int} (h4 : k ≤ 4) (hs : Sgn s) : ∀ p ∈ near k s, TurnOk (List.replicate k y) p := fun p m => by
  unfold near at m
  obtain ⟨o, ho, rfl⟩ := List.mem_map.mp m
  exact ⟨keeps_rep (nbrs_perm k h4 o ho), hs⟩
theorem near_single {k : Nat} (h1 : 1 ≤ k) (h4 : k ≤ 4) {s : Int} (hs : Sgn s) : Single k (near k s) := by
  have a := near_due k h4 h1
  rcases hs with rfl | rfl
  · exact single_of (lists_of a.1) (due_srt k h4 false).2
  · exact single_of (lists_of a.2) (due_srt k h4 true).2
theorem near_grp {k : Nat} (h1 : 1 ≤ k) (h4 : k ≤ 4) {tn : Bool} {L : List Turn} (g : Grp k (near k (if tn then -1 else 1)) L) : L = due k tn := by
  have a := near_due k h4 h1
  have d : Grp k (near k (if tn then -1 else 1)) (due k tn) := by
    refine ⟨(due_srt k h4 tn).1, ?_, (due_srt k h4 tn).2⟩
    cases tn
    · exact lists_of a.1
    · exact lists_of a.2
  exact srt_same (nodup_of_keys g.nd) (nodup_of_keys d.nd) (fun p => (g.lists p).trans (d.lists p).symm) g.srt d.srt
theorem rep_map (k : Nat) (y : Str) : List.replicate k (V.str y) = (List.replicate k y).map V.str := by rw [List.map_replicate]
section
variable {P : Program} {w : World} {K : PySem.W.Frag} {mg : Str → Option Value} {base : Heap}
/-! ### symmetric, alternating -/
def spSym (C DN DC : Addr) (tn : Bool) : Sp := fun vs H Q E => ∃ n s m : V, vs = [.ref C, n, s, m] ∧ Three DN DC H n s m E (∀ (H' : Hp) (p : Addr) (k : Nat) (z y : Str), n = .str z → s = .str y → m = .int k → NameOk z → NameOk y → 1 ≤ k → k ≤ 4 → Same H H' → H p = none → TabAt C H' p z (List.replicate k y) (due k tn) → Q (.ref p) H')
/-- the static part, read off the class -/
structure AlK (P : Program) (w : World) (K : PySem.W.Frag) (mg : Str → Option Value) (base : Heap) (C DN DC : Addr) : Prop where
  ex : ∃ mc p g fd, ClX.CRead K C mc ∧ SMet K C mc "alike_slots" p g ∧ Binds K fd ["name", "sort", "many"] [] ∧ FnG P w K mg base (L2.CX P w) 6 g fd ["name", "sort", "many"] (spAlike DN DC)
abbrev nSym : List Str := ["cls", "name", "sort", "many", "slots", "turns", "order"]
abbrev pSym : List Str := ["cls", "name", "sort", "many"]
theorem sc_sym : FnScope nSym pSym (defScope sTSym) := ⟨rfl, rfl, rfl, by decide +kernel, rfl, by decide +kernel, by decide +kernel⟩
theorem ok_sym {f C D DN DC : Addr} {fd : FuncData} (F : Fun K "symmetric" "Table.symmetric" sTSym f fd) (B : Bn mg) (M : TMk P w K mg base C D) (AL : AlK P w K mg base C DN DC) (DE : Df P w K mg base "neighbour_orders" ["many"] 1 spNeigh) : FnG P w K mg base (L2.CX P w) 8 f fd pSym (spSym C DN DC false) := by
  obtain ⟨g, mk, FI⟩ := M.ex
  obtain ⟨mc, pr, ga, fda, rd, sm, ba, GA⟩ := AL.ex
  obtain ⟨oc, od', kV, doc, pm, an, cdv, ct, osl, rfl, lk, hcd⟩ := F.ex
  refine fn_ofG lk hcd sc_sym (fun vs H Q E h => ?_) fun A outer s H vs Q E gd hr h => ?_
  · obtain ⟨n, s, m, rfl, _⟩ := h
    rfl
  · obtain ⟨n, so, m, rfl, T1, T2, T3, t1, t2, t3, o1, o2, o3, x1, x2, x3, done⟩ := h
    have dg : (A.deeper (PyProof.Rows.envOfC "Table.symmetric" (defScope sTSym) s.heap.objs.size f cdv)).guards = some [] := deeper_guards.trans gd
    have ps : Passes (L2.CX P w) (cxOf (L2.CX P w) P w K mg base nSym "Table.symmetric" (defScope sTSym) f cdv A outer s H E) E := L2.passes_call (L2.takes_of (E := E) rfl rfl rfl rfl) fun _ _ _ _ z => z
    refine ⟨_, pss_cons (ps_set (i := 4) sc_sym.nd rfl (Or.inl rfl) (pe_smethG (pv 0) rd sm GA dg (hr.mono (by decide)) ba ps (pa_cons (pv 1) (pa_cons (pv 2) (pa_cons (pv 3) pa_nil)))))
      (pss_cons (ps_setLc (i := 5) (own := [("order", 6)]) (g := gName 6) (tt := tYes) (by rfl) sc_sym.nd rfl rfl (sw_true rfl rfl rfl rfl) (pi_list (pe_df DE (hr.mono (by decide)) (by rfl) (pa_cons (pv 3) pa_nil)))
        (blkOk_by (own := [("order", 6)]) (N := nSym) (sc := defScope sTSym) (by decide +kernel)) (fun _ _ _ _ _ => pg_name (i := 6) sc_sym.nd rfl (Or.inl rfl)) (fun _ _ _ _ _ => pts_nil) (fun _ _ _ _ _ => pe_tup (pa_cons (pv 6) (pa_cons pe_int pa_nil))))
      (pss_one (ps_ret (pe_makeLS (i := 0) mk FI dg hr rfl (Or.inl rfl) ps (pa_cons (pv 1) (pa_cons (pv 4) (StX.pa_star (pv 5) pa_nil))) (by decide) (by decide) (by rfl) (by rfl))))), ?_⟩
    refine ⟨_, rfl, rfl, _, rfl, _, rfl, _, rfl, n, so, m, rfl, T1, T2, T3, t1, t2, t3, o1, o2, o3, x1, x2, x3, fun n1 n2 n3 H1 a k em s1 ha0 ha => ?_⟩
    obtain ⟨z, rfl, zok⟩ := nameB_str n1
    obtain ⟨y, rfl, yok⟩ := nameB_str n2
    obtain ⟨k', ek, k1, k4⟩ := manyB_int n3
    obtain rfl : m = .int (k : Nat) := em
    obtain rfl : k' = k := by have := V.int.inj ek; omega
    rw [rep_map] at ha
    refine ⟨_, rfl, k', rfl, k4, fun H2 r s2 hr2 ords => ?_⟩
    obtain ⟨ks, hks, oks, eks⟩ := ords
    have klen : ks.length = (nbrs k').length := by rw [← eks, List.length_map]
    have few : (nbrs k').length ≤ 3 := by unfold nbrs; rw [List.length_map, List.length_range]; omega
    refine ⟨r, rfl, ⟨_, SqL.of hks⟩, fun D5 hD5 => ?_⟩
    refine lc_it (walk_list (K := K) (a := r) (xs := ks.map fun p => V.ref p.1)) (fun i G => Same H2 G ∧ ∃ (vs : List V), G D5 = some (.lst vs) ∧ TurnsS G vs (((nbrs k').take i).map fun o => (o, (1 : Int)))) ⟨sNew (Same.refl H2) hD5, [], upd_same, .nil⟩ (fun i G _ h => SqL.of (h.1 _ _ hks)) ?_ ?_
    · rintro i v _ G hi ⟨s3, vs, hvs, tvs⟩ ⟨rfl, hv⟩
      rw [List.length_map] at hi
      obtain ⟨p, hp, rfl⟩ := map_get hv
      have hi2 : i < (nbrs k').length := by omega
      have eo : p.2 = (nbrs k')[i] := by
        have e2 : (ks.map Prod.snd)[i]? = some p.2 := by rw [List.getElem?_map, hp]; rfl
        rw [eks, List.getElem?_eq_getElem hi2] at e2
        exact (Option.some.inj e2).symm
      refine ⟨rfl, _, rfl, (by show 2 ≤ sizeLine; decide), fun TT hTT => ?_⟩
      have s4 := sNew (o := .tup [.ref p.1, .int 1]) (Same.refl G) hTT
      have hvs4 := s4 _ _ hvs
      have vl : vs.length ≤ 3 := by
        have := EachIs.length tvs
        rw [List.length_map, List.length_take] at this
        omega
      refine ⟨vs, hvs4, lt_line (by omega), sPut (Same.trans s3 s4) hD5, vs ++ [.ref TT], upd_same, ?_⟩
      rw [List.take_add_one, List.getElem?_eq_getElem hi2, List.map_append]
      refine each_snoc ((TurnsS.same s4 tvs).mono fun _ _ h => h.put hvs4) ⟨TT, p.1, rfl, ?_, ?_⟩
      · rw [upd_ne (ne_of (upd_same (H := G) (a := TT) (o := .tup [.ref p.1, .int 1])) hvs4 (fun z => by cases z)), upd_same]
      · rw [← eo]
        exact OrdIs.put (s4 _ _ (s3 _ _ (oks p (List.mem_of_getElem? hp)))) hvs4
    · rintro G ⟨s3, vs, hvs, tvs⟩
      rw [List.length_map, klen, List.take_length] at tvs
      have s13 := Same.trans s1 (Same.trans s2 s3)
      have sg : Sgn (1 : Int) := .inl rfl
      refine ⟨rfl, _, rfl, _, rfl, _, rfl, D5, vs, rfl, .inr (SqL.of hvs), fun x dy hx hdy ne => ?_⟩
      refine made_t (ss := List.replicate k' y) (T := near k' 1) zok (.inl (s3 _ _ (s2 _ _ ha))) (slots_rep k1 k4 yok) (by rw [List.append_nil]; exact TurnsS.are tvs) (near_ok k4 sg) (by unfold near; rw [List.length_map]; omega) ⟨fun no => absurd (near_single k1 k4 sg) (by rwa [List.length_replicate] at no), fun H' p L s' hp' tab grp => ?_⟩ x dy hx hdy ne
      rw [List.length_replicate] at grp
      have eL : L = due k' false := near_grp (tn := false) k1 k4 grp
      rw [eL] at tab
      exact done n1 n2 n3 H' p k' z y rfl rfl rfl zok yok k1 k4 (Same.trans s13 s') (s13.free hp') tab
theorem sc_alt : FnScope nSym pSym (defScope sTAlt) := ⟨rfl, rfl, rfl, by decide +kernel, rfl, by decide +kernel, by decide +kernel⟩
theorem ok_alt {f C D DN DC : Addr} {fd : FuncData} (F : Fun K "alternating" "Table.alternating" sTAlt f fd) (B : Bn mg) (M : TMk P w K mg base C D) (AL : AlK P w K mg base C DN DC) (DE : Df P w K mg base "neighbour_orders" ["many"] 1 spNeigh) : FnG P w K mg base (L2.CX P w) 8 f fd pSym (spSym C DN DC true) := by
  obtain ⟨g, mk, FI⟩ := M.ex
  obtain ⟨mc, pr, ga, fda, rd, sm, ba, GA⟩ := AL.ex
  obtain ⟨oc, od', kV, doc, pm, an, cdv, ct, osl, rfl, lk, hcd⟩ := F.ex
  refine fn_ofG lk hcd sc_alt (fun vs H Q E h => ?_) fun A outer s H vs Q E gd hr h => ?_
  · obtain ⟨n, s, m, rfl, _⟩ := h
    rfl
  · obtain ⟨n, so, m, rfl, T1, T2, T3, t1, t2, t3, o1, o2, o3, x1, x2, x3, done⟩ := h
    have dg : (A.deeper (PyProof.Rows.envOfC "Table.alternating" (defScope sTAlt) s.heap.objs.size f cdv)).guards = some [] := deeper_guards.trans gd
    have ps : Passes (L2.CX P w) (cxOf (L2.CX P w) P w K mg base nSym "Table.alternating" (defScope sTAlt) f cdv A outer s H E) E := L2.passes_call (L2.takes_of (E := E) rfl rfl rfl rfl) fun _ _ _ _ z => z
    refine ⟨_, pss_cons (ps_set (i := 4) sc_alt.nd rfl (Or.inl rfl) (pe_smethG (pv 0) rd sm GA dg (hr.mono (by decide)) ba ps (pa_cons (pv 1) (pa_cons (pv 2) (pa_cons (pv 3) pa_nil)))))
      (pss_cons (ps_setLc (i := 5) (own := [("order", 6)]) (g := gName 6) (tt := tYes) (by rfl) sc_alt.nd rfl rfl (sw_true rfl rfl rfl rfl) (pi_list (pe_df DE (hr.mono (by decide)) (by rfl) (pa_cons (pv 3) pa_nil)))
        (blkOk_by (own := [("order", 6)]) (N := nSym) (sc := defScope sTAlt) (by decide +kernel)) (fun _ _ _ _ _ => pg_name (i := 6) sc_alt.nd rfl (Or.inl rfl)) (fun _ _ _ _ _ => pts_nil) (fun _ _ _ _ _ => pe_tup (pa_cons (pv 6) (pa_cons (pe_un un_neg pe_int) pa_nil))))
      (pss_one (ps_ret (pe_makeLS (i := 0) mk FI dg hr rfl (Or.inl rfl) ps (pa_cons (pv 1) (pa_cons (pv 4) (StX.pa_star (pv 5) pa_nil))) (by decide) (by decide) (by rfl) (by rfl))))), ?_⟩
    refine ⟨_, rfl, rfl, _, rfl, _, rfl, _, rfl, n, so, m, rfl, T1, T2, T3, t1, t2, t3, o1, o2, o3, x1, x2, x3, fun n1 n2 n3 H1 a k em s1 ha0 ha => ?_⟩
    obtain ⟨z, rfl, zok⟩ := nameB_str n1
    obtain ⟨y, rfl, yok⟩ := nameB_str n2
    obtain ⟨k', ek, k1, k4⟩ := manyB_int n3
    obtain rfl : m = .int (k : Nat) := em
    obtain rfl : k' = k := by have := V.int.inj ek; omega
    rw [rep_map] at ha
    refine ⟨_, rfl, k', rfl, k4, fun H2 r s2 hr2 ords => ?_⟩
    obtain ⟨ks, hks, oks, eks⟩ := ords
    have klen : ks.length = (nbrs k').length := by rw [← eks, List.length_map]
    have few : (nbrs k').length ≤ 3 := by unfold nbrs; rw [List.length_map, List.length_range]; omega
    refine ⟨r, rfl, ⟨_, SqL.of hks⟩, fun D5 hD5 => ?_⟩
    refine lc_it (walk_list (K := K) (a := r) (xs := ks.map fun p => V.ref p.1)) (fun i G => Same H2 G ∧ ∃ (vs : List V), G D5 = some (.lst vs) ∧ TurnsS G vs (((nbrs k').take i).map fun o => (o, ((-1) : Int)))) ⟨sNew (Same.refl H2) hD5, [], upd_same, .nil⟩ (fun i G _ h => SqL.of (h.1 _ _ hks)) ?_ ?_
    · rintro i v _ G hi ⟨s3, vs, hvs, tvs⟩ ⟨rfl, hv⟩
      rw [List.length_map] at hi
      obtain ⟨p, hp, rfl⟩ := map_get hv
      have hi2 : i < (nbrs k').length := by omega
      have eo : p.2 = (nbrs k')[i] := by
        have e2 : (ks.map Prod.snd)[i]? = some p.2 := by rw [List.getElem?_map, hp]; rfl
        rw [eks, List.getElem?_eq_getElem hi2] at e2
        exact (Option.some.inj e2).symm
      refine ⟨rfl, _, rfl, _, rfl, (by show 2 ≤ sizeLine; decide), fun TT hTT => ?_⟩
      have s4 := sNew (o := .tup [.ref p.1, .int (-1)]) (Same.refl G) hTT
      have hvs4 := s4 _ _ hvs
      have vl : vs.length ≤ 3 := by
        have := EachIs.length tvs
        rw [List.length_map, List.length_take] at this
        omega
      refine ⟨vs, hvs4, lt_line (by omega), sPut (Same.trans s3 s4) hD5, vs ++ [.ref TT], upd_same, ?_⟩
      rw [List.take_add_one, List.getElem?_eq_getElem hi2, List.map_append]
      refine each_snoc ((TurnsS.same s4 tvs).mono fun _ _ h => h.put hvs4) ⟨TT, p.1, rfl, ?_, ?_⟩
      · rw [upd_ne (ne_of (upd_same (H := G) (a := TT) (o := .tup [.ref p.1, .int (-1)])) hvs4 (fun z => by cases z)), upd_same]
      · rw [← eo]
        exact OrdIs.put (s4 _ _ (s3 _ _ (oks p (List.mem_of_getElem? hp)))) hvs4
    · rintro G ⟨s3, vs, hvs, tvs⟩
      rw [List.length_map, klen, List.take_length] at tvs
      have s13 := Same.trans s1 (Same.trans s2 s3)
      have sg : Sgn ((-1) : Int) := .inr rfl
      refine ⟨rfl, _, rfl, _, rfl, _, rfl, D5, vs, rfl, .inr (SqL.of hvs), fun x dy hx hdy ne => ?_⟩
      refine made_t (ss := List.replicate k' y) (T := near k' (-1)) zok (.inl (s3 _ _ (s2 _ _ ha))) (slots_rep k1 k4 yok) (by rw [List.append_nil]; exact TurnsS.are tvs) (near_ok k4 sg) (by unfold near; rw [List.length_map]; omega) ⟨fun no => absurd (near_single k1 k4 sg) (by rwa [List.length_replicate] at no), fun H' p L s' hp' tab grp => ?_⟩ x dy hx hdy ne
      rw [List.length_replicate] at grp
      have eL : L = due k' true := near_grp (tn := true) k1 k4 grp
      rw [eL] at tab
      exact done n1 n2 n3 H' p k' z y rfl rfl rfl zok yok k1 k4 (Same.trans s13 s') (s13.free hp') tab
end
end S11

/-! x == y, x != y: x an instance with own methods, y of any type that the layer knows -/
namespace L2
open PySem PySem.Spec PyProof.Rows
section
variable {X : Cx} {k : Nat} {pins : List (Addr × Obj)} {σ : St} {H : Hp} {s : Shared}
/-- what the own __eq__ is asked, beside a value of any type that the layer knows -/
def rOwnEqX (K : PySem.W.Frag) (C : Addr) (sp : Sp) (neg : Bool) : R2 := fun x y H Q => ∃ a dx fs tb, x = .ref a ∧ H a = some (.ins C dx fs) ∧ TyX K H y tb ∧ PySem.W.notFirst K C tb = true ∧ sp [x, y] H (fun v H' => ∃ b, v = .bl b ∧ Q (.bl (xor neg b)) H') E0
theorem op_ownEqX {C g : Addr} {sp : Sp} (hs : PySem.W.findIn X.K (.ref C) "__eq__" = some (some (.ref g))) (hf : PySem.W.isFn X.K (.ref g) = true)
    (F : FnR X.prog X.w X.K X.mg X.base CX0 k g sp) (hr : Room k X.A) : OpR X (compareOp .Eq) (rOwnEqX X.K C sp false) := by
  intro pins s σ H x y v u Q I rx ry h
  obtain ⟨a, dx, fs, tb, rfl, ha, hy, hn, q⟩ := h
  cases (show v = Value.ref a from rx)
  obtain ⟨mA, M, _⟩ := ins_get I.hok ha
  obtain ⟨od, J, _⟩ := M.look
  obtain ⟨m, hF⟩ := I.fr
  obtain ⟨Pr, kx, pr, _⟩ := kit_of I ry hy
  show wpAny _ _ (richCompare .Eq (.ref a) u) _ _ _
  refine PySem.W.cmp_K hr.units0 hF I.ok.mod.kin J (kx.ty _ _ I.kIn pr) hn hs hf ?_
  refine wpAny_mono (run_fnA (vs := [.ref a, y]) F I.ok.frames hr I (.cons rfl (.cons ry .nil)) q) (fun w s' z => ?_) fun _ _ x => x
  obtain ⟨z', H', I', rz, b, rfl, qz⟩ := z
  obtain rfl : w = Value.bool b := rz
  exact ⟨.bl b, H', I', rfl, by rw [Bool.false_xor] at qz; exact qz⟩
theorem op_ownNeX {C g : Addr} {sp : Sp} (hs : PySem.W.findIn X.K (.ref C) "__eq__" = some (some (.ref g))) (hf : PySem.W.isFn X.K (.ref g) = true) (hne : PySem.W.findIn X.K (.ref C) "__ne__" = some (some (.builtin "object.__ne__"))) (hm : PySem.W.mroIn X.K C (.type "object") = some true)

    (F : FnR X.prog X.w X.K X.mg X.base CX0 k g sp) (hr : Room (k + 1) X.A) : OpR X (compareOp .NotEq) (rOwnEqX X.K C sp true) := by
  intro pins s σ H x y v u Q I rx ry h
  obtain ⟨a, dx, fs, tb, rfl, ha, hy, hn, q⟩ := h
  cases (show v = Value.ref a from rx)
  obtain ⟨mA, M, _⟩ := ins_get I.hok ha
  obtain ⟨od, J, _⟩ := M.look
  obtain ⟨Pr, kx, pr, _⟩ := kit_of I ry hy
  have one : wpAny (model X.prog X.w) X.A (tryCompare (.ref a) "__ne__" u) (fun r s' => ∃ v, r = some v ∧ EP X pins σ Q v s') X.xe s := by
    unfold tryCompare
    have hc : wpAny (model X.prog X.w) X.A (call (.builtin "object.__ne__") [.ref a, u]) (fun v s' => ∃ b, v = .bool b ∧ EP X pins σ Q (.bool b) s') X.xe s := by
      refine wpAny_call (codeAny_call_builtin PySem.F.cmp_object.ne.plain PySem.F.cmpEntry_ne (PySem.W.check_slot PySem.F.cmpKind_ne PySem.F.cmpSplit_ne (J.type.andThen (PySem.W.looks_mroIn I.kIn hm)) (PySem.F.cmpArgs_ne _ _) ?_))
      unfold Builtin.«object.__ne__»
      refine wpAny_bind (m := slotArgs "__ne__" 1 _) (wpAny_pure ?_)
      refine wpAny_bind (m := cRoomFor _ _) (wpAny_cRoomFor (by have := hr.un; show X.A.units + 1 < cLine; omega) ?_)
      refine wpAny_bind (m := callSpecialIfBound? (.ref a) (Str.ofString "__eq__") [u]) (PySem.W.ifBound_K I.kIn J hs hf (wpAny_mono (run_fnA (A' := X.A.in1) (vs := [.ref a, y]) F I.ok.frames hr.in1 I (.cons rfl (.cons ry .nil)) q) (fun w s' z => ?_) fun _ _ x => x))
      obtain ⟨z', H', I', rz, b, rfl, qz⟩ := z
      obtain rfl : w = Value.bool b := rz
      refine wpAny_bind (m := truthy (.bool b)) (wpAny_truthy_bool (wpAny_pure ⟨_, rfl, .bl (!b), H', I', rfl, by rw [Bool.true_xor] at qz; exact qz⟩))
    refine wpAny_bind (m := callSpecialIfBound? (.ref a) (Str.ofString "__ne__") [u]) ?_
    simp only [callSpecialIfBound?, bindSpecialIfBound?]
    refine wpAny_holding (wpAny_bind (wpAny_bind (wpAny_bind (J.type.here ((PySem.W.looks_findIn I.kIn hne).here ?_)))))
    simp only [PySem.F.cmp_object.ne.bind]
    refine wpAny_bind (wpAny_askSetting (wpAny_ite ?_))
    have fin : ∀ {Q' : Option Value → Shared → Prop}, (∀ b s', EP X pins σ Q (.bool b) s' → Q' (some (.bool b)) s') → wpAny (model X.prog X.w) X.A (call (.builtin "object.__ne__") ([.ref a] ++ [u]) >>= fun v => pure (some v)) Q' X.xe s := fun {Q'} hq => wpAny_bind (wpAny_mono hc (fun v s' ⟨b, e, h'⟩ => by subst e; exact wpAny_pure (hq b s' h')) fun _ _ h' => h')
    split
    · exact wpAny_bind (wpAny_pure (wpAny_pure (fin fun b s' h' => wpAny_pure ⟨_, rfl, h'⟩)))
    · exact wpAny_tryCatch (wpAny_bind (wpAny_pure (wpAny_pure (fin fun b s' h' => wpAny_pure ⟨_, rfl, h'⟩))))
  have apart : (Value.ref C != tb) = true → PySem.W.subIn X.K tb (.ref C) = some false := fun z => by
    rcases Bool.or_eq_true_iff.mp hn with y | y
    · exact absurd (beq_iff_eq.mp y) (by intro e; rw [e] at z; simp at z)
    · exact beq_iff_eq.mp y
  show wpAny _ _ (richCompare .NotEq (.ref a) u) _ _ _
  simp only [richCompare, oneThing_ref, cmpInfo_NotEq]
  refine wpAny_holding (wpAny_bind (wpAny_cRoomFor hr.units0 (wpAny_bind (J.type.here (wpAny_bind ((kx.ty _ _ I.kIn pr).here ?_))))))
  by_cases z : (Value.ref C != tb) = true
  · rw [if_pos z]
    exact wpAny_bind ((PySem.W.looks_subIn I.kIn (apart z)).here (wpAny_bind (wpAny_mono one (fun _ _ ⟨_, e, y⟩ => by subst e; exact wpAny_pure y) fun _ _ y => y)))
  · rw [if_neg z]
    first
      | exact wpAny_bind (wpAny_pure (wpAny_bind (wpAny_mono one (fun _ _ ⟨_, e, y⟩ => by subst e; exact wpAny_pure y) fun _ _ y => y)))
      | exact wpAny_bind (wpAny_mono one (fun _ _ ⟨_, e, y⟩ => by subst e; exact wpAny_pure y) fun _ _ y => y)
end
end L2

namespace S11
open PySem L2 GM
open PySem.W (EachIs)
section
variable {P : Program} {w : World} {K : PySem.W.Frag} {mg : Str → Option Value} {base : Heap}
theorem op_imp {X : Cx} {o : Value → Value → Sem Value} {r r' : R2} (h : OpR X o r) (i : ∀ x y H Q, r' x y H Q → r x y H Q) : OpR X o r' := fun pins s σ H x y v u Q I rx ry q => h pins s σ H x y v u Q I rx ry (i x y H Q q)
theorem call_imp {X : Cx} {c : Value} {r r' : List V → Hp → VK → Prop} (h : CallR X c r) (i : ∀ us H Q, r' us H Q → r us H Q) : CallR X c r' := fun pins s σ H us vs Q I rv q => h pins s σ H us vs Q I rv (i us H Q q)
/-! ### tables as operands -/
structure TOp (P : Program) (w : World) (K : PySem.W.Frag) (mg : Str → Option Value) (base : Heap) (C : Addr) : Prop where
  tc : Tc K mg C
  eq : ∃ g, PySem.W.findIn K (.ref C) "__eq__" = some (some (.ref g)) ∧ PySem.W.isFn K (.ref g) = true ∧ FnR P w K mg base CX0 1 g (spTEq K C)
  ne : PySem.W.findIn K (.ref C) "__ne__" = some (some (.builtin "object.__ne__"))
  repr : ∃ g fd, PySem.W.findIn K (.ref C) "__repr__" = some (some (.ref g)) ∧ PySem.W.isFn K (.ref g) = true ∧ Binds K fd ["self"] [] ∧ FnG P w K mg base CX0 3 g fd ["self"] (spTRepr C)
/-- x == y, x != y -/
def rTEq (K : PySem.W.Frag) (C : Addr) (neg : Bool) : R2 := fun x y H Q => ∃ (p : Addr) (z : Str) (ss : List Str) (L : List Turn), x = .ref p ∧ TabAt C H p z ss L ∧
  ((∃ (q : Addr) (z' : Str) (ss' : List Str) (L' : List Turn), y = .ref q ∧ TabAt C H q z' ss' L' ∧ SlotsOk ss ∧ SlotsOk ss' ∧ Q (.bl (xor neg (decide (z = z' ∧ ss = ss' ∧ L = L')))) H) ∨ ∃ T, TyX K H y (.type T) ∧ PySem.W.kitOne K (.type T) (.ref C) = some false ∧ PySem.W.subIn K (.type T) (.ref C) = some false ∧ Q (.bl neg) H)
theorem not_first {C : Addr} {T : String} (h : PySem.W.subIn K (.type T) (.ref C) = some false) : PySem.W.notFirst K C (.type T) = true := by
  unfold PySem.W.notFirst
  rw [h]
  simp
theorem teq_own {C : Addr} {neg : Bool} (N : Tc K mg C) (x y : V) (H : Hp) (Q : VK) (h : rTEq K C neg x y H Q) : rOwnEqX K C (spTEq K C) neg x y H Q := by
  obtain ⟨p, z, ss, L, rfl, tab, h⟩ := h
  obtain ⟨dx, sa, ga, h1, h2, h3⟩ := id tab
  rcases h with ⟨q, z', ss', L', rfl, tab', so, so', k⟩ | ⟨T, ty, kt, st, k⟩
  · obtain ⟨dy, sb, gb, k1, k2, k3⟩ := id tab'
    exact ⟨p, dx, _, _, rfl, h1, .base (.ins k1 N.cl N.ic N.gt N.tk N.mo), by unfold PySem.W.notFirst; simp, .inl ⟨p, q, z, z', ss, ss', L, L', rfl, tab, tab', so, so', _, rfl, k⟩⟩
  · exact ⟨p, dx, _, _, rfl, h1, ty, not_first st, .inr ⟨p, y, T, z, ss, L, rfl, tab, ty, kt, _, rfl, by rw [Bool.xor_false]; exact k⟩⟩
variable {X : Cx} {C : Addr}
theorem op_teq (N : TOp X.prog X.w X.K X.mg X.base C) (hr : Room 1 X.A) : OpR X (compareOp .Eq) (rTEq X.K C false) := by
  obtain ⟨g, h1, h2, h3⟩ := N.eq
  exact op_imp (op_ownEqX h1 h2 h3 hr) (teq_own N.tc)
theorem op_tne (N : TOp X.prog X.w X.K X.mg X.base C) (hr : Room 2 X.A) : OpR X (compareOp .NotEq) (rTEq X.K C true) := by
  obtain ⟨g, h1, h2, h3⟩ := N.eq
  exact op_imp (op_ownNeX h1 h2 N.ne N.tc.mo h3 hr) (teq_own N.tc)
/-- repr(table) -/
def rTRepr (C : Addr) : List V → Hp → VK → Prop := fun us H Q => ∃ (p : Addr) (z : Str) (ss : List Str) (L : List Turn), us = [.ref p] ∧ TabAt C H p z ss L ∧ NameOk z ∧ SlotsOk ss ∧ ∀ H', Same H H' → Q (.str (tabText z ss)) H'
theorem call_trepr (N : TOp X.prog X.w X.K X.mg X.base C) (gd : X.A.guards = some []) (hr : Room 4 X.A) : CallR X (.builtin "repr") (rTRepr C) := by
  obtain ⟨g, fd, h1, h2, b, h3⟩ := N.repr
  refine call_imp (call_reprOG h1 h2 h3 b gd hr) fun us H Q h => ?_
  obtain ⟨p, z, ss, L, rfl, tab, zok, sok, k⟩ := h
  obtain ⟨dx, sa, ga, i1, i2⟩ := id tab
  exact ⟨p, dx, _, rfl, i1, p, z, ss, L, rfl, tab, zok, sok, fun H' s => ⟨_, rfl, k H' s⟩⟩
end
end S11

namespace S11
open PySem L2 GM
open PySem.W (EachIs)
theorem Odd.tup {H : Hp} {v : V} {T : String} {t : Str} (h : Odd H v T t) (e : T = "tuple") : ∃ (a : Addr) (vs : List V) (ts : List Str), v = .ref a ∧ H a = some (.tup vs) ∧ Prts H vs ts ∧ vs.length ≤ 5 := by
  cases h with
  | prt p =>
    cases p with
    | one ea => exact ⟨_, _, _, rfl, ea, .cons (.int (i := 0) (by decide)) .nil, by decide⟩
    | _ => exact absurd e (by decide)
  | row ea p few => exact ⟨_, _, _, rfl, ea, p, few⟩
  | lst _ _ _ _ => exact absurd e (by decide)
theorem Prts.get {H : Hp} {vs : List V} {ts : List Str} (h : Prts H vs ts) : ∀ {i : Nat} {v : V}, vs[i]? = some v → ∃ T t, Prt H v T t := by
  induction h with
  | nil => intro i v e; cases e
  | @cons v T t vs ts p _ ih =>
    intro i u e
    cases i with
    | zero =>
      obtain rfl : v = u := Option.some.inj e
      exact ⟨T, t, p⟩
    | succ i => exact ih e
/-- are these places of n slots -/
def PlIs (H : Hp) (n : Nat) (v : V) (T : String) (b : Bool) : Prop := (T ≠ "tuple" ∧ b = false) ∨ (T = "tuple" ∧ ∃ (a : Addr) (vs : List V), v = .ref a ∧ H a = some (.tup vs) ∧ b = (decide (vs.length = n) && vs.all cntB))
section
variable {P : Program} {w : World} {K : PySem.W.Frag} {mg : Str → Option Value} {base : Heap}
def spTIsPlO (C : Addr) : Sp := fun vs H Q _ => ∃ (p : Addr) (v : V) (T : String) (t : Str) (z : Str) (ss : List Str) (L : List Turn), vs = [.ref p, v] ∧ TabAt C H p z ss L ∧ Odd H v T t ∧ ∀ b, PlIs H ss.length v T b → ∀ H', Same H H' → Q (.bl b) H'
theorem ok_tisplO {f C : Addr} {fd : FuncData} (F : Fun K "is_slot_places" "Table.is_slot_places" sTIsPl f fd) (B : Bn mg) (N : Tc K mg C) (DC : Df P w K mg base "is_count" ["value"] 2 spIsCountO) : FnOk P w K mg base CX0 3 f fd ["self", "value"] (spTIsPlO C) := by
  refine F.ok scTIsPl (fun vs H Q E h => ?_) (fun cdv A outer s H vs Q E hr h => ?_)
  · obtain ⟨p, v, T, t, z, ss, L, rfl, _⟩ := h
    rfl
  · obtain ⟨p, v, T, t, z, ss, L, rfl, ⟨dx, sa, ga, h1, h2, h3⟩, od, q⟩ := h
    refine ⟨_, pss_cons (ps_if (PW.pt (pw_or (pt_not (pt_val (pe_callB call_isi (by rfl) B.isi (by decide +kernel) (pa_cons (pv 1) (pa_cons (pe_bltn (v := .ty "tuple") (by rfl) B.tuple (by decide +kernel) rfl) pa_nil)))))
        (pw_or1 (pt_cmpR op_ne (pe_callB call_len_seq (by rfl) B.len PySem.boot_len (pa_cons (pv 1) pa_nil)) (pe_callB call_len_seq (by rfl) B.len PySem.boot_len (pa_cons (pe_fld (pv 0) rfl) pa_nil)) (nomark _))))) (pss_one (ps_ret pe_bl)) pss_nil)
      (pss_one (ps_ret (pe_callB (cr_all rfl) (by rfl) B.all (by decide +kernel) (pa_cons (pe_lc (own := [("place", 2)]) (g := gName 2) (tt := tYes) (te := tCall spIsCountO [] E0 (tCons (tVar 2) tNil)) (by rfl) scTIsPl.nd (pi_tup (pv 1)) (blkOk_by (own := [("place", 2)]) (N := nTIsPl) (sc := defScope sTIsPl) (by decide +kernel))
        (fun _ _ _ _ _ => pg_name (i := 2) scTIsPl.nd rfl (Or.inl rfl)) (fun _ _ _ _ _ => pts_nil) (fun _ _ _ _ _ => pe_df DC hr (by rfl) (pa_cons (pv 2) pa_nil))) pa_nil)))), ?_⟩
    have off : T ≠ "tuple" → Q (.bl false) H := fun ne => q false (.inl ⟨ne, rfl⟩) H (Same.refl H)
    rcases od.cases7 with rfl | rfl | rfl | rfl | rfl | rfl | rfl
    iterate 6 exact ⟨_, rfl, _, _, _, _, false, rfl, .ty "tuple", od.ty, kit_ty (by decide +kernel), false, rfl, iteT (off (by decide))⟩
    obtain ⟨t2, vs, ts, rfl, ht, prts, few⟩ := od.tup rfl
    have isb : ∀ b, b = (decide (vs.length = ss.length) && vs.all cntB) → ∀ H', Same H H' → Q (.bl b) H' := fun b e => q b (.inr ⟨rfl, t2, vs, rfl, ht, e⟩)
    refine ⟨_, rfl, _, _, _, _, true, rfl, .ty "tuple", od.ty, kit_ty (by decide +kernel), true, rfl, ?_⟩
    refine iteF ⟨_, rfl, t2, _, rfl, .inr (.inl (.inl ht)), _, rfl, p, C, dx, _, _, rfl, h1, N.cl, N.nS, rfl, sa, _, rfl, .inr (.inl (.inl h2)), rfl, _, rfl, ?_⟩
    by_cases e : vs.length = ss.length
    · have no : (!decide (V.int ((vs.length : Nat) : Int) = V.int (((ss.map V.str).length : Nat) : Int))) = false := by
        rw [List.length_map, e, decide_eq_true rfl] <;> rfl
      rw [no]
      refine iteF ⟨_, rfl, t2, rfl, ⟨_, .inl (.inl ht)⟩, fun D hD => ?_⟩
      refine lc_new (walk_tup (K := K) (a := t2) (xs := vs)) (fun i => (vs.map fun v => V.bl (cntB v))[i]?) (lt_line (by omega)) hD (fun H1 s1 => .inl (.inl (s1 _ _ ht))) ?_ ?_
      · rintro i x H1 _ hi s1 ⟨rfl, hx⟩ Kt Kn kt kn
        obtain ⟨T', t', pr⟩ := prts.get hx
        refine ⟨rfl, _, rfl, x, T', t', rfl, (Odd.prt pr).same s1, kt _ _ ?_ (Same.refl _)⟩
        show (vs.map fun v => V.bl (cntB v))[i]? = _
        rw [List.getElem?_map, hx] <;> rfl
      · intro H1 s1 at_
        have ek : kept (fun i => (vs.map fun v => V.bl (cntB v))[i]?) vs.length = (vs.map cntB).map V.bl := by
          have y := kept_all (ys := vs.map fun v => V.bl (cntB v)) (f := fun i => (vs.map fun v => V.bl (cntB v))[i]?) fun _ => rfl
          rw [List.length_map] at y
          rw [y, List.map_map] <;> rfl
        rw [ek] at at_
        refine ⟨D, _, rfl, SqL.of at_, ?_⟩
        refine isb _ ?_ H1 s1
        rw [decide_eq_true e, Bool.true_and, List.all_map]
        rfl
    · have yes : (!decide (V.int ((vs.length : Nat) : Int) = V.int (((ss.map V.str).length : Nat) : Int))) = true := by
        rw [List.length_map, decide_eq_false (fun z => e (by have := V.int.inj z; omega))] <;> rfl
      rw [yes]
      exact iteT (isb false (by rw [decide_eq_false e, Bool.false_and]) H (Same.refl H))
/-! ### what raises, of places that are none -/
def spPlX (C DP : Addr) : Sp := fun vs H _ E => ∃ (p : Addr) (v : V) (T : String) (t : Str) (z : Str) (ss : List Str) (L : List Turn), vs = [.ref p, v] ∧ TabAt C H p z ss L ∧ Odd H v T t ∧ (∀ b, PlIs H ss.length v T b → b = false) ∧ XW DP v H E
theorem ok_twantX {f C DP S : Addr} {fd : FuncData} (F : Fun K "want_places" "Table.want_places" sTWant f fd) (N : Tc K mg C) (ZP : Ive P w K mg base "InvalidPlaces" DP S) (MI : Mt P w K mg base C "is_slot_places" ["self", "value"] 3 (spTIsPlO C)) : FnG P w K mg base (L2.CX P w) 5 f fd ["self", "places"] (spPlX C DP) := by
  obtain ⟨fm, fdm, hm, hb, G⟩ := MI.ex
  obtain ⟨oc, od', kV, doc, pm, an, cdv, ct, osl, rfl, lk, hcd⟩ := F.ex
  refine fn_ofG lk hcd scTWant (fun vs H Q E h => ?_) fun A outer s H vs Q E gd hr h => ?_
  · obtain ⟨p, v, T, t, z, ss, L, rfl, _⟩ := h
    rfl
  · obtain ⟨p, v, T, t, z, ss, L, rfl, tab, od, no, x⟩ := h
    obtain ⟨dx, sa, ga, h1, h2, h3⟩ := id tab
    refine ⟨_, pss_one (ps_if (pt_not (pt_val (pe_meth (E := E0) (pv 0) N.cl hm G (hr.mono (by decide)) hb .nil pass0 (pa_cons (pv 1) pa_nil)))) (pss_one (ps_raise (by rfl) (takes_of (E := E) rfl rfl rfl rfl) (pmk_iv ZP (deeper_guards.trans gd) hr (by rfl) (pa_cons (pv 1) pa_nil)))) pss_nil), ?_⟩
    refine ⟨_, rfl, p, dx, _, rfl, h1, fld_none (by decide) (by decide) (by decide), _, rfl, p, v, T, t, z, ss, L, rfl, tab, od, fun b isb H1 s1 => ⟨b, rfl, ?_⟩⟩
    rw [no b isb]
    exact iteT ⟨_, rfl, raisedW s1 od x⟩
structure MtE (P : Program) (w : World) (K : PySem.W.Frag) (mg : Str → Option Value) (base : Heap) (C : Addr) (m : Str) (ps : List Str) (k : Nat) (sp : Sp) : Prop where
  ex : ∃ f fd, Meth K C m f ∧ Binds K fd ps [] ∧ FnG P w K mg base (L2.CX P w) k f fd ps sp
theorem ok_tleastX {f C DP : Addr} {fd : FuncData} (F : Fun K "least" "Table.least" sTLeast f fd) (N : Tc K mg C) (MW : MtE P w K mg base C "want_places" ["self", "places"] 5 (spPlX C DP)) : FnG P w K mg base (L2.CX P w) 6 f fd ["self", "places"] (spPlX C DP) := by
  obtain ⟨fm, fdm, hm, hb, G⟩ := MW.ex
  obtain ⟨oc, od', kV, doc, pm, an, cdv, ct, osl, rfl, lk, hcd⟩ := F.ex
  refine fn_ofG lk hcd scTLeast (fun vs H Q E h => ?_) fun A outer s H vs Q E gd hr h => ?_
  · obtain ⟨p, v, T, t, z, ss, L, rfl, _⟩ := h
    rfl
  · obtain ⟨p, v, T, t, z, ss, L, rfl, tab, od, no, x⟩ := h
    obtain ⟨dx, sa, ga, h1, h2, h3⟩ := id tab
    have ps : Passes (L2.CX P w) (cxOf (L2.CX P w) P w K mg base nTLeast "Table.least" (defScope sTLeast) f cdv A outer s H E) E := L2.passes_call (L2.takes_of (E := E) rfl rfl rfl rfl) fun _ _ _ _ z => z
    refine ⟨_, pss_cons (ps_expr (pe_methX (pv 0) N.cl hm G (deeper_guards.trans gd) hr hb ps (pa_cons (pv 1) pa_nil))) pss_never, ?_⟩
    exact ⟨_, rfl, p, dx, _, rfl, h1, fld_none (by decide) (by decide) (by decide), _, rfl, p, v, T, t, z, ss, L, rfl, tab, od, no, x⟩
theorem ok_tclassX {f C DP : Addr} {fd : FuncData} (F : Fun K "class_of" "Table.class_of" sTClass f fd) (N : Tc K mg C) (MW : MtE P w K mg base C "want_places" ["self", "places"] 5 (spPlX C DP)) : FnG P w K mg base (L2.CX P w) 6 f fd ["self", "places"] (spPlX C DP) := by
  obtain ⟨fm, fdm, hm, hb, G⟩ := MW.ex
  obtain ⟨oc, od', kV, doc, pm, an, cdv, ct, osl, rfl, lk, hcd⟩ := F.ex
  refine fn_ofG lk hcd scTClass (fun vs H Q E h => ?_) fun A outer s H vs Q E gd hr h => ?_
  · obtain ⟨p, v, T, t, z, ss, L, rfl, _⟩ := h
    rfl
  · obtain ⟨p, v, T, t, z, ss, L, rfl, tab, od, no, x⟩ := h
    obtain ⟨dx, sa, ga, h1, h2, h3⟩ := id tab
    have ps : Passes (L2.CX P w) (cxOf (L2.CX P w) P w K mg base nTClass "Table.class_of" (defScope sTClass) f cdv A outer s H E) E := L2.passes_call (L2.takes_of (E := E) rfl rfl rfl rfl) fun _ _ _ _ z => z
    refine ⟨_, pss_cons (ps_expr (pe_methX (pv 0) N.cl hm G (deeper_guards.trans gd) hr hb ps (pa_cons (pv 1) pa_nil))) pss_never, ?_⟩
    exact ⟨_, rfl, p, dx, _, rfl, h1, fld_none (by decide) (by decide) (by decide), _, rfl, p, v, T, t, z, ss, L, rfl, tab, od, no, x⟩
/-! ### Table(..), renamed, with what is no name -/
def spTInitX (DN : Addr) : Sp := fun vs H _ E => ∃ (x : Addr) (v a : V) (t : Addr) (T : String) (tt : Str), vs = [.ref x, v, a, .ref t] ∧ Odd H v T tt ∧ nameB v = false ∧ XW DN v H E
def spStarTX (DN : Addr) : Sp := fun vs H Q E => ∃ ws rest, vs = ws ++ rest ∧ ws.length = (["self", "name", "slots"] : List Str).length ∧ rest.length ≤ sizeLine ∧ ∀ p, H p = Option.none → spTInitX DN (ws ++ [V.ref p]) (upd H p (.tup rest)) Q E
theorem ok_tinitX {f DN : Addr} {fd : FuncData} (F : Fun K "__init__" "Table.__init__" sTInit f fd) (DW : DfE P w K mg base "want_name" ["value"] 5 (spWantNameB DN)) : FnRG P w K mg base (L2.CX P w) 6 f (spStarTX DN) := by
  obtain ⟨oc, od', kV, doc, pm, an, cdv, ct, osl, rfl, lk, hcd⟩ := F.ex
  refine fn_starG (ps := ["self", "name", "slots"]) (pv := "turns") lk hcd scTInit StX.cxUp (fun us rest hl => ?_) (fun A outer s H vs Q E gd hr h => ?_)
  · match us, rest, hl with
    | [u, v, x], [], _ => rfl
    | [u, v, x], a :: b, _ => rfl
  · obtain ⟨x, v, a, t, T, tt, rfl, od, no, xw⟩ := h
    have ps : Passes (L2.CX P w) (cxOf (L2.CX P w) P w K mg base nTInit "Table.__init__" (defScope sTInit) f cdv A outer s H E) E := L2.passes_call (L2.takes_of (E := E) rfl rfl rfl rfl) fun _ _ _ _ z => z
    refine ⟨_, pss_cons (ps_expr (pe_dfE DW (deeper_guards.trans gd) hr (by rfl) ps (pa_cons (pv 1) pa_nil))) pss_never, ?_⟩
    exact ⟨_, rfl, v, T, tt, rfl, od, (fun y => by rw [no] at y; cases y), fun _ => xw⟩
structure TMkX (P : Program) (w : World) (K : PySem.W.Frag) (mg : Str → Option Value) (base : Heap) (C DN : Addr) : Prop where
  ex : ∃ g, Mk K C g ∧ FnRG P w K mg base (L2.CX P w) 6 g (spStarTX DN)
def spTNamedX (C DN : Addr) : Sp := fun vs H _ E => ∃ (p : Addr) (v : V) (T : String) (tt z : Str) (ss : List Str) (L : List Turn), vs = [.ref p, v] ∧ TabAt C H p z ss L ∧ L.length ≤ 100 ∧ Odd H v T tt ∧ nameB v = false ∧ XW DN v H E
theorem ok_tnamedX {f C DN : Addr} {fd : FuncData} (F : Fun K "renamed" "Table.renamed" sTNamed f fd) (N : Tc K mg C) (M : TMkX P w K mg base C DN) : FnG P w K mg base (L2.CX P w) 8 f fd ["self", "name"] (spTNamedX C DN) := by
  obtain ⟨g, mk, FI⟩ := M.ex
  obtain ⟨oc, od', kV, doc, pm, an, cdv, ct, osl, rfl, lk, hcd⟩ := F.ex
  refine fn_ofG lk hcd scTNamed (fun vs H Q E h => ?_) fun A outer s H vs Q E gd hr h => ?_
  · obtain ⟨p, v, T, tt, z, ss, L, rfl, _⟩ := h
    rfl
  · obtain ⟨p, v, T, tt, z, ss, L, rfl, ⟨dx, sa, ga, h1, h2, gv, h3, h4⟩, few, od, no, xw⟩ := h
    have ps : Passes (L2.CX P w) (cxOf (L2.CX P w) P w K mg base ["self", "name", "turns"] "Table.renamed" (defScope sTNamed) f cdv A outer s H E) E := L2.passes_call (L2.takes_of (E := E) rfl rfl rfl rfl) fun _ _ _ _ z => z
    refine ⟨_, pss_cons (ps_set (i := 2) scTNamed.nd rfl (Or.inl rfl) (pe_fld (pv 0) rfl)) (pss_one (ps_ret (pe_makeSG mk FI (deeper_guards.trans gd) hr (by rfl) N.mgC ps (pa_cons (pv 1) (pa_cons (pe_fld (pv 0) rfl) (StX.pa_star (pv 2) pa_nil))) (by decide) (by rfl) (by rfl)))), ?_⟩
    refine ⟨_, rfl, p, C, dx, _, _, rfl, h1, N.cl, N.nT, rfl, ?_⟩
    have gl : gv.length = L.length := EachIs.length h4
    refine ⟨_, rfl, _, rfl, p, C, dx, _, _, rfl, h1, N.cl, N.nS, rfl, _, rfl, ga, gv, rfl, .inr (SqL.of h3), fun x dy hx hdy ne => ?_⟩
    refine ⟨[.ref x, v, .ref sa], gv, by rw [List.append_nil]; rfl, rfl, le_line (by omega), fun t ht => ⟨x, v, .ref sa, t, T, tt, rfl, ?_, no, ?_⟩⟩
    · exact od.same (sNew (sNew (sNew (Same.refl H) hdy) (by rw [upd_ne ne.symm]; exact hx)) ht)
    · exact XW.same (sNew (sNew (sNew (Same.refl H) hdy) (by rw [upd_ne ne.symm]; exact hx)) ht) xw
end
end S11

/-! the least places of a table whose turns are all orders -/
namespace GM
theorem idn_succ (n : Nat) : idn (n + 1) = 0 :: (idn n).map (· + 1) := by
  unfold idn
  rw [List.range_succ_eq_map, List.map_cons, List.map_map, List.map_map]
  congr 1
theorem mv_up {x : Int} {l o : List Int} (h : ∀ i ∈ o, 0 ≤ i) : mv (x :: l) (o.map (· + 1)) = mv l o := by
  unfold mv
  rw [List.map_map]
  refine List.map_congr_left fun i m => ?_
  have := h i m
  show (x :: l).getD (i + 1).toNat 0 = l.getD i.toNat 0
  rw [show (i + 1).toNat = i.toNat + 1 by omega, List.getD_cons_succ]
theorem pos_of {n : Nat} {o : List Int} (p : o.Perm (idn n)) : ∀ i ∈ o, 0 ≤ i := fun i m => (mem_idn.mp (p.mem_iff.mp m)).1
theorem perm_mv {l m : List Int} (p : l.Perm m) : ∃ o, o.Perm (idn l.length) ∧ mv l o = m := by
  induction p with
  | nil => exact ⟨[], .refl _, rfl⟩
  | @cons x l m p ih =>
    obtain ⟨o, po, e⟩ := ih
    refine ⟨0 :: o.map (· + 1), ?_, ?_⟩
    · rw [List.length_cons, idn_succ]
      exact (po.map _).cons _
    · show (x :: l).getD (0 : Int).toNat 0 :: mv (x :: l) (o.map (· + 1)) = _
      rw [mv_up (pos_of po), e]
      rfl
  | swap x y l =>
    refine ⟨1 :: 0 :: ((idn l.length).map (· + 1)).map (· + 1), ?_, ?_⟩
    · rw [List.length_cons, List.length_cons, idn_succ, idn_succ, List.map_cons]
      exact .swap _ _ _
    · have h1 : ∀ i ∈ (idn l.length).map (· + 1), (0 : Int) ≤ i := fun i m => by
        obtain ⟨j, hj, rfl⟩ := List.mem_map.mp m
        have := (mem_idn.mp hj).1
        omega
      show (y :: x :: l).getD (1 : Int).toNat 0 :: (y :: x :: l).getD (0 : Int).toNat 0 :: mv (y :: x :: l) (((idn l.length).map (· + 1)).map (· + 1)) = _
      rw [mv_up h1, mv_up fun i m => (mem_idn.mp m).1, mv_idn]
      rfl
  | @trans a b c p q ih1 ih2 =>
    obtain ⟨o1, p1, e1⟩ := ih1
    obtain ⟨o2, p2, e2⟩ := ih2
    have len : a.length = b.length := p.length_eq
    rw [← len] at p2
    refine ⟨mv o1 o2, mv_perm p1 p2, ?_⟩
    rw [← mv_mv (fits_perm p1 p2), e1, e2]
theorem sorted_low : ∀ {s m : List Int}, s.Pairwise (· ≤ ·) → m.Perm s → ¬ m < s
  | [], m, _, p => by
    rw [p.eq_nil]
    exact List.lt_irrefl _
  | a :: s, m, h, p => by
    match m, p with
    | [], p => exact absurd p.length_eq (by simp)
    | b :: m, p =>
      intro lt
      have hc := List.pairwise_cons.mp h
      have bm : b ∈ a :: s := p.mem_iff.mp List.mem_cons_self
      rcases List.cons_lt_cons_iff.mp lt with c | ⟨rfl, c⟩
      · rcases List.mem_cons.mp bm with e | e
        · omega
        · have := hc.1 b e
          omega
      · exact sorted_low hc.2 (List.Perm.cons_inv p) c
theorem ords_in : ∀ n ≤ 4, ∀ o ∈ orders n, o ∈ ords n := by decide +kernel
theorem ords_perm : ∀ n ≤ 4, ∀ o ∈ ords n, o.Perm (idn n) := by decide +kernel
theorem mem_ords {n : Nat} (h : n ≤ 4) {o : List Int} : o ∈ ords n ↔ o.Perm (idn n) := ⟨ords_perm n h o, fun p => ords_in n h o (mem_orders p)⟩
def sw (i j : Int) (k : Int) : Int := if k = i then j else if k = j then i else k
theorem sw_par : ∀ n ≤ 4, ∀ o ∈ ords n, ∀ i ∈ List.range n, ∀ j ∈ List.range n, i < j → (o.map (sw (i : Nat) (j : Nat))) ∈ ords n ∧ par (o.map (sw (i : Nat) (j : Nat))) ≠ par o := by decide +kernel
theorem mv_inj {n : Nat} {ns o o' : List Int} (l : ns.length = n) (nd : ns.Nodup) (p : o.Perm (idn n)) (p' : o'.Perm (idn n)) (e : mv ns o = mv ns o') : o = o' := by
  unfold mv at e
  have aux : ∀ a b : List Int, (∀ i ∈ a, 0 ≤ i ∧ i < n) → (∀ i ∈ b, 0 ≤ i ∧ i < n) → (a.map fun i => ns.getD i.toNat 0) = (b.map fun i => ns.getD i.toNat 0) → a = b := by
    intro a
    induction a with
    | nil =>
      intro b _ _ e
      cases b with
      | nil => rfl
      | cons _ _ => cases e
    | cons x a ih =>
      intro b ha hb e
      cases b with
      | nil => cases e
      | cons y b =>
        rw [List.map_cons, List.map_cons] at e
        have h := List.cons.inj e
        have hx := ha x List.mem_cons_self
        have hy := hb y List.mem_cons_self
        have x1 : x.toNat < ns.length := by omega
        have y1 : y.toNat < ns.length := by omega
        have e1 := h.1
        rw [List.getD_eq_getElem?_getD, List.getD_eq_getElem?_getD, List.getElem?_eq_getElem x1, List.getElem?_eq_getElem y1] at e1
        have e2 : x.toNat = y.toNat := (List.getElem?_inj x1 nd).mp (by rw [List.getElem?_eq_getElem x1, List.getElem?_eq_getElem y1]; exact congrArg some e1)
        rw [show x = y by omega, ih b (fun i m => ha i (List.mem_cons_of_mem _ m)) (fun i m => hb i (List.mem_cons_of_mem _ m)) h.2]
  exact aux o o' (fun i m => mem_idn.mp (p.mem_iff.mp m)) (fun i m => mem_idn.mp (p'.mem_iff.mp m)) e
/-- two alike places, exchanged -/
theorem mv_sw {ns : List Int} {i j : Nat} (e : ns.getD i 0 = ns.getD j 0) {o : List Int} (h : ∀ k ∈ o, 0 ≤ k) : mv ns (o.map (sw (i : Nat) (j : Nat))) = mv ns o := by
  unfold mv
  rw [List.map_map]
  refine List.map_congr_left fun k m => ?_
  have k0 := h k m
  show ns.getD (sw (i : Nat) (j : Nat) k).toNat 0 = ns.getD k.toNat 0
  unfold sw
  split
  · rename_i c
    rw [c, Int.toNat_natCast, Int.toNat_natCast, e]
  · split
    · rename_i c
      rw [c, Int.toNat_natCast, Int.toNat_natCast, e]
    · rfl
theorem twice_of {ns : List Int} (h : ¬ ns.Nodup) : ∃ i j, i < j ∧ j < ns.length ∧ ns.getD i 0 = ns.getD j 0 := by
  refine Classical.byContradiction fun no => h ?_
  refine List.pairwise_iff_getElem.mpr fun i j hi hj lt e => no ⟨i, j, lt, hj, ?_⟩
  rw [List.getD_eq_getElem?_getD, List.getD_eq_getElem?_getD, List.getElem?_eq_getElem hi, List.getElem?_eq_getElem hj, e]
/-- what the law finds -/
theorem due_least {ns lo : List Int} {tn : Bool} {g : Int} (n4 : ns.length ≤ 4) (srt : lo.Pairwise (· ≤ ·)) (p : lo.Perm ns) (plain : tn = false → g = 1) (twice : tn = true → ¬ ns.Nodup → g = 0) (once : tn = true → ns.Nodup → ∃ o ∈ ords ns.length, mv ns o = lo ∧ par o = g) :
    LeastIs (mates ns (due ns.length tn)) lo g := by
  have memM : ∀ m, m ∈ mates ns (due ns.length tn) ↔ ∃ o ∈ ords ns.length, m = (mv ns o, if tn then par o else 1) := fun m => by
    unfold mates due
    rw [List.map_map, List.mem_map]
    exact ⟨fun ⟨o, h, e⟩ => ⟨o, h, e.symm⟩, fun ⟨o, h, e⟩ => ⟨o, h, e.symm⟩⟩
  obtain ⟨o, po, eo⟩ := perm_mv p.symm
  have om := (mem_ords n4).mpr po
  refine ⟨⟨_, (memM _).mpr ⟨o, om, rfl⟩, eo⟩, fun m hm => ?_, ?_⟩
  · obtain ⟨o2, h2, rfl⟩ := (memM m).mp hm
    have p2 := (mem_ords n4).mp h2
    have q : (mv ns o2).Perm ns := by
      have z : (mv ns o2).Perm (mv ns (idn ns.length)) := p2.map _
      rwa [mv_idn] at z
    exact sorted_low srt (q.trans p.symm)
  · cases tn with
    | false =>
      refine .inl fun m hm e => ?_
      obtain ⟨o2, h2, rfl⟩ := (memM m).mp hm
      exact (plain rfl).symm
    | true =>
      by_cases nd : ns.Nodup
      · obtain ⟨o1, h1, e1, g1⟩ := once rfl nd
        refine .inl fun m hm e => ?_
        obtain ⟨o2, h2, rfl⟩ := (memM m).mp hm
        have := mv_inj rfl nd ((mem_ords n4).mp h2) ((mem_ords n4).mp h1) (e.trans e1.symm)
        rw [← g1, ← this]
        rfl
      · obtain ⟨i, j, lt, hj, e⟩ := twice_of nd
        obtain ⟨a1, a2⟩ := sw_par _ n4 o om i (List.mem_range.mpr (by omega)) j (List.mem_range.mpr hj) lt
        refine .inr ⟨twice rfl nd, (mv ns (o.map (sw (i : Nat) (j : Nat))), par (o.map (sw (i : Nat) (j : Nat)))), (mv ns o, par o), (memM _).mpr ⟨_, a1, rfl⟩, (memM _).mpr ⟨_, om, rfl⟩, ?_, eo, a2⟩
        rw [← eo]
        exact mv_sw e (pos_of po)
end GM

namespace S11
open PySem L2 GM
open PySem.W (EachIs)
theorem glue_fold (l : List Str) : ∀ acc : Array Nat, (l.foldl (fun acc p => acc ++ Str.empty.cps ++ p.cps) acc).toList = acc.toList ++ (l.map fun p => p.cps.toList).flatten := by
  induction l with
  | nil => intro acc; simp
  | cons p l ih =>
    intro acc
    rw [List.foldl_cons, ih]
    simp [Str.empty]
theorem join_empty (ys : List Str) : (Txt.join Str.empty ys).cps.toList = (ys.map fun p => p.cps.toList).flatten := by
  unfold Txt.join Builtin.Str.glued
  show ((ys.drop 1).foldl (fun acc p => acc ++ Str.empty.cps ++ p.cps) (ys.headD Str.empty).cps).toList = _
  rw [glue_fold]
  cases ys with
  | nil => simp [Str.empty]
  | cons y ys => simp
/-- single letters, one behind the other -/
theorem name_of {ys : List Str} (h1 : 1 ≤ ys.length) (h8 : ys.length ≤ 8) (one : ∀ y ∈ ys, ∃ c ∈ letters.cps.toList, y = ⟨#[c]⟩) : NameOk (Txt.join Str.empty ys) := by
  have e : ∀ l : List Str, (∀ y ∈ l, ∃ c ∈ letters.cps.toList, y = ⟨#[c]⟩) → (l.map fun p => p.cps.toList).flatten.length = l.length ∧ ∀ c ∈ (l.map fun p => p.cps.toList).flatten, c ∈ letters.cps.toList := by
    intro l
    induction l with
    | nil => intro _; exact ⟨rfl, by simp⟩
    | cons y l ih =>
      intro h
      obtain ⟨c, hc, rfl⟩ := h y List.mem_cons_self
      obtain ⟨a, b⟩ := ih fun z m => h z (List.mem_cons_of_mem _ m)
      refine ⟨by rw [List.map_cons, List.flatten_cons, List.length_append, a]; show 1 + l.length = l.length + 1; omega, fun d m => ?_⟩
      rw [List.map_cons, List.flatten_cons] at m
      rcases List.mem_append.mp m with m | m
      · rw [List.mem_singleton.mp (show d ∈ [c] from m)]; exact hc
      · exact b d m
  obtain ⟨a, b⟩ := e ys one
  rw [← join_empty] at a b
  have len : (Txt.join Str.empty ys).length = ys.length := by
    show (Txt.join Str.empty ys).cps.size = _
    rw [← Array.length_toList, a]
  exact ⟨by omega, by omega, b⟩
section
variable {P : Program} {w : World} {K : PySem.W.Frag} {mg : Str → Option Value} {base : Heap}
/-! ### _law_name -/
def spLName : Sp := fun vs H Q _ => ∃ l : Addr, vs = [.ref l] ∧ PotAt H l ∧ ∀ (H' : Hp) (z : Str), SameX l H H' → PotAt H' l → NameOk z → Q (.str z) H'
abbrev nLName : List Str := ["_law_pot_here", "_law_letters", "_law_k"]
theorem scLName : FnScope nLName ["_law_pot_here"] (defScope sLName) := ⟨rfl, rfl, rfl, by decide +kernel, rfl, by decide +kernel, by decide +kernel⟩
theorem letters_len : letters.cps.toList.length = 52 := by decide +kernel
theorem ok_lname {f : Addr} {fd : FuncData} (F : Fun K "_law_name" "_law_name" sLName f fd) (B : Bn mg) (DD : Df P w K mg base "_law_draw" ["_law_pot_here", "_law_many"] 1 spDraw) (DP : Df P w K mg base "_law_pick" ["_law_pot_here", "_law_some"] 2 spPick) : FnOk P w K mg base CX0 3 f fd ["_law_pot_here"] spLName := by
  refine F.ok scLName (fun vs H Q E h => ?_) (fun cdv A outer s H vs Q E hr h => ?_)
  · obtain ⟨l, rfl, _⟩ := h
    rfl
  · obtain ⟨l, rfl, pot, q⟩ := h
    have h1 : Room 1 _ := hr.mono (by decide)
    refine ⟨_, pss_cons (ps_set (i := 1) scLName.nd rfl (Or.inr rfl) pe_str)
      (pss_one (ps_ret (pe_join pe_str (pe_lc (own := [("_law_k", 2)]) (g := gName 2) (tt := tYes) (te := tOp rIxS (tVar 1) (tCall spDraw [] E0 (tCons (tVar 0) (tCons (tC (.int 52)) tNil)))) (by rfl) scLName.nd (pi_range1 (by rfl) B.range (pa_cons (pe_df DP hr (by rfl) (pa_cons (pv 0) (pa_cons (pe_lst (pa_cons pe_int (pa_cons pe_int (pa_cons pe_int (pa_cons pe_int (pa_cons (pe_op op_add pe_int (pe_df DD h1 (by rfl) (pa_cons (pv 0) (pa_cons pe_int pa_nil)))) pa_nil)))))) pa_nil))) pa_nil))
        (blkOk_by (own := [("_law_k", 2)]) (N := nLName) (sc := defScope sLName) (by decide +kernel)) (fun _ _ _ _ _ => pg_name (i := 2) scLName.nd rfl (Or.inl rfl)) (fun _ _ _ _ _ => pts_nil) (fun _ _ _ _ _ => pe_ix ix_str (pv 1) (pe_df DD h1 (by rfl) (pa_cons (pv 0) (pa_cons pe_int pa_nil))) (fun _ _ => rfl)))))), ?_⟩
    refine ⟨⟨_, rfl⟩, _, rfl, _, rfl, l, _, rfl, pot, by decide, by decide, fun H1 d sx1 pot1 d0 d1 => ⟨_, _, rfl, rfl, (by show 5 ≤ sizeLine; decide), fun ls hls => ?_⟩⟩
    have s2 := sNew (o := .lst [.int 1, .int 1, .int 2, .int 8, .int (1 + d)]) (Same.refl H1) hls
    have at2 := upd_same (H := H1) (a := ls) (o := .lst [.int 1, .int 1, .int 2, .int 8, .int (1 + d)])
    have nls : ls ≠ l := pot1.ne hls
    generalize upd H1 ls (.lst [.int 1, .int 1, .int 2, .int 8, .int (1 + d)]) = H2 at s2 at2
    refine ⟨l, ls, _, rfl, pot1.same s2, at2, nls, (by show 1 ≤ 5; decide), (by show 5 ≤ 1000; decide), fun H3 v sx3 pot3 hv => ?_⟩
    obtain ⟨k, rfl, k1, k8⟩ : ∃ k : Int, v = .int k ∧ 1 ≤ k ∧ k ≤ 8 := by
      rcases List.mem_cons.mp hv with rfl | hv
      · exact ⟨1, rfl, by decide, by decide⟩
      rcases List.mem_cons.mp hv with rfl | hv
      · exact ⟨1, rfl, by decide, by decide⟩
      rcases List.mem_cons.mp hv with rfl | hv
      · exact ⟨2, rfl, by decide, by decide⟩
      rcases List.mem_cons.mp hv with rfl | hv
      · exact ⟨8, rfl, by decide, by decide⟩
      · obtain rfl := List.mem_singleton.mp hv
        exact ⟨1 + d, rfl, by omega, by omega⟩
    have sx03 : SameX l H H3 := SameX.trans sx1 (SameX.trans (SameX.of s2) sx3)
    refine ⟨k, rfl, by omega, by omega, fun D hD => ?_⟩
    have nDl : D ≠ l := pot3.ne hD
    refine lc_it (walk_range (lo := 0) (n := k.toNat)) (fun i G => SameX l H3 G ∧ PotAt G l ∧ ∃ ys : List Str, G D = some (.lst (ys.map V.str)) ∧ ys.length = i ∧ ∀ y ∈ ys, ∃ c ∈ letters.cps.toList, y = ⟨#[c]⟩) ⟨SameX.of (sNew (Same.refl H3) hD), pot3.same (sNew (Same.refl H3) hD), [], upd_same, rfl, by simp⟩ (fun _ _ _ _ => trivial) ?_ ?_
    · rintro i v _ G hi ⟨sx, pg, ys, hys, yl, ok⟩ ⟨rfl, rfl⟩
      refine ⟨rfl, _, rfl, _, rfl, l, 52, rfl, pg, by decide, by decide, fun G2 e sx2 pg2 e0 e1 => ?_⟩
      have el : e.toNat < letters.cps.toList.length := by rw [letters_len]; omega
      have hat : atI letters.cps.toList e = some letters.cps.toList[e.toNat] := by unfold atI ixN; rw [if_pos e0, if_pos (by omega)]; exact List.getElem?_eq_getElem el
      refine ⟨letters, e, letters.cps.toList[e.toNat], rfl, rfl, by decide +kernel, hat, ?_⟩
      have hys2 := sx2 _ _ nDl hys
      refine ⟨_, hys2, lt_line (by rw [List.length_map]; omega), fun b o nb e => ?_, pg2.put nDl.symm, ys ++ [⟨#[letters.cps.toList[e.toNat]]⟩], by rw [upd_same, List.map_append]; rfl, by rw [List.length_append, yl]; rfl, fun y m => ?_⟩
      · rw [upd_ne (ne_of_none e hD)]
        exact sx2 _ _ nb (sx _ _ nb e)
      · rcases List.mem_append.mp m with m | m
        · exact ok y m
        · exact ⟨_, List.getElem_mem el, List.mem_singleton.mp m⟩
    · rintro G ⟨sx, pg, ys, hys, yl, ok⟩
      have each : ∀ y ∈ ys, y.length = 1 := fun y m => by
        obtain ⟨c, _, rfl⟩ := ok y m
        rfl
      have sum : (ys.map (·.length)).sum = ys.length := by
        have : ∀ l : List Str, (∀ y ∈ l, y.length = 1) → (l.map (·.length)).sum = l.length := by
          intro l
          induction l with
          | nil => intro _; rfl
          | cons y l ih =>
            intro h
            rw [List.map_cons, List.sum_cons, h y List.mem_cons_self, ih fun z m => h z (List.mem_cons_of_mem _ m), List.length_cons]
            omega
        exact this ys each
      refine ⟨_, D, ys, rfl, rfl, .inl (SqL.of hys), by rw [sum]; show ys.length + ys.length * 0 ≤ 16777216; omega, ?_⟩
      exact q G _ (SameX.trans sx03 sx) pg (name_of (by omega) (by omega) ok)
end
end S11

namespace S11
open PySem L2 GM
open PySem.W (EachIs)
def nx (n : Nat) (o : List Int) : List (List Int) := ((idn n).filter fun p => !o.contains p).map fun p => o ++ [p]
theorem grow_succ (n k : Nat) : grow n (k + 1) = (grow n k).flatMap (nx n) := rfl
theorem grow_few : ∀ n ≤ 4, ∀ k ≤ 4, (grow n k).length ≤ 24 ∧ ∀ o ∈ grow n k, o.length ≤ 4 := by decide +kernel
theorem nx_few {n : Nat} (h : n ≤ 4) (o : List Int) : (nx n o).length ≤ 4 := by
  unfold nx
  rw [List.length_map]
  exact Nat.le_trans (List.length_filter_le _ _) (by rw [idn_len]; exact h)
theorem inV_int (x : Int) (o : List Int) : inV (.int x) (o.map V.int) = o.contains x := by
  unfold inV
  rw [List.any_map]
  induction o with
  | nil => rfl
  | cons a o ih =>
    rw [List.any_cons, ih, List.contains_cons]
    congr 1
    show eqV (.int a) (.int x) = _
    by_cases h : a = x
    · subst h; simp [eqV]
    · have h' : ¬ x = a := fun e => h e.symm
      show (a == x) = (x == a)
      rw [beq_eq_false_iff_ne.mpr h, beq_eq_false_iff_ne.mpr h']
theorem flat_ints (o : List Int) : (o.map V.int).all flatV = true := by
  rw [List.all_map]
  exact List.all_eq_true.mpr fun _ _ => rfl
section
variable {P : Program} {w : World} {K : PySem.W.Frag} {mg : Str → Option Value} {base : Heap}
/-! ### _law_orders -/
def spOrders : Sp := fun vs H Q _ => ∃ n : Nat, vs = [.int n] ∧ n ≤ 4 ∧ ∀ H' r, Same H H' → H r = none → OrdsAt H' r (ords n) → Q (.ref r) H'
abbrev nOrders : List Str := ["_law_many", "_law_found", "_law_k", "_law_longer", "_law_order", "_law_position"]
theorem scOrders : FnScope nOrders ["_law_many"] (defScope sOrders) := ⟨rfl, rfl, rfl, by decide +kernel, rfl, by decide +kernel, by decide +kernel⟩
theorem ok_orders {f : Addr} {fd : FuncData} (F : Fun K "_law_orders" "_law_orders" sOrders f fd) (B : Bn mg) : FnOk P w K mg base CX0 1 f fd ["_law_many"] spOrders := by
  refine F.ok scOrders (fun vs H Q E h => ?_) (fun cdv A outer s H vs Q E hr h => ?_)
  · obtain ⟨n, rfl, _⟩ := h
    rfl
  · obtain ⟨n, rfl, n4, q⟩ := h
    refine ⟨_, pss_cons (ps_set (i := 1) scOrders.nd rfl (Or.inl rfl) (pe_lst (pa_cons (pe_tup pa_nil) pa_nil)))
      (pss_cons (ps_for PassesOwn.never rfl (pi_range1 (by rfl) B.range (pa_cons (pv 0) pa_nil)) (pg_name (i := 2) scOrders.nd rfl (Or.inl rfl))
        (pss_cons (ps_set (i := 3) scOrders.nd rfl (Or.inl rfl) (pe_lst pa_nil))
        (pss_cons (ps_for PassesOwn.never rfl (pi_list (pv 1)) (pg_name (i := 4) scOrders.nd rfl (Or.inr rfl))
          (pss_one (ps_set (i := 3) scOrders.nd rfl (Or.inl rfl) (pe_op op_cat (pv 3) (pe_lc (own := [("_law_position", 5)]) (g := gName 5) (tt := tTest (tOp (rIn K true) (tVar 5) (tVar 4))) (te := tOp (rCatA K) (tVar 4) (tTup (tCons (tVar 5) tNil))) (by rfl) scOrders.nd (pi_range1 (by rfl) B.range (pa_cons (pv 0) pa_nil))
            (blkOk_by (own := [("_law_position", 5)]) (N := nOrders) (sc := defScope sOrders) (by decide +kernel)) (fun _ _ _ _ _ => pg_name (i := 5) scOrders.nd rfl (Or.inl rfl)) (fun _ _ _ _ _ => pts_one (pt_cmpR op_notIn_seq (pv 5) (pv 4) (by rfl))) (fun _ _ _ _ _ => pe_op op_catA (pv 4) (pe_tup (pa_cons (pv 5) pa_nil))))))))
        (pss_one (ps_set (i := 1) scOrders.nd rfl (Or.inl rfl) (pv 3))))))
      (pss_one (ps_ret (pv 1)))), ?_⟩
    refine ⟨(by show 0 ≤ sizeLine; decide), fun t0 ht0 => ⟨(by show 1 ≤ sizeLine; decide), fun r0 hr0 => ?_⟩⟩
    have s1 := sNew (o := .tup []) (Same.refl H) ht0
    have at1 := upd_same (H := H) (a := t0) (o := .tup [])
    generalize upd H t0 (.tup []) = H1 at s1 at1 hr0
    have s2 := sNew (o := .lst [.ref t0]) (Same.refl H1) hr0
    have at2 := upd_same (H := H1) (a := r0) (o := .lst [.ref t0])
    generalize upd H1 r0 (.lst [.ref t0]) = H2 at s2 at2
    refine ⟨_, rfl, n, rfl, by omega, by omega, for_it (walk_range (lo := 0) (n := ((n : Nat) : Int).toNat)) (fun i σ G => Same H G ∧ ∃ (r : Addr) (y2 y3 y4 : Option V), H r = none ∧ OrdsAt G r (grow n i) ∧ σ = [some (.int n), some (.ref r), y2, y3, y4, none])
      ⟨Same.trans s1 s2, r0, none, none, none, s1.free hr0, ⟨[(t0, [])], at2, fun p m => by rw [List.mem_singleton.mp m]; exact s2 _ _ at1, rfl⟩, rfl⟩ (fun _ _ _ _ _ => trivial) ?_ ?_⟩
    · rintro i v σ _ G hi ⟨sG, r, y2, y3, y4, hr, ⟨ks, hks, oks, eks⟩, rfl⟩ ⟨rfl, rfl⟩
      rw [Int.toNat_natCast] at hi
      obtain ⟨gfew, glen⟩ := grow_few n n4 i (by omega)
      have klen : ks.length = (grow n i).length := by rw [← eks, List.length_map]
      refine ⟨(by show 0 ≤ sizeLine; decide), fun l0 hl0 => ?_⟩
      have s3 := sNew (o := .lst []) (Same.refl G) hl0
      have at3 := upd_same (H := G) (a := l0) (o := .lst [])
      generalize upd G l0 (.lst []) = G0 at s3 at3
      refine ⟨_, rfl, r, rfl, ⟨_, SqL.of (s3 _ _ hks)⟩, for_it (walk_list (K := K) (a := r) (xs := ks.map fun p => V.ref p.1)) (fun j σ G' => Same G G' ∧ ∃ (l : Addr) (y4 : Option V), H l = none ∧ OrdsAt G' l (((grow n i).take j).flatMap (nx n)) ∧ σ = [some (.int n), some (.ref r), some (.int ((0 : Int) + (i : Nat))), some (.ref l), y4, none])
        ⟨s3, l0, y4, sG.free hl0, ⟨[], at3, by simp, rfl⟩, rfl⟩ (fun j σ G' _ h => SqL.of (h.1 _ _ hks)) ?_ ?_⟩
      · rintro j v σ _ G1 hj ⟨s4, l, y4, hl, ⟨kl, hkl, okl, ekl⟩, rfl⟩ ⟨rfl, hv⟩
        rw [List.length_map] at hj
        obtain ⟨p, hp, rfl⟩ := map_get hv
        have hj2 : j < (grow n i).length := by omega
        have eo : (grow n i)[j]? = some p.2 := by rw [← eks, List.getElem?_map, hp]; rfl
        have pm := List.mem_of_getElem? hp
        have hpo : OrdIs G1 p := s4 _ _ (oks p pm)
        have plen : p.2.length ≤ 4 := glen p.2 (List.mem_of_getElem? eo)
        have kfew : kl.length ≤ 96 := by
          have e1 : kl.length = (((grow n i).take j).flatMap (nx n)).length := by rw [← ekl, List.length_map]
          have e2 : ∀ m : List (List Int), (m.flatMap (nx n)).length ≤ 4 * m.length := by
            intro m
            induction m with
            | nil => exact Nat.le_refl _
            | cons a m ih =>
              have := nx_few n4 a
              rw [List.flatMap_cons, List.length_append, List.length_cons]
              omega
          have e3 := e2 ((grow n i).take j)
          rw [List.length_take] at e3
          omega
        refine ⟨_, rfl, _, rfl, n, rfl, by omega, by omega, fun D hD => ?_⟩
        refine lc_it (walk_range (lo := 0) (n := ((n : Nat) : Int).toNat)) (fun q G' => Same G1 G' ∧ ∃ kd : List (Addr × List Int), G' D = some (.lst (kd.map fun p => V.ref p.1)) ∧ (∀ p ∈ kd, OrdIs G' p) ∧ kd.map Prod.snd = (((idn n).take q).filter fun x => !p.2.contains x).map fun x => p.2 ++ [x]) ⟨sNew (Same.refl G1) hD, [], upd_same, by simp, rfl⟩ (fun _ _ _ _ => trivial) ?_ ?_
        · rintro q v _ G2 hq ⟨s5, kd, hkd, okd, ekd⟩ ⟨rfl, rfl⟩
          rw [Int.toNat_natCast] at hq
          have e0 : (0 : Int) + (q : Nat) = (q : Nat) := by omega
          have qi : (idn n)[q]? = some (q : Int) := by
            unfold idn
            rw [List.getElem?_map, List.getElem?_range hq]
            rfl
          have hpo2 : OrdIs G2 p := s5 _ _ hpo
          have dlen : kd.length ≤ 4 := by
            have := congrArg List.length ekd
            rw [List.length_map, List.length_map] at this
            have le := List.length_filter_le (fun x => !p.2.contains x) ((idn n).take q)
            rw [List.length_take] at le
            omega
          refine ⟨rfl, _, rfl, _, rfl, p.1, p.2.map V.int, rfl, .inr (.inl (.inl hpo2)), rfl, flat_ints _, _, rfl, ?_⟩
          have ev : (if true = true then !inV (V.int ((0 : Int) + (q : Nat))) (p.2.map V.int) else inV (V.int ((0 : Int) + (q : Nat))) (p.2.map V.int)) = !p.2.contains (q : Int) := by rw [if_pos rfl, e0, inV_int]
          have step : ∀ b, (!p.2.contains (q : Int)) = b → (((idn n).take (q + 1)).filter fun x => !p.2.contains x).map (fun x => p.2 ++ [x]) = (((idn n).take q).filter fun x => !p.2.contains x).map (fun x => p.2 ++ [x]) ++ (if b then [p.2 ++ [(q : Int)]] else []) := fun b e => by
            rw [List.take_add_one, qi, List.filter_append, List.map_append]
            congr 1
            show ((([(q : Int)] : List Int).filter fun x => !p.2.contains x).map fun x => p.2 ++ [x]) = _
            cases b
            · rw [List.filter_cons, if_neg (by rw [e]; decide)]; rfl
            · rw [List.filter_cons, if_pos e]; rfl
          show (if (if true = true then !inV (V.int ((0 : Int) + (q : Nat))) (p.2.map V.int) else inV (V.int ((0 : Int) + (q : Nat))) (p.2.map V.int)) = true then _ else _)
          rw [ev]
          cases b : !p.2.contains (q : Int) with
          | false =>
            refine iteF ⟨s5, kd, hkd, okd, ?_⟩
            rw [step false b, ekd]
            simp
          | true =>
            refine iteT ⟨_, rfl, _, rfl, (by show 1 ≤ sizeLine; decide), fun t ht => ?_⟩
            have s6 := sNew (o := .tup [V.int ((0 : Int) + (q : Nat))]) (Same.refl G2) ht
            have at6 : upd G2 t (.tup [V.int ((0 : Int) + (q : Nat))]) t = some (.tup [V.int (q : Int)]) := by rw [upd_same, e0]
            generalize upd G2 t (.tup [V.int ((0 : Int) + (q : Nat))]) = G3 at s6 at6
            have fin : ∀ (G4 : Hp) (u : Addr), Same G3 G4 → G4 u = some (.tup ((p.2 ++ [(q : Int)]).map V.int)) → ∃ acc, G4 D = some (.lst acc) ∧ acc.length < sizeLine ∧ Same G1 (upd G4 D (.lst (acc ++ [.ref u]))) ∧
                ∃ kd : List (Addr × List Int), upd G4 D (.lst (acc ++ [.ref u])) D = some (.lst (kd.map fun p => V.ref p.1)) ∧ (∀ p ∈ kd, OrdIs (upd G4 D (.lst (acc ++ [.ref u]))) p) ∧ kd.map Prod.snd = (((idn n).take (q + 1)).filter fun x => !p.2.contains x).map fun x => p.2 ++ [x] := fun G4 u s7 hu => by
              have hkd4 := s7 _ _ (s6 _ _ hkd)
              refine ⟨_, hkd4, lt_line (by rw [List.length_map]; omega), sPut (Same.trans s5 (Same.trans s6 s7)) hD, kd ++ [(u, p.2 ++ [(q : Int)])], by rw [upd_same, List.map_append]; rfl, fun p' m => ?_, ?_⟩
              · rcases List.mem_append.mp m with m | m
                · exact OrdIs.put (s7 _ _ (s6 _ _ (okd p' m))) hkd4
                · rw [List.mem_singleton.mp m]
                  exact OrdIs.put (show OrdIs G4 (u, p.2 ++ [(q : Int)]) from hu) hkd4
              · rw [step true b, ← ekd, List.map_append]
                rfl
            refine ⟨p.1, t, p.2.map V.int, [V.int (q : Int)], rfl, rfl, .inl (.inl (s6 _ _ hpo2)), .inl (.inl at6), le_line (by rw [List.length_map]; show p.2.length + 1 ≤ 2000000; omega), fun e => ?_, fun _ e => (by cases e), fun _ _ u hu => ?_⟩
            · have : p.2 = [] := by simpa using e
              exact fin G3 t (Same.refl G3) (by rw [at6, this]; rfl)
            · exact fin _ u (sNew (Same.refl G3) hu) (by rw [upd_same, List.map_append]; rfl)
        · rintro G2 ⟨s5, kd, hkd, okd, ekd⟩
          rw [Int.toNat_natCast, List.take_of_length_le (by rw [idn_len]; exact Nat.le_refl _)] at ekd
          have hkl2 := s5 _ _ hkl
          have dlen : kd.length ≤ 4 := by
            have := congrArg List.length ekd
            rw [List.length_map] at this
            have le := nx_few n4 p.2
            unfold nx at le
            omega
          refine ⟨l, D, _, _, rfl, rfl, hkl2, hkd, le_line (by rw [List.length_map, List.length_map]; omega), fun u hu => ?_⟩
          have s6 := sNew (o := .lst (kl.map (fun p => V.ref p.1) ++ kd.map fun p => V.ref p.1)) (Same.refl G2) hu
          refine ⟨Same.trans s4 (Same.trans s5 s6), u, _, ?_, ⟨kl ++ kd, by rw [upd_same, List.map_append], fun p' m => ?_, ?_⟩, rfl⟩
          · exact Same.free (Same.trans sG (Same.trans s4 s5)) hu
          · rcases List.mem_append.mp m with m | m
            · exact s6 _ _ (s5 _ _ (okl p' m))
            · exact s6 _ _ (okd p' m)
          · rw [List.map_append, ekl, ekd, List.take_add_one, eo, List.flatMap_append]
            congr 1
            show _ = ([p.2] : List (List Int)).flatMap (nx n)
            rw [List.flatMap_cons, List.flatMap_nil, List.append_nil]
            rfl
      · rintro σ G1 ⟨s4, l, y4, hl, od, rfl⟩
        rw [List.length_map, klen, List.take_length] at od
        exact ⟨_, rfl, Same.trans sG s4, l, _, _, _, hl, od, rfl⟩
    · rintro σ G ⟨sG, r, y2, y3, y4, hr, od, rfl⟩
      rw [Int.toNat_natCast] at od
      exact ⟨_, rfl, q G r sG hr od⟩
end
end S11

/-! len(set(t)), t a tuple of numbers: any number of them may be alike -/
namespace L2
open PySem PySem.Spec PyProof.Rows
theorem len_sub : ∀ {l l' : List Int}, l.Nodup → (∀ a ∈ l, a ∈ l') → l.length ≤ l'.length
  | [], _, _, _ => Nat.zero_le _
  | a :: l, l', nd, sub => by
    have h := List.nodup_cons.mp nd
    have ma := sub a List.mem_cons_self
    have ih := len_sub (l := l) (l' := l'.erase a) h.2 fun b m => by
      have ne : b ≠ a := fun e => h.1 (e ▸ m)
      exact (List.mem_erase_of_ne ne).mpr (sub b (List.mem_cons_of_mem _ m))
    rw [List.length_erase_of_mem ma] at ih
    have : 0 < l'.length := List.length_pos_of_mem ma
    rw [List.length_cons]
    omega
theorem fewer_of : ∀ {ns : List Int}, ¬ ns.Nodup → ∃ ms : List Int, (∀ k, k ∈ ms ↔ k ∈ ns) ∧ ms.length < ns.length
  | [], h => absurd List.nodup_nil h
  | a :: t, h => by
    by_cases m : a ∈ t
    · refine ⟨t, fun k => ⟨List.mem_cons_of_mem _, fun x => ?_⟩, Nat.lt_succ_self _⟩
      rcases List.mem_cons.mp x with e | x
      · rw [e]; exact m
      · exact x
    · obtain ⟨ms, h1, h2⟩ := fewer_of (ns := t) fun nd => h (List.nodup_cons.mpr ⟨m, nd⟩)
      refine ⟨a :: ms, fun k => ?_, by rw [List.length_cons, List.length_cons]; omega⟩
      rw [List.mem_cons, List.mem_cons, h1 k]
/-- as many as there are, only if none is twice there -/
theorem count_lt {ns ks : List Int} (nd : ks.Nodup) (same : ∀ k, k ∈ ks ↔ k ∈ ns) : ks.length < ns.length ↔ ¬ ns.Nodup := by
  constructor
  · intro lt h
    have := len_sub h fun a m => (same a).mpr m
    omega
  · intro h
    obtain ⟨ms, h1, h2⟩ := fewer_of h
    have := len_sub nd fun a m => (h1 a).mpr ((same a).mp m)
    omega
section
variable {X : Cx}
def tLenSetT (K : PySem.W.Frag) (ta : TE) : TE := fun σ H Q => ta σ H fun x H1 => ∃ (l : Addr) (ns : List Int), x = V.ref l ∧ SqT K H1 l (ns.map V.int) ∧ ns.length ≤ 60 ∧ ∀ n : Nat, (n < ns.length ↔ ¬ ns.Nodup) → Q (.int (n : Nat)) H1
theorem pe_lenSetT {a : Expr} {ta : TE} {p p2 q pos : Pos} (hc : X.calm = true) (hg : Gl X "len") (hm : X.mg "len" = none) (hg2 : Gl X "set") (hm2 : X.mg "set" = none) (ha : PE X a ta)
    (na : starEach [a] X.env = (false, eval a X.env) :: starEach [] X.env := by rfl) : PE X (.Call (.Name "len" p) [.Call (.Name "set" p2) [a] [] q] [] pos) (tLenSetT X.K ta) := by
  constructor
  intro pins s0 σ H W J ask
  refine Call_ (ld_blt J hg hm PySem.boot_len (PyProof.Rows.callWith_builtin1 (PyProof.Rows.args_cons (Call_ (ld_blt J hg2 hm2 PyProof.Rows.boot_set (PyProof.Rows.callWith_type1 (PyProof.Rows.args_cons (thn (ha.run pins s0 σ H _ J ask) ?_) na) na rfl))) rfl) rfl rfl))
  rintro v s1 ⟨x, H1, J1, rel, l, ns, rfl, hq, few, ask1⟩
  refine PyProof.Rows.args_nil ?_
  cases rel
  obtain ⟨its, rv, at_, hz⟩ := J1.tuple hq
  refine call_set_tupI ns (J1.ok.hd hc) at_ (by simpa using rv.ints) (by unfold scanBound; omega) fun h' tk c hS hcl hk => PyProof.Rows.args_nil ?_
  obtain ⟨o, es, ep, t, ho, hex, hd, _, nd, mem, _, hf, hn, _⟩ := hS
  have J2 : Inv X pins σ H1 { s1 with heap := h', toks := tk } := J1.kept hk
  have cnt : es.size < ns.length ↔ ¬ ns.Nodup := by
    have := count_lt (ns := ns) (ks := es.toList.map keyOf) nd fun k => by rw [← mem k, decide_eq_true_iff]
    rwa [List.length_map, Array.length_toList] at this
  exact call_len_set ho hex hd hf (by rw [hn] <;> omega) ⟨.int es.size, H1, J2.tok _, ⟨_, rfl⟩, ask1 es.size cnt⟩
end
end L2

namespace S11
open PySem L2 GM
open PySem.W (EachIs)
theorem cut_from (xs : List V) (k : Nat) (h : k ≤ xs.length) : cutV xs (some (k : Int)) none = xs.drop k := by
  unfold cutV
  rw [HT.sIx_nat, HT.sIx_none, Nat.min_eq_left h]
  refine List.take_of_length_le ?_
  rw [List.length_drop]
  exact Nat.le_refl _
theorem kept_ints {t : List Int} {p : Int → Bool} {f : Nat → Option V} (h : ∀ i, f i = (t[i]?).bind fun y => if p y then some (V.int y) else none) : kept f t.length = (t.filter p).map V.int := by
  have e : f = fun i => (t[i]?).bind fun y => if p y then some (V.int y) else none := funext h
  subst e
  unfold kept
  induction t with
  | nil => rfl
  | cons y t ih =>
    rw [List.length_cons, List.range_succ_eq_map, List.filterMap_cons, List.filterMap_map]
    have ih' := ih fun i => rfl
    cases c : p y with
    | true =>
      rw [List.filter_cons, if_pos c]
      rw [show ((y :: t)[0]?.bind fun y => if p y then some (V.int y) else none) = (if p y then some (V.int y) else none) from rfl, if_pos c]
      exact congrArg (V.int y :: ·) ih'
    | false =>
      rw [List.filter_cons, if_neg (by rw [c]; decide)]
      rw [show ((y :: t)[0]?.bind fun y => if p y then some (V.int y) else none) = (if p y then some (V.int y) else none) from rfl, if_neg (by rw [c]; decide)]
      exact ih'
theorem cut_whole {xs : List V} {lo hi : Option Int} (h : HT.sIx xs.length 0 lo = 0 ∧ HT.sIx xs.length xs.length hi = xs.length) : cutV xs lo hi = xs := by
  unfold cutV
  rw [h.1, h.2, List.drop_zero, Nat.sub_zero, List.take_length]
/-- a part of a tuple, whatever object holds it -/
def rSlU : V → Option Int → Option Int → Hp → VK → Prop := fun x lo hi H Q => ∃ a xs, x = .ref a ∧ H a = some (.tup xs) ∧ ∀ c H', Same H H' → H' c = some (.tup (cutV xs lo hi)) → Q (.ref c) H'
theorem sl_tupU {X : Cx} : SlR X rSlU := by
  intro pins s σ H x v vl vu lo hi sl Q I rx hs pl pu h
  obtain ⟨a, xs, rfl, hx, q⟩ := h
  exact sl_tupA pins s σ H _ v vl vu lo hi sl Q I rx hs pl pu ⟨a, xs, rfl, .inl (.inl hx), fun wh => q a H (Same.refl H) (by rw [cut_whole wh]; exact hx), fun _ p hp => q p _ (sNew (Same.refl H) hp) upd_same⟩
section
variable {P : Program} {w : World} {K : PySem.W.Frag} {mg : Str → Option Value} {base : Heap}
/-! ### _law_parity -/
def spParity : Sp := fun vs H Q _ => ∃ (t : Addr) (o : List Int), vs = [.ref t] ∧ OrdIs H (t, o) ∧ o.length ≤ 8 ∧ ∀ H', Same H H' → Q (.int (par o)) H'
abbrev nParity : List Str := ["_law_order", "_law_swaps", "_law_k", "_law_first", "_law_second"]
theorem scParity : FnScope nParity ["_law_order"] (defScope sParity) := ⟨rfl, rfl, rfl, by decide +kernel, rfl, by decide +kernel, by decide +kernel⟩
theorem ok_parity {f : Addr} {fd : FuncData} (F : Fun K "_law_parity" "_law_parity" sParity f fd) (B : Bn mg) : FnOk P w K mg base CX0 1 f fd ["_law_order"] spParity := by
  refine F.ok scParity (fun vs H Q E h => ?_) (fun cdv A outer s H vs Q E hr h => ?_)
  · obtain ⟨t, o, rfl, _⟩ := h
    rfl
  · obtain ⟨t, o, rfl, ht, few, q⟩ := h
    refine ⟨_, pss_cons (ps_set (i := 1) scParity.nd rfl (Or.inl rfl) pe_int)
      (pss_cons (ps_for PassesOwn.never rfl (pi_enumT (by rfl) B.enum (pa_cons (pv 0) pa_nil)) (pg_tup rfl (pgs_cons (pg_name (i := 2) scParity.nd rfl (Or.inl rfl)) (pgs_cons (pg_name (i := 3) scParity.nd rfl (Or.inr rfl)) pgs_nil)))
        (pss_one (ps_set (i := 1) scParity.nd rfl (Or.inl rfl) (pe_op op_add (pv 1) (pe_callB call_len_seq (by rfl) B.len PySem.boot_len (pa_cons (pe_lc (own := [("_law_second", 4)]) (g := gName 4) (tt := tTest (tOp (rI0 fun i j => .bl (decide (i < j))) (tVar 4) (tVar 3))) (te := tVar 4) (by rfl) scParity.nd
          (pi_tup (pe_slice sl_tupU (pv 0) (po_some (pe_op op_add (pv 2) pe_int)) po_none))
          (blkOk_by (own := [("_law_second", 4)]) (N := nParity) (sc := defScope sParity) (by decide +kernel)) (fun _ _ _ _ _ => pg_name (i := 4) scParity.nd rfl (Or.inl rfl)) (fun _ _ _ _ _ => pts_one (pt_cmpR op_lt (pv 4) (pv 3) (nomark _))) (fun _ _ _ _ _ => pv 4)) pa_nil))))))
      (pss_one (ps_ret (pe_op op_sub pe_int (pe_op op_mul pe_int (pe_op op_mod (pe_callTy call_int1 (by rfl) B.int (by decide +kernel) (pa_cons (pv 1) pa_nil)) pe_int)))))), ?_⟩
    refine ⟨_, rfl, t, _, rfl, .inl (.inl ht), for_it (walk_enumT (K := K) (a := t) (xs := o.map V.int)) (fun i σ G => Same H G ∧ ∃ (m : Nat) (y2 y3 : Option V), m + swaps (o.drop i) = swaps o ∧ σ = [some (.ref t), some (.int (m : Nat)), y2, y3, none])
      ⟨Same.refl H, 0, none, none, by rw [List.drop_zero]; omega, rfl⟩ (fun i σ G _ h => .inl (.inl (h.1 _ _ ht))) ?_ ?_⟩
    · rintro i y σ G _ hi ⟨sG, m, y2, y3, em, rfl⟩ ⟨TT, x1, x2, rfl, hT, rfl, e1, e2⟩
      obtain ⟨x, hx, rfl⟩ := map_get e2
      rw [List.length_map] at hi
      have s5 := sNew (o := .tup [x1, V.int x]) (Same.refl G) hT
      have at5 : upd G TT (.tup [x1, V.int x]) TT = some (.tup [x1, V.int x]) := upd_same
      obtain rfl : V.int ((i : Nat) : Int) = x1 := Option.some.inj e1
      generalize upd G TT (.tup [V.int ((i : Nat) : Int), V.int x]) = G0 at s5 at5
      have ht0 := s5 _ _ (sG _ _ ht)
      refine ⟨TT, _, rfl, .inl (.inl at5), rfl, _, _, rfl, _, _, rfl, rfl, ?_⟩
      have ec : ∀ k : Int, k = ((i + 1 : Nat) : Int) → cutV (o.map V.int) (some k) none = (o.drop (i + 1)).map V.int := fun k e => by
        rw [e, cut_from _ _ (by rw [List.length_map]; omega), List.map_drop]
      have eo : o.drop i = x :: o.drop (i + 1) := by
        obtain ⟨h1, h2⟩ := List.getElem?_eq_some_iff.mp hx
        rw [← h2]
        exact List.drop_eq_getElem_cons h1
      refine ⟨_, rfl, _, rfl, _, rfl, _, _, rfl, rfl, _, rfl, t, o.map V.int, rfl, ht0, fun c G1 s6 hc => ?_⟩
      rw [ec _ (by omega)] at hc
      refine ⟨c, rfl, ⟨_, .inl (.inl hc)⟩, fun D hD => ?_⟩
      refine lc_new (walk_tup (K := K) (a := c) (xs := (o.drop (i + 1)).map V.int)) (fun j => ((o.drop (i + 1))[j]?).bind fun y => if decide (y < x) then some (V.int y) else none) (lt_line (by rw [List.length_map, List.length_drop]; omega)) hD (fun H1 s1 => .inl (.inl (s1 _ _ hc))) ?_ ?_
      · rintro j v H1 _ hj s7 ⟨rfl, hv⟩ Kt Kn kt kn
        obtain ⟨y, hy, rfl⟩ := map_get hv
        refine ⟨rfl, _, rfl, _, rfl, _, _, rfl, rfl, _, rfl, ?_⟩
        rw [hy] at kt kn
        cases b : decide (y < x) with
        | false => exact iteF (kn (by show (if decide (y < x) then some (V.int y) else none) = none; rw [b]; rfl) _ (Same.refl _))
        | true => exact iteT ⟨_, rfl, kt _ _ (by show (if decide (y < x) then some (V.int y) else none) = _; rw [b]; rfl) (Same.refl _)⟩
      · intro H1 s7 at_
        rw [List.length_map, kept_ints (t := o.drop (i + 1)) (p := fun y => decide (y < x)) fun _ => rfl] at at_
        refine ⟨D, _, rfl, .inl (SqL.of at_), _, _, rfl, rfl, Same.trans sG (Same.trans s5 (Same.trans s6 s7)), _, _, _, ?_, rfl⟩
        rw [eo] at em
        rw [← em]
        show m + (((o.drop (i + 1)).filter fun y => decide (y < x)).map V.int).length + _ = m + (((o.drop (i + 1)).filter fun y => decide (y < x)).length + swaps (o.drop (i + 1)))
        rw [List.length_map, Nat.add_assoc]
    · rintro σ G ⟨sG, m, y2, y3, em, rfl⟩
      rw [List.length_map, List.drop_length] at em
      refine ⟨_, rfl, .inl ⟨_, rfl, ?_⟩⟩
      have em' : m = swaps o := em
      subst em'
      exact ⟨_, _, rfl, rfl, (by show (0 : Int) < 2; decide), _, _, rfl, rfl, .inl ⟨by decide, by decide⟩, _, _, rfl, rfl, q G sG⟩
end
end S11

namespace S11
open PySem L2 GM
open PySem.W (EachIs)
section
variable {P : Program} {w : World} {K : PySem.W.Frag} {mg : Str → Option Value} {base : Heap}
/-! ### _law_moved -/
theorem scLMoved : FnScope ["_law_places_here", "_law_order", "_law_position"] ["_law_places_here", "_law_order"] (defScope sLMoved) := ⟨rfl, rfl, rfl, by decide +kernel, rfl, by decide +kernel, by decide +kernel⟩
theorem ok_lmoved {f : Addr} {fd : FuncData} (F : Fun K "_law_moved" "_law_moved" sLMoved f fd) (T : Bn mg) : FnOk P w K mg base CX0 1 f fd ["_law_places_here", "_law_order"] (spMoved K) := by
  refine F.ok scLMoved (fun vs H Q E h => ?_) (fun cdv A outer s H vs Q E hr h => ?_)
  · obtain ⟨a, b, ns, o, rfl, _⟩ := h
    rfl
  · obtain ⟨a, b, ns, o, rfl, ha, hb, fit, few, q⟩ := h
    refine ⟨_, pss_one (ps_ret (pe_callTy call_tuple_of (by rfl) T.tuple (by decide +kernel) (pa_cons (pe_lc (own := [("_law_position", 2)]) (g := gName 2) (tt := tYes) (te := tOp (rIxT K) (tVar 0) (tVar 2)) (by rfl) scLMoved.nd (pi_tup (pv 1)) (blkOk_by (own := [("_law_position", 2)]) (N := ["_law_places_here", "_law_order", "_law_position"]) (sc := defScope sLMoved) (by decide +kernel))
      (fun _ _ _ _ _ => pg_name (i := 2) scLMoved.nd rfl (Or.inl rfl)) (fun _ _ _ _ _ => pts_nil) (fun _ _ _ _ _ => pe_ix ix_tup (pv 0) (pv 2) (fun _ _ => rfl))) pa_nil))), ?_⟩
    refine ⟨_, rfl, b, rfl, ⟨_, hb⟩, fun D hD => ?_⟩
    refine lc_new (walk_tup (K := K) (a := b) (xs := o.map V.int)) (fun i => ((mv ns o).map V.int)[i]?) (by rw [List.length_map]; exact lt_line (by omega)) hD (fun H1 s1 => sTup s1 hb) ?_ ?_
    · rintro i x H1 _ hi s1 ⟨rfl, hx⟩ Kt Kn kt kn
      obtain ⟨j, hj, rfl⟩ := map_get hx
      have hm := fit j (List.mem_of_getElem? hj)
      have lt : j.toNat < ns.length := by omega
      have here : (ns.map V.int)[j.toNat]? = some (V.int (ns.getD j.toNat 0)) := by
        rw [List.getElem?_map, List.getD_eq_getElem?_getD, List.getElem?_eq_getElem lt] <;> rfl
      refine ⟨rfl, _, rfl, _, rfl, a, _, j, V.int (ns.getD j.toNat 0), rfl, rfl, sTup s1 ha, ?_, kt _ _ ?_ (Same.refl _)⟩
      · exact at_of (j := j.toNat) (by omega) here
      · show ((mv ns o).map V.int)[i]? = _
        unfold mv
        rw [List.getElem?_map, List.getElem?_map, hj] <;> rfl
    · intro H1 s1 at_
      have e : kept (fun i => ((mv ns o).map V.int)[i]?) (o.map V.int).length = (mv ns o).map V.int := by
        have z := kept_all (ys := (mv ns o).map V.int) (f := fun i => ((mv ns o).map V.int)[i]?) fun _ => rfl
        have l : ((mv ns o).map V.int).length = (o.map V.int).length := by unfold mv; simp only [List.length_map]
        rwa [l] at z
      rw [e] at at_
      refine ⟨D, _, rfl, .inl ⟨SqL.of at_, fun p hp => ?_⟩⟩
      exact q _ p (sNew s1 hp) (s1.free hp) upd_same
/-! ### _law_places -/
def PlsAt (H : Hp) (n : Nat) (t : Addr) (ns : List Int) : Prop := H t = some (.tup (ns.map V.int)) ∧ ns.length = n ∧ ∀ i ∈ ns, 0 ≤ i ∧ i < 1000000000000000000
theorem PlsAt.same {H H' : Hp} {n : Nat} {t : Addr} {ns : List Int} (s : Same H H') (h : PlsAt H n t ns) : PlsAt H' n t ns := ⟨s _ _ h.1, h.2⟩
def spLPlaces : Sp := fun vs H Q _ => ∃ (l : Addr) (n : Nat), vs = [.ref l, .int n] ∧ PotAt H l ∧ n ≤ 4 ∧ ∀ (H' : Hp) (t : Addr) (ns : List Int), SameX l H H' → PotAt H' l → H t = none → PlsAt H' n t ns → Q (.ref t) H'
abbrev nLPlaces : List Str := ["_law_pot_here", "_law_many", "_law_far", "_law_k"]
theorem scLPlaces : FnScope nLPlaces ["_law_pot_here", "_law_many"] (defScope sLPlaces) := ⟨rfl, rfl, rfl, by decide +kernel, rfl, by decide +kernel, by decide +kernel⟩
theorem ok_lplaces {f : Addr} {fd : FuncData} (F : Fun K "_law_places" "_law_places" sLPlaces f fd) (B : Bn mg) (DD : Df P w K mg base "_law_draw" ["_law_pot_here", "_law_many"] 1 spDraw) (DP : Df P w K mg base "_law_pick" ["_law_pot_here", "_law_some"] 2 spPick) : FnOk P w K mg base CX0 3 f fd ["_law_pot_here", "_law_many"] spLPlaces := by
  refine F.ok scLPlaces (fun vs H Q E h => ?_) (fun cdv A outer s H vs Q E hr h => ?_)
  · obtain ⟨l, n, rfl, _⟩ := h
    rfl
  · obtain ⟨l, n, rfl, pot, n4, q⟩ := h
    have h1 : Room 1 _ := hr.mono (by decide)
    refine ⟨_, pss_cons (ps_set (i := 2) scLPlaces.nd rfl (Or.inr rfl) (pe_df DP hr (by rfl) (pa_cons (pv 0) (pa_cons (pe_lst (pa_cons pe_int (pa_cons pe_int (pa_cons pe_int (pa_cons (pe_op op_pow pe_int pe_int) pa_nil))))) pa_nil))))
      (pss_one (ps_ret (pe_callTy call_tuple_of (by rfl) B.tuple (by decide +kernel) (pa_cons (pe_lc (own := [("_law_k", 3)]) (g := gName 3) (tt := tYes) (te := tCall spDraw [] E0 (tCons (tVar 0) (tCons (tVar 2) tNil))) (by rfl) scLPlaces.nd (pi_range1 (by rfl) B.range (pa_cons (pv 1) pa_nil))
        (blkOk_by (own := [("_law_k", 3)]) (N := nLPlaces) (sc := defScope sLPlaces) (by decide +kernel)) (fun _ _ _ _ _ => pg_name (i := 3) scLPlaces.nd rfl (Or.inl rfl)) (fun _ _ _ _ _ => pts_nil) (fun _ _ _ _ _ => pe_df DD h1 (by rfl) (pa_cons (pv 0) (pa_cons (pv 2) pa_nil)))) pa_nil)))), ?_⟩
    refine ⟨_, rfl, _, _, rfl, rfl, ⟨by decide, by decide, by decide⟩, (by show 4 ≤ sizeLine; decide), fun s0 hs0 => ?_⟩
    have s1 := sNew (o := .lst [.int 1, .int 2, .int 4, .int (10 ^ (18 : Int).toNat)]) (Same.refl H) hs0
    have at1 := upd_same (H := H) (a := s0) (o := .lst [.int 1, .int 2, .int 4, .int (10 ^ (18 : Int).toNat)])
    generalize upd H s0 (.lst [.int 1, .int 2, .int 4, .int (10 ^ (18 : Int).toNat)]) = H1 at s1 at1
    refine ⟨l, s0, _, rfl, pot.same s1, at1, pot.ne hs0, by decide, by decide, fun H2 v sx pot2 mv => ?_⟩
    have sx2 : SameX l H H2 := SameX.trans (SameX.of s1) sx
    obtain ⟨far, rfl, f1, f2⟩ : ∃ far : Int, v = .int far ∧ 1 ≤ far ∧ far ≤ 1000000000000000000 := by
      rcases List.mem_cons.mp mv with rfl | mv
      · exact ⟨1, rfl, by decide, by decide⟩
      rcases List.mem_cons.mp mv with rfl | mv
      · exact ⟨2, rfl, by decide, by decide⟩
      rcases List.mem_cons.mp mv with rfl | mv
      · exact ⟨4, rfl, by decide, by decide⟩
      · rw [List.mem_singleton.mp mv]
        exact ⟨1000000000000000000, rfl, by decide, by decide⟩
    refine ⟨_, rfl, n, rfl, by omega, by omega, fun D hD => ?_⟩
    refine lc_it (walk_range (lo := 0) (n := ((n : Nat) : Int).toNat)) (fun i G => SameX l H2 G ∧ PotAt G l ∧ ∃ ns : List Int, G D = some (.lst (ns.map V.int)) ∧ ns.length = i ∧ ∀ i ∈ ns, 0 ≤ i ∧ i < 1000000000000000000)
      ⟨SameX.of (sNew (Same.refl H2) hD), pot2.same (sNew (Same.refl H2) hD), [], upd_same, rfl, by simp⟩ (fun _ _ _ _ => trivial) ?_ ?_
    · rintro i v _ G hi ⟨sG, potG, ns, hns, nlen, nok⟩ ⟨rfl, rfl⟩
      rw [Int.toNat_natCast] at hi
      refine ⟨rfl, _, rfl, _, rfl, l, far, rfl, potG, f1, by omega, fun H3 d sx3 pot3 d0 d1 => ?_⟩
      have nD : D ≠ l := pot2.ne hD
      have hns3 := sx3 _ _ nD hns
      refine ⟨_, hns3, lt_line (by rw [List.length_map]; omega), fun b u hb e => ?_, pot3.put nD.symm, ns ++ [d], by rw [upd_same, List.map_append]; rfl, by rw [List.length_append, nlen]; rfl, fun x m => ?_⟩
      · have ne : b ≠ D := fun z => by rw [z, hD] at e; cases e
        rw [upd_ne ne]
        exact sx3 _ _ hb (sG _ _ hb e)
      · rcases List.mem_append.mp m with m | m
        · exact nok x m
        · rw [List.mem_singleton.mp m]
          omega
    · rintro G ⟨sG, potG, ns, hns, nlen, nok⟩
      rw [Int.toNat_natCast] at nlen
      refine ⟨D, _, rfl, .inl ⟨SqL.of hns, fun t ht => ?_⟩⟩
      have hnt : H t = none := by
        cases e : H t with
        | none => rfl
        | some o =>
          have nt := potG.ne ht
          have := sG _ _ nt (sx2 _ _ nt e)
          rw [ht] at this
          cases this
      refine q _ t ns (SameX.trans sx2 (SameX.trans sG (SameX.of (sNew (Same.refl G) ht)))) (potG.put (potG.ne ht).symm) hnt ⟨upd_same, nlen, nok⟩
end
end S11

namespace S11
open PySem L2 GM
open PySem.W (EachIs)
theorem ords_len : ∀ n ≤ 4, (ords n).length ≤ 24 := fun n h => (grow_few n h n h).1
theorem ords_in_get {n i : Nat} {G : Hp} {ks : List (Addr × List Int)} {v : V} (oks : ∀ p ∈ ks, OrdIs G p) (e : ks.map Prod.snd = ords n) (hv : (ks.map fun p => V.ref p.1)[i]? = some v) : ∃ (a : Addr) (o : List Int), v = .ref a ∧ OrdIs G (a, o) ∧ (ords n)[i]? = some o ∧ o ∈ ords n := by
  obtain ⟨p, hp, rfl⟩ := map_get hv
  have eo : (ords n)[i]? = some p.2 := by rw [← e, List.getElem?_map, hp]; rfl
  exact ⟨p.1, p.2, rfl, oks p (List.mem_of_getElem? hp), eo, List.mem_of_getElem? eo⟩
section
variable {P : Program} {w : World} {K : PySem.W.Frag} {mg : Str → Option Value} {base : Heap}
/-! ### _law_least -/
def LstAt (H : Hp) (r : Addr) (ns : List Int) (tn : Bool) : Prop := ∃ (u : Addr) (lo : List Int) (g : Int), H r = some (.tup [.int g, .ref u]) ∧ H u = some (.tup (lo.map V.int)) ∧ LeastIs (mates ns (due ns.length tn)) lo g
def spLLeast : Sp := fun vs H Q _ => ∃ (t : Addr) (tn : Bool) (n : Nat) (ns : List Int), vs = [.ref t, .bl tn] ∧ PlsAt H n t ns ∧ n ≤ 4 ∧ ∀ (H' : Hp) (r : Addr), Same H H' → LstAt H' r ns tn → Q (.ref r) H'
abbrev nLLeast : List Str := ["_law_places_here", "_law_turning", "_law_least_here", "_law_signs", "_law_order"]
theorem scLLeast : FnScope nLLeast ["_law_places_here", "_law_turning"] (defScope sLLeast) := ⟨rfl, rfl, rfl, by decide +kernel, rfl, by decide +kernel, by decide +kernel⟩
theorem ok_lleast {f : Addr} {fd : FuncData} (F : Fun K "_law_least" "_law_least" sLLeast f fd) (B : Bn mg) (DO : Df P w K mg base "_law_orders" ["_law_many"] 1 spOrders) (DP : Df P w K mg base "_law_parity" ["_law_order"] 1 spParity) (DM : Df P w K mg base "_law_moved" ["_law_places_here", "_law_order"] 1 (spMoved K)) : FnOk P w K mg base CX0 2 f fd ["_law_places_here", "_law_turning"] spLLeast := by
  refine F.ok scLLeast (fun vs H Q E h => ?_) (fun cdv A outer s H vs Q E hr h => ?_)
  · obtain ⟨t, tn, n, ns, rfl, _⟩ := h
    rfl
  · obtain ⟨t, tn, n, ns, rfl, pl, n4, q⟩ := h
    obtain ⟨ht, rfl, nok⟩ := id pl
    have hu := hr.units
    refine ⟨_, pss_cons (ps_set (i := 2) scLLeast.nd rfl (Or.inr rfl) (pe_callTy call_tuple_of (by rfl) B.tuple (by decide +kernel) (pa_cons (pe_callB cr_sortTI (by rfl) B.sorted (by decide +kernel) (pa_cons (pv 0) pa_nil)) pa_nil)))
      (pss_cons (ps_if (pt_not (pt_val (pv 1))) (pss_one (ps_ret (pe_tup (pa_cons pe_int (pa_cons (pv 2) pa_nil))))) pss_nil)
      (pss_cons (ps_if (pt_cmpR op_lt (pe_lenSetT rfl (by rfl) B.len (by rfl) B.set (pv 0)) (pe_callB call_len_seq (by rfl) B.len PySem.boot_len (pa_cons (pv 0) pa_nil)) (nomark _)) (pss_one (ps_ret (pe_tup (pa_cons pe_int (pa_cons (pv 2) pa_nil))))) pss_nil)
      (pss_cons (ps_setLc (i := 3) (own := [("_law_order", 4)]) (g := gName 4) (tt := tTest (tOp (rEqD K) (tCall (spMoved K) [] E0 (tCons (tVar 0) (tCons (tVar 4) tNil))) (tVar 2))) (te := tCall spParity [] E0 (tCons (tVar 4) tNil)) (by rfl) scLLeast.nd rfl rfl (sw_true rfl rfl rfl (by decide +kernel)) (pi_list (pe_df DO hr (by rfl) (pa_cons (pe_callB call_len_seq (by rfl) B.len PySem.boot_len (pa_cons (pv 0) pa_nil)) pa_nil)))
        (blkOk_by (own := [("_law_order", 4)]) (N := nLLeast) (sc := defScope sLLeast) (by decide +kernel)) (fun _ _ _ _ _ => pg_name (i := 4) scLLeast.nd rfl (Or.inl rfl)) (fun _ _ _ _ _ => pts_one (pt_cmpR (op_eqD hu) (pe_df DM hr (by rfl) (pa_cons (pv 0) (pa_cons (pv 4) pa_nil))) (pv 2) (nomark _))) (fun _ _ _ _ _ => pe_df DP hr (by rfl) (pa_cons (pv 4) pa_nil)))
      (pss_one (ps_ret (pe_tup (pa_cons (pe_ix ix_list (pv 3) pe_int (fun _ _ => rfl)) (pa_cons (pv 2) pa_nil)))))))), ?_⟩
    refine ⟨_, rfl, t, ns, rfl, .inl (.inl ht), by omega, fun lo l0 perm srt hl0 => ?_⟩
    have s1 := sNew (o := .lst (lo.map V.int)) (Same.refl H) hl0
    have at1 := upd_same (H := H) (a := l0) (o := .lst (lo.map V.int))
    generalize upd H l0 (.lst (lo.map V.int)) = H1 at s1 at1
    refine ⟨l0, _, rfl, .inl ⟨SqL.of at1, fun u hu2 => ?_⟩⟩
    have s2 := sNew (o := .tup (lo.map V.int)) s1 hu2
    have at2 := upd_same (H := H1) (a := u) (o := .tup (lo.map V.int))
    generalize upd H1 u (.tup (lo.map V.int)) = H2 at s2 at2
    have fin : ∀ (g : Int) (G : Hp), Same H2 G → LeastIs (mates ns (due ns.length tn)) lo g → ∀ r, G r = none → Q (.ref r) (upd G r (.tup [.int g, .ref u])) := fun g G s3 lg r hr => by
      refine q _ r (Same.trans s2 (sNew s3 hr)) ⟨u, lo, g, upd_same, ?_, lg⟩
      exact sNew s3 hr _ _ at2
    refine ⟨_, rfl, tn, rfl, ?_⟩
    cases tn with
    | false =>
      refine iteT ⟨_, rfl, (by show 2 ≤ sizeLine; decide), fin 1 H2 (Same.refl _) ?_⟩
      exact due_least n4 srt perm (fun _ => rfl) (fun z => by cases z) (fun z => by cases z)
    | true =>
      refine iteF ⟨_, rfl, t, ns, rfl, .inl (.inl (s2 _ _ ht)), by omega, fun m mlt => ?_⟩
      refine ⟨_, rfl, t, _, rfl, .inr (.inl (.inl (s2 _ _ ht))), _, _, rfl, rfl, _, rfl, ?_⟩
      have lenE : decide (((m : Nat) : Int) < (((ns.map V.int).length : Nat) : Int)) = decide (¬ ns.Nodup) := by
        rw [List.length_map]
        refine decide_eq_decide.mpr ?_
        rw [← mlt]
        omega
      rw [lenE]
      by_cases nd : ns.Nodup
      · rw [decide_eq_false (by simpa using nd)]
        refine iteF ⟨_, rfl, t, _, rfl, .inr (.inl (.inl (s2 _ _ ht))), ns.length, by rw [List.length_map]; rfl, n4, fun H3 r s3 hr3 ⟨ks, hks, oks, eks⟩ => ?_⟩
        refine ⟨r, rfl, ⟨_, SqL.of hks⟩, fun D hD => ?_⟩
        have klen : ks.length = (ords ns.length).length := by rw [← eks, List.length_map]
        refine lc_new (walk_list (K := K) (a := r) (xs := ks.map fun p => V.ref p.1)) (fun i => ((ords ns.length)[i]?).bind fun o => if mv ns o = lo then some (V.int (par o)) else none) (lt_line (by have := ords_len _ n4; rw [List.length_map, klen]; omega)) hD (fun G s4 => SqL.of (s4 _ _ hks)) ?_ ?_
        · rintro i v _ G hi s4 ⟨rfl, hv⟩ Kt Kn kt kn
          obtain ⟨a, o, rfl, ho, eo, mo⟩ := ords_in_get (fun p m => s4 _ _ (oks p m)) eks hv
          have po := (mem_ords n4).mp mo
          have olen : o.length ≤ 4 := by rw [perm_len po]; exact n4
          refine ⟨rfl, _, rfl, _, rfl, t, a, ns, o, rfl, .inl (.inl (s4 _ _ (s3 _ _ (s2 _ _ ht)))), .inl (.inl ho), idn_fits po, by omega, fun G2 pm s5 hpm em => ?_⟩
          refine ⟨_, rfl, _, _, dp_ord (.inl (.inl em)), dp_ord (.inl (.inl (s5 _ _ (s4 _ _ (s3 _ _ at2))))), sh_intsT _, sh_intsT _, _, rfl, ?_⟩
          rw [eqv_ord]
          rw [eo] at kt kn
          by_cases eq : mv ns o = lo
          · rw [decide_eq_true eq]
            refine iteT ⟨_, rfl, a, o, rfl, s5 _ _ ho, by omega, fun G3 s6 => kt _ _ (if_pos eq) (Same.trans s5 s6)⟩
          · rw [decide_eq_false eq]
            exact iteF (kn (if_neg eq) _ s5)
        · intro G s4 at_
          rw [List.length_map, klen, kept_bind] at at_
          obtain ⟨o0, p0, e0⟩ := perm_mv perm.symm
          have m0 : V.int (par o0) ∈ (ords ns.length).filterMap fun o => if mv ns o = lo then some (V.int (par o)) else none := List.mem_filterMap.mpr ⟨o0, (mem_ords n4).mpr p0, if_pos e0⟩
          have all : ∀ v ∈ (ords ns.length).filterMap fun o => if mv ns o = lo then some (V.int (par o)) else none, ∃ o ∈ ords ns.length, mv ns o = lo ∧ v = V.int (par o) := fun v m => by
            obtain ⟨o, mo, e⟩ := List.mem_filterMap.mp m
            by_cases eq : mv ns o = lo
            · rw [if_pos eq] at e
              exact ⟨o, mo, eq, (Option.some.inj e).symm⟩
            · rw [if_neg eq] at e
              cases e
          generalize ((ords ns.length).filterMap fun o => if mv ns o = lo then some (V.int (par o)) else none) = S at at_ m0 all
          obtain ⟨v, sr, rfl⟩ : ∃ v sr, S = v :: sr := by
            cases S with
            | nil => cases m0
            | cons a b => exact ⟨a, b, rfl⟩
          obtain ⟨o1, mo1, e1, rfl⟩ := all v List.mem_cons_self
          refine ⟨_, rfl, D, _, _, V.int (par o1), rfl, rfl, SqL.of at_, at_of (j := 0) rfl rfl, _, rfl, (by show 2 ≤ sizeLine; decide), fin _ G (Same.trans s3 s4) ?_⟩
          exact due_least n4 srt perm (fun z => by cases z) (fun _ z => absurd nd z) fun _ _ => ⟨o1, mo1, e1, rfl⟩
      · rw [decide_eq_true (by simpa using nd)]
        refine iteT ⟨_, rfl, (by show 2 ≤ sizeLine; decide), fin 0 H2 (Same.refl _) ?_⟩
        exact due_least n4 srt perm (fun z => by cases z) (fun _ _ => rfl) fun _ z => absurd z nd
end
end S11

namespace S11
open PySem L2 GM
open PySem.W (EachIs)
theorem rg_round : ∀ n ≤ 4, 2 ≤ n → rgV 1 (n : Nat) ++ [V.int 0] = (roundO n).map V.int := by decide +kernel
theorem rg_swap : ∀ n ≤ 4, 2 ≤ n → [V.int 1, V.int 0] ++ rgV 2 (n : Nat) = (swapO n).map V.int := by decide +kernel
theorem rs_perm : ∀ n ≤ 4, 2 ≤ n → (roundO n).Perm (idn n) ∧ (swapO n).Perm (idn n) := by decide +kernel
theorem par_sgn (o : List Int) : Sgn (par o) := by
  unfold par
  have : (swaps o : Int) % 2 = 0 ∨ (swaps o : Int) % 2 = 1 := by omega
  rcases this with e | e
  · rw [e]; exact .inl rfl
  · rw [e]; exact .inr rfl
theorem two_ok {n : Nat} {y : Str} (n2 : 2 ≤ n) (n4 : n ≤ 4) (tn : Bool) : ∀ p ∈ twoWay n tn, TurnOk (List.replicate n y) p := fun p m => by
  obtain ⟨a, b⟩ := rs_perm n n4 n2
  have s : ∀ o, Sgn (if tn then par o else 1) := fun o => by
    cases tn
    · exact .inl rfl
    · exact par_sgn o
  unfold twoWay at m
  rcases List.mem_cons.mp m with rfl | m
  · exact ⟨keeps_rep a, s _⟩
  rcases List.mem_cons.mp m with rfl | m
  · exact ⟨keeps_rep b, s _⟩
  · rw [List.mem_singleton.mp m]
    exact ⟨keeps_rep a, s _⟩
theorem two_single {n : Nat} (n2 : 2 ≤ n) (n4 : n ≤ 4) (tn : Bool) : Single n (twoWay n tn) := single_of (lists_of (two_due n n4 n2 tn)) (due_srt n n4 tn).2
theorem two_grp {n : Nat} (n2 : 2 ≤ n) (n4 : n ≤ 4) {tn : Bool} {L : List Turn} (g : Grp n (twoWay n tn) L) : L = due n tn := by
  have d : Grp n (twoWay n tn) (due n tn) := ⟨(due_srt n n4 tn).1, lists_of (two_due n n4 n2 tn), (due_srt n n4 tn).2⟩
  exact srt_same (nodup_of_keys g.nd) (nodup_of_keys d.nd) (fun p => (g.lists p).trans (d.lists p).symm) g.srt d.srt
theorem TabAt.putS {C : Addr} {H : Hp} {a d : Addr} {z y : Str} {ss : List Str} {L : List Turn} {xs ys : List V} (h : TabAt C H a z ss L) (hd : H d = some (.lst (.str y :: xs))) : TabAt C (upd H d (.lst ys)) a z ss L := by
  obtain ⟨dx, sa, ga, h1, h2, gv, h3, h4⟩ := h
  have n1 : a ≠ d := ne_of h1 hd (fun z => by cases z)
  have n2 : sa ≠ d := ne_of h2 hd (fun z => by cases z)
  have n3 : ga ≠ d := fun e => by
    subst e
    rw [hd] at h3
    obtain rfl : V.str y :: xs = gv := by injection (Option.some.inj h3)
    cases h4 with
    | cons r _ =>
      obtain ⟨t, u, e, _⟩ := r
      cases e
  exact ⟨dx, sa, ga, by rw [upd_ne n1]; exact h1, by rw [upd_ne n2]; exact h2, gv, by rw [upd_ne n3]; exact h3, h4.mono fun _ _ h => h.put hd⟩
section
variable {P : Program} {w : World} {K : PySem.W.Frag} {mg : Str → Option Value} {base : Heap}
/-! ### _law_other_way -/
def spOther (C : Addr) : Sp := fun vs H Q _ => ∃ (z y : Str) (n : Nat) (tn : Bool), vs = [.str z, .str y, .int n, .bl tn] ∧ NameOk z ∧ NameOk y ∧ 2 ≤ n ∧ n ≤ 4 ∧ ∀ (H' : Hp) (p : Addr), Same H H' → H p = none → TabAt C H' p z (List.replicate n y) (due n tn) → Q (.ref p) H'
abbrev nOther : List Str := ["_law_name_here", "_law_sort", "_law_many", "_law_turning", "_law_order", "_law_swap", "_law_signs", "_law_handed", "_law_made"]
abbrev pOther : List Str := ["_law_name_here", "_law_sort", "_law_many", "_law_turning"]
theorem scOther : FnScope nOther pOther (defScope sOther) := ⟨rfl, rfl, rfl, by decide +kernel, rfl, by decide +kernel, by decide +kernel⟩
def tSigns : TE := fun σ H Q => ∃ (a b : Addr) (o u : List Int) (tn : Bool), σ[4]? = some (some (.ref a)) ∧ σ[5]? = some (some (.ref b)) ∧ σ[3]? = some (some (.bl tn)) ∧ OrdIs H (a, o) ∧ OrdIs H (b, u) ∧ o.length ≤ 8 ∧ u.length ≤ 8 ∧
  ∀ H' l, Same H H' → H l = none → H' l = some (.lst [.int (if tn then par o else 1), .int (if tn then par u else 1)]) → Q (.ref l) H'
def tMadeO (C : Addr) : TE := fun σ H Q => ∃ (z y : Str) (n : Nat) (tn : Bool) (ra rb sl d : Addr), σ[0]? = some (some (.str z)) ∧ σ[4]? = some (some (.ref ra)) ∧ σ[5]? = some (some (.ref rb)) ∧ σ[6]? = some (some (.ref sl)) ∧ σ[7]? = some (some (.ref d)) ∧
  NameOk z ∧ NameOk y ∧ 2 ≤ n ∧ n ≤ 4 ∧ OrdIs H (ra, roundO n) ∧ OrdIs H (rb, swapO n) ∧ H sl = some (.lst [.int (if tn then par (roundO n) else 1), .int (if tn then par (swapO n) else 1)]) ∧ H d = some (.lst ((List.replicate n y).map V.str)) ∧
  ∀ (H' : Hp) (p : Addr), Same H H' → H p = none → TabAt C H' p z (List.replicate n y) (due n tn) → Q (.ref p) H'
theorem ok_other {f C D : Addr} {fd : FuncData} (F : Fun K "_law_other_way" "_law_other_way" sOther f fd) (B : Bn mg) (M : TMk P w K mg base C D) (DP : Df P w K mg base "_law_parity" ["_law_order"] 1 spParity) : FnG P w K mg base (L2.CX P w) 8 f fd pOther (spOther C) := by
  obtain ⟨oc, od, kV, doc, pm, an, cdv, ct, osl, rfl, lk, hcd⟩ := F.ex
  refine fn_ofG lk hcd scOther (fun vs H Q E h => ?_) fun A outer s H vs Q E gd hr h => ?_
  · obtain ⟨z, y, n, tn, rfl, _⟩ := h
    rfl
  · obtain ⟨z, y, n, tn, rfl, zok, yok, n2, n4, q⟩ := h
    have hu := hr.units
    have h1 : Room 1 _ := hr.mono (by decide)
    have dg : (A.deeper (PyProof.Rows.envOfC "_law_other_way" (defScope sOther) s.heap.objs.size f cdv)).guards = some [] := deeper_guards.trans gd
    have ps : Passes (L2.CX P w) (cxOf (L2.CX P w) P w K mg base nOther "_law_other_way" (defScope sOther) f cdv A outer s H E) E := L2.passes_call (L2.takes_of (E := E) rfl rfl rfl rfl) fun _ _ _ _ z => z
    refine ⟨_, pss_cons (ps_set (i := 4) scOther.nd rfl (Or.inl rfl) (pe_callTy call_tuple_of (by rfl) B.tuple (by decide +kernel) (pa_cons (pe_op op_cat (pe_listRg rfl (by rfl) B.list (prg_2 (by rfl) B.range pe_int (pv 2))) (pe_lst (pa_cons pe_int pa_nil))) pa_nil)))
      (pss_cons (ps_set (i := 5) scOther.nd rfl (Or.inl rfl) (pe_callTy call_tuple_of (by rfl) B.tuple (by decide +kernel) (pa_cons (pe_op op_cat (pe_lst (pa_cons pe_int (pa_cons pe_int pa_nil))) (pe_listRg rfl (by rfl) B.list (prg_2 (by rfl) B.range pe_int (pv 2)))) pa_nil)))
      (pss_cons (ps_set (i := 6) scOther.nd rfl (Or.inl rfl) (PE.imp (t' := tSigns) (pe_ifExp (pt_val (pv 3)) (pe_lst (pa_cons (pe_df DP h1 (by rfl) (pa_cons (pv 4) pa_nil)) (pa_cons (pe_df DP h1 (by rfl) (pa_cons (pv 5) pa_nil)) pa_nil))) (pe_lst (pa_cons pe_int (pa_cons pe_int pa_nil)))) ?rSigns))
      (pss_cons (ps_set (i := 7) scOther.nd rfl (Or.inl rfl) (pe_op op_rep (pe_lst (pa_cons (pv 1) pa_nil)) (pv 2)))
      (pss_cons (ps_set (i := 8) scOther.nd rfl (Or.inl rfl) (PE.imp (t' := tMadeO C) (pe_tab M dg hr (by rfl) ps (pa_cons (pv 0) (pa_cons (pv 7) (pa_cons (pe_tup (pa_cons (pv 4) (pa_cons (pe_ix ix_list (pv 6) pe_int (fun _ _ => rfl)) pa_nil))) (pa_cons (pe_tup (pa_cons (pv 5) (pa_cons (pe_ix ix_list (pv 6) pe_int (fun _ _ => rfl)) pa_nil))) (pa_cons (pe_tup (pa_cons (pv 4) (pa_cons (pe_ix ix_list (pv 6) pe_int (fun _ _ => rfl)) pa_nil))) pa_nil)))))) ?rMade))
      (pss_cons (ps_expr (pe_bm PySem.F.plainAttrs_list PySem.F.slot_list_append PySem.F.type_list_append mt_append (pv 7) (pa_cons pe_str pa_nil)))
      (pss_one (ps_ret (pv 8)))))))), ?_⟩
    case rSigns =>
      rintro σ H0 R ⟨a, b, o, u, tn', h4, h5, h3, oa, ob, lo, lu, fin⟩
      refine ⟨_, h3, tn', rfl, ?_⟩
      cases tn' with
      | true =>
        refine iteT ⟨_, h4, a, o, rfl, oa, lo, fun H1 s1 => ⟨_, h5, b, u, rfl, s1 _ _ ob, lu, fun H2 s2 => ⟨(by show 2 ≤ sizeLine; decide), fun l hl => ?_⟩⟩⟩
        exact fin _ l (sNew (Same.trans s1 s2) hl) ((Same.trans s1 s2).free hl) upd_same
      | false => exact iteF ⟨(by show 2 ≤ sizeLine; decide), fun l hl => fin _ l (sNew (Same.refl H0) hl) hl upd_same⟩
    case rMade =>
      rintro σ H0 R ⟨z, y, n, tn, ra, rb, sl, d, h0, h4, h5, h6, h7, zok, yok, n2, n4, ora, orb, hsl, hd, fin⟩
      generalize eg1 : (if tn then par (roundO n) else 1) = g1 at hsl
      generalize eg2 : (if tn then par (swapO n) else 1) = g2 at hsl
      refine ⟨_, h0, _, h7, _, h4, _, h6, sl, _, _, V.int g1, rfl, rfl, SqL.of hsl, at_of (j := 0) rfl rfl, (by show 2 ≤ sizeLine; decide), fun T1 hT1 => ?_⟩
      have s1 := sNew (o := .tup [.ref ra, V.int g1]) (Same.refl H0) hT1
      have t1 := upd_same (H := H0) (a := T1) (o := .tup [.ref ra, V.int g1])
      generalize upd H0 T1 (.tup [.ref ra, V.int g1]) = H1 at s1 t1
      refine ⟨_, h5, _, h6, sl, _, _, V.int g2, rfl, rfl, SqL.of (s1 _ _ hsl), at_of (j := 1) rfl rfl, (by show 2 ≤ sizeLine; decide), fun T2 hT2 => ?_⟩
      have s2 := sNew (o := .tup [.ref rb, V.int g2]) s1 hT2
      have t2 := upd_same (H := H1) (a := T2) (o := .tup [.ref rb, V.int g2])
      have t12 : upd H1 T2 (.tup [.ref rb, V.int g2]) T1 = some (.tup [.ref ra, V.int g1]) := old t1 hT2
      generalize upd H1 T2 (.tup [.ref rb, V.int g2]) = H2 at s2 t2 t12
      refine ⟨_, h4, _, h6, sl, _, _, V.int g1, rfl, rfl, SqL.of (s2 _ _ hsl), at_of (j := 0) rfl rfl, (by show 2 ≤ sizeLine; decide), fun T3 hT3 => ?_⟩
      have s3 := sNew (o := .tup [.ref ra, V.int g1]) s2 hT3
      have t3 := upd_same (H := H2) (a := T3) (o := .tup [.ref ra, V.int g1])
      have t13 := old (o := .tup [.ref ra, V.int g1]) t12 hT3
      have t23 := old (o := .tup [.ref ra, V.int g1]) t2 hT3
      generalize upd H2 T3 (.tup [.ref ra, V.int g1]) = H3 at s3 t3 t13 t23
      refine fun x dx hx hdx ne => made_t (K := K) (ss := List.replicate n y) (T := twoWay n tn) (tv := [.ref T1, .ref T2, .ref T3]) zok (.inl (s3 _ _ hd)) (slots_rep (by omega) n4 yok) ?_ (two_ok n2 n4 tn) (by show 3 ≤ 100; decide) ⟨fun no => absurd (two_single n2 n4 tn) (by rwa [List.length_replicate] at no), fun H' p L s' hp' tab grp => ?_⟩ x dx hx hdx ne
      · unfold twoWay
        rw [eg1, eg2]
        have oa := s3 _ _ ora
        have ob := s3 _ _ orb
        exact ⟨TurnS.is ⟨T1, ra, rfl, t13, oa⟩, TurnS.is ⟨T2, rb, rfl, t23, ob⟩, TurnS.is ⟨T3, ra, rfl, t3, oa⟩, trivial⟩
      · rw [List.length_replicate] at grp
        rw [two_grp n2 n4 grp] at tab
        exact fin H' p (Same.trans s3 s') (s3.free hp') tab
    refine ⟨_, rfl, _, _, rfl, rfl, RgOk.of_le (by decide) (by omega) (by decide) (by omega), fun a0 ha0 => ?_⟩
    have s1 := sNew (o := .lst (rgV 1 (n : Nat))) (Same.refl H) ha0
    have t1 := upd_same (H := H) (a := a0) (o := .lst (rgV 1 (n : Nat)))
    generalize upd H a0 (.lst (rgV 1 (n : Nat))) = H1 at s1 t1
    refine ⟨(by show 1 ≤ sizeLine; decide), fun a1 ha1 => ?_⟩
    have s2 := sNew (o := .lst [V.int 0]) (Same.refl H1) ha1
    have t2 := upd_same (H := H1) (a := a1) (o := .lst [V.int 0])
    generalize upd H1 a1 (.lst [V.int 0]) = H2 at s2 t2
    have rl1 := rgV_length 1 (n : Nat)
    have rl2 := rgV_length 2 (n : Nat)
    refine ⟨a0, a1, _, _, rfl, rfl, s2 _ _ t1, t2, le_line (by rw [rl1]; show ((n : Int) - 1).toNat + 1 ≤ 2000000; omega), fun a2 ha2 => ?_⟩
    rw [rg_round n n4 n2]
    have s3 := sNew (o := .lst ((roundO n).map V.int)) (Same.trans s1 s2) ha2
    have t3 := upd_same (H := H2) (a := a2) (o := .lst ((roundO n).map V.int))
    generalize upd H2 a2 (.lst ((roundO n).map V.int)) = H3 at s3 t3
    refine ⟨a2, _, rfl, .inl ⟨SqL.of t3, fun ra hra => ?_⟩⟩
    have s4 := sNew (o := .tup ((roundO n).map V.int)) s3 hra
    have ora : OrdIs (upd H3 ra (.tup ((roundO n).map V.int))) (ra, roundO n) := upd_same
    generalize upd H3 ra (.tup ((roundO n).map V.int)) = H4 at s4 ora
    refine ⟨(by show 2 ≤ sizeLine; decide), fun b0 hb0 => ?_⟩
    have s5 := sNew (o := .lst [V.int 1, V.int 0]) (Same.refl H4) hb0
    have t5 := upd_same (H := H4) (a := b0) (o := .lst [V.int 1, V.int 0])
    generalize upd H4 b0 (.lst [V.int 1, V.int 0]) = H5 at s5 t5
    refine ⟨_, rfl, _, _, rfl, rfl, RgOk.of_le (by decide) (by omega) (by decide) (by omega), fun b1 hb1 => ?_⟩
    have s6 := sNew (o := .lst (rgV 2 (n : Nat))) (Same.refl H5) hb1
    have t6 := upd_same (H := H5) (a := b1) (o := .lst (rgV 2 (n : Nat)))
    generalize upd H5 b1 (.lst (rgV 2 (n : Nat))) = H6 at s6 t6
    refine ⟨b0, b1, _, _, rfl, rfl, s6 _ _ t5, t6, le_line (by rw [rl2]; show 2 + ((n : Int) - 2).toNat ≤ 2000000; omega), fun b2 hb2 => ?_⟩
    rw [rg_swap n n4 n2]
    have s7 := sNew (o := .lst ((swapO n).map V.int)) (Same.trans s5 s6) hb2
    have t7 := upd_same (H := H6) (a := b2) (o := .lst ((swapO n).map V.int))
    generalize upd H6 b2 (.lst ((swapO n).map V.int)) = H7 at s7 t7
    refine ⟨b2, _, rfl, .inl ⟨SqL.of t7, fun rb hrb => ?_⟩⟩
    have s8 := sNew (o := .tup ((swapO n).map V.int)) s7 hrb
    have orb : OrdIs (upd H7 rb (.tup ((swapO n).map V.int))) (rb, swapO n) := upd_same
    generalize upd H7 rb (.tup ((swapO n).map V.int)) = H8 at s8 orb
    obtain ⟨pa, pb⟩ := rs_perm n n4 n2
    refine ⟨ra, rb, roundO n, swapO n, tn, rfl, rfl, rfl, s8 _ _ ora, orb, by rw [perm_len pa]; omega, by rw [perm_len pb]; omega, fun H9 sl s9 hsl0 hsl => ?_⟩
    refine ⟨_, rfl, (by show 1 ≤ sizeLine; decide), fun c0 hc0 => ?_⟩
    have s10 := sNew (o := .lst [V.str y]) (Same.refl H9) hc0
    have t10 := upd_same (H := H9) (a := c0) (o := .lst [V.str y])
    generalize upd H9 c0 (.lst [V.str y]) = H10 at s10 t10
    refine ⟨_, rfl, c0, _, _, rfl, rfl, t10, by omega, by omega, by show 1 * n ≤ sizeLine; exact le_line (by omega), fun d0 hd0 => ?_⟩
    rw [Int.toNat_natCast, rep_flat, rep_map]
    have s11 := sNew (o := .lst ((List.replicate n y).map V.str)) s10 hd0
    have t11 := upd_same (H := H10) (a := d0) (o := .lst ((List.replicate n y).map V.str))
    have hd00 : H10 d0 = none := hd0
    generalize upd H10 d0 (.lst ((List.replicate n y).map V.str)) = H11 at s11 t11
    have s04 : Same H H10 := Same.trans s4 (Same.trans s8 (Same.trans s9 s10))
    refine ⟨z, y, n, tn, ra, rb, sl, d0, rfl, rfl, rfl, rfl, rfl, zok, yok, n2, n4, s11 _ _ (s9 _ _ (s8 _ _ ora)), s11 _ _ (s9 _ _ orb), s11 _ _ hsl, t11, fun H12 p s12 hp tab => ?_⟩
    have hd12 := s12 _ _ t11
    refine ⟨_, rfl, .inl ⟨rfl, _, SqL.of hd12⟩, d0, _, _, rfl, rfl, hd12, lt_line (by rw [List.length_map, List.length_replicate]; omega), _, rfl, ?_⟩
    exact q _ p (sPut (Same.trans s4 (Same.trans s8 (Same.trans s9 (Same.trans s11 s12)))) (s04.free hd00)) ((Same.trans s4 (Same.trans s8 (Same.trans s9 s11))).free hp) (tab.putS (y := y) (xs := (List.replicate (n - 1) y).map V.str) (by rw [hd12]; obtain ⟨m, rfl⟩ : ∃ m, n = m + 1 := ⟨n - 1, by omega⟩; rfl))
end
end S11

/-! x(lambda: body, e): the second argument is read while the lambda's object is held. -/
namespace L2
open PySem PySem.Spec PyProof.Rows LamX
theorem pe_lamcall2e {X : Cx} {T : List (Addr × Str)} {TT : V → (XK → Hp → VK → Prop) → Hp → VK → Prop} {x a b : Str} {g c P : Addr} {k : Nat} {pg : Arguments} {bg : List Stmt} {sg : Scope} {dV kV doc pm cdv ct oc : Value} {an od : Option Addr} {osl : Array (Option Value)} {Ng : List Str}
    {params : Arguments} {body e2 : Expr} {ta : TA} {scope : Scope} {t : XK → TE} {p lpos pos : Pos} (quiet : X.A.guards = some []) (gl : Gl X x) (mod : X.mg x = some (.ref g)) (keep : PySem.W.keepIn X.K (.ref g) = true)
    (lk : X.K.lookup g = some ⟨oc, od, .func (PySem.W.fnOf x x pg bg sg dV kV doc pm an cdv ct), osl⟩) (code : PySem.W.codeIn X.K cdv x = true) (binds : L2.Binds X.K (PySem.W.fnOf x x pg bg sg dV kV doc pm an cdv ct) [a, b] []) (Sg : FnScope Ng [a, b] sg) (first : Ng[0]? = some a) (seen : Vis sg a)
    (gives : GivesTo2 X Ng x sg g cdv bg a (X.env.qual ++ "<lambda>") (k + 1) TT)
    (TB : TabB X.base X.mg c P) (own : X.env.code = .ref c) (inT : (P, X.env.qual ++ "<lambda>") ∈ T) (one : ∀ p ∈ T, p.1 = P → p.2 = X.env.qual ++ "<lambda>") (room : Room (k + 2) X.A) (L : LamS X.env.scope scope) (nodef : defaultsOf params X.env = ([], []))
    (nobind : ∀ (q : Str) (cl : List (Str × Addr)) (pm cv ctv : Value), bindArgs (PySem.W.kla_fn "<lambda>" q params body scope cl pm cv ctv) ⟨[], []⟩ = pure [])
    (inside : ∀ (A : Around) (outer : List Env) (s : Shared) (H : Hp) (E : XK) (f c' : Addr), A.guards = some [] → Room k (A.deeper (lamEnv X scope s.heap.objs.size f c')) → PE (lamCx X A outer s H E scope f c') body (t E))
    (arg : PA X [e2] ta) (stk : X.stack = X.env :: X.outer) (frm : X.env.frame = some X.env.locals)
    (st : starEach [.Lambda params body scope lpos, e2] X.env = (false, eval (.Lambda params body scope lpos) X.env) :: starEach [e2] X.env := by rfl)
    (star : (false || (backTo pos (starEach [e2] X.env)).any (·.1)) = false := by rfl)
    (nd1 : (x == ("__debug__" : Str)) = false := by decide) (nd2 : (a == ("__debug__" : Str)) = false := by decide) (nc : (a == ("__classdict__" : Str)) = false := by decide) :
    PE X (.Call (.Name x p) [.Lambda params body scope lpos, e2] [] pos) (fun σ H Q => Tabs T H ∧ ∀ H1, ExtN H H1 → Tabs T H1 → ta σ H1 fun vs H2 => ∃ v2, vs = [v2] ∧ Same H1 H2 ∧ TT v2 (fun E H' Q' => t E σ H' Q') H2 Q) := by
  constructor
  rintro pins s0 σ H W J ⟨tabs, w⟩
  refine wpAny_Call_Name_kw (ld_glob J gl mod (PySem.W.callWith_K (h₀ := X.base) J.ok.mod.kin keep ?_ st star) nd1)
  rw [st]
  show wpAny _ _ (spliced ((false, eval (.Lambda params body scope lpos) X.env) :: backTo pos (starEach [e2] X.env))) _ _ s0
  refine Calls.spliced_cons (lam_make2 J TB own inT one tabs nodef (L.has J.ok) fun f c' pm' ctv H1 s1 J1 grown tabs1 hf hfn hfr hco => ?_)
  have out : f ∉ frs (X.env :: X.outer) := stk ▸ hfr
  have held : Inv X (pins ++ [(f, PySem.W.kla_obj "<lambda>" (X.env.qual ++ "<lambda>") params body scope (cloFrom X.env.cells scope.names []) pm' c' ctv)]) σ H1 s1 := J1.pins_of fun q m => (List.mem_append.mp m).elim (fun z => J1.pin q (List.mem_append_right _ z)) fun z => by
    rw [List.mem_singleton.mp z]
    refine ⟨hf, hfn, fun e => out ?_, fun e => out (show f ∈ _ from ?_), fun v e => by cases e⟩
    · exact List.mem_filterMap.mpr ⟨X.env, by simp, frm.trans (congrArg some (show f = X.env.locals from e).symm)⟩
    · obtain ⟨en, inOuter, fr⟩ := List.mem_filterMap.mp e
      exact List.mem_filterMap.mpr ⟨en, by simp [inOuter], fr⟩
  refine thn (arg.run pos _ s1 σ H1 _ held (w H1 grown tabs1)) fun us s2 ⟨vs, H2, J2', rel, v2, e, s12, q⟩ => ?_
  subst e
  obtain ⟨u2, rfl, rel2⟩ := vals1 rel
  have J2 : Inv X pins σ H2 s2 := J2'.unpinned
  obtain ⟨hf2, hfn2, _⟩ := J2'.pin (f, _) (List.mem_append_right _ (List.mem_append_right _ (List.mem_singleton.mpr rfl)))
  have hco2 := s12 _ _ hco
  refine ⟨J2.kIn, ?_⟩
  have run : codeAny (model X.prog X.w) X.A (.call (.ref g) ⟨[.ref f, u2], []⟩) (CR C8.CX0 X.stack X.prog X.w H2 s2 W C8.E0) s2 := by
    refine run_ofS (N := Ng) (ps := [a, b]) (us := [.ref f, u2]) (vs := [.ref f, v2]) lk code Sg room J2.env0 (binds s2 [.ref f, u2] J2.kIn rfl) (show Vals [V.ref f, v2] [Value.ref f, u2] from .cons rfl (.cons rel2 .nil)) rfl fun room2 => ?_
    obtain ⟨ts, hts, hq⟩ := gives f c' s2 H2 v2 W (fun E H' Q' => t E σ H' Q') (fun V0 pn xe p1 p2 tk => pe_actG (i := 0) quiet J2 L hf2 hfn2 hfr (nobind _ _ _ _ _) tk room2 (fun A outer s H E q r => inside A outer s H E f c' q r) first seen nd2 nc) room2 hco2 q
    exact ⟨ts, hts.nox, hq⟩
  have d := fun r s3 z => ended (X := X) (CX := C8.CX0) (E := C8.E0) (R := EP X pins σ W) (fun _ _ _ _ _ _ _ z => (show False from z).elim) J2 (fun _ _ y => y) r s3 z
  refine wpAny_call (codeAny_mono run fun r s3 z => ?_)
  have y := d r s3 z
  cases r with
  | error er => exact y
  | ok fl =>
    cases fl with
    | ret u => exact y
    | _ => exact y.elim
end L2

namespace S11
open PySem L2 GM
open LamX (Tabs ExtN LamS lamCx lamEnv TabB)
open PyProof.Rows (envOfC)
theorem Prt.same {H G : Hp} {v : V} {T : String} {t : Str} (s : Same H G) (h : Prt H v T t) : Prt G v T t := h.keep fun a o e _ => s a o e
theorem Prts.same {H G : Hp} {vs : List V} {ts : List Str} (s : Same H G) (h : Prts H vs ts) : Prts G vs ts := h.keep fun a o e _ => s a o e
/-- shown later, what it holds is from before -/
theorem Odd.sgS {X : Cx} {H G : Hp} {v : V} {T : String} {t : Str} (s : Same H G) (h : Odd H v T t) : ∃ B : Addr → Prop, (∀ c, B c → H c ≠ none) ∧ Sg X 2 (fun G' => G' = G) B v t := by
  cases h with
  | @prt v T t p =>
    refine ⟨_, fun c e => ?_, (p.same s).sg.mono (by decide) fun _ e => e⟩
    have := (Prts.cons p .nil).at_ (c := c) (by rw [e]; exact List.mem_cons_self)
    rcases this with z | z | z <;> rw [z] <;> exact fun q => by cases q
  | @row a vs ts e p few =>
    refine ⟨_, fun c z => ?_, sg_tup (k := 1) (fun G' j => by rw [j]; exact s _ _ e) (fun m => ?_) (p.same s).sg⟩
    · rcases z with rfl | m
      · rw [e]; exact fun q => by cases q
      · rcases p.at_ m with z | z | z <;> rw [z] <;> exact fun q => by cases q
    · rcases p.at_ m with z | z | z
      · rw [e] at z; cases z
      · rw [e] at z; cases z
      · rw [e] at z
        cases z
        cases List.mem_singleton.mp m
  | @lst a vs ts e ne p few =>
    refine ⟨fun c => c = a ∨ .ref c ∈ vs, fun c z => ?_, sg_list (k := 1) (fun G' j => by rw [j]; exact s _ _ e) ne (fun m => ?_) p.len fun i u hu => ((p.same s).sg (X := X)).at_ i u hu⟩
    · rcases z with rfl | m
      · rw [e]; exact fun q => by cases q
      · rcases p.at_ m with z | z | z <;> rw [z] <;> exact fun q => by cases q
    · rcases p.at_ m with z | z | z
      · rw [e] at z
        cases z
        exact absurd m List.not_mem_nil
      · rw [e] at z; cases z
      · rw [e] at z; cases z
/-- the word of an error -/
def Word (nm : Str) : Prop := nm = ("places" : Str) ∨ nm = ("name" : Str) ∨ nm = ("count" : Str)
theorem Word.repr {nm : Str} (h : Word nm) : (reprText nm).length ≤ 100 := by rcases h with rfl | rfl | rfl <;> decide +kernel
abbrev toldText (nm t : Str) : Str := listText [reprText nm, t, "True"]
theorem told_len {nm t : Str} (h : Word nm) (ht : t.length ≤ 20000) : (toldText nm t).length ≤ sizeLine := by
  have a := listText_len_le [reprText nm, t, "True"]
  have b := h.repr
  have c : (("True" : Str)).length = 4 := rfl
  simp only [List.map_cons, List.map_nil, List.sum_cons, List.sum_nil, List.length_cons, List.length_nil] at a
  have d : (toldText nm t).length = (listText [reprText nm, t, "True"]).length := rfl
  rw [sizeLine_eq, d]
  omega
theorem sg_told {X : Cx} {H G : Hp} {l : Addr} {nm : Str} {v : V} {T : String} {t : Str} (wd : Word nm) (od : Odd H v T t) (s : Same H G) (hl : H l = none) (gl : G l = some (.lst [.str nm, v, .bl true])) : ∃ B : Addr → Prop, Sg X 7 (fun G' => G' = G) B (.ref l) (toldText nm t) := by
  obtain ⟨B, hB, sg⟩ := od.sgS (X := X) s
  refine ⟨_, sg_list (k := 6) (xs := [.str nm, v, .bl true]) (ts := [reprText nm, t, "True"]) (fun G' j => by rw [j]; exact gl) (by simp) (fun b => hB l b hl) rfl fun i u hu => ?_⟩
  match i, hu with
  | 0, hu =>
    obtain rfl : V.str nm = u := by simpa using hu
    exact ⟨_, rfl, sg_str (Nat.le_trans wd.repr (by rw [sizeLine_eq]; decide))⟩
  | 1, hu =>
    obtain rfl : v = u := by simpa using hu
    exact ⟨_, rfl, sg.mono (by decide) fun _ e => e⟩
  | 2, hu =>
    obtain rfl : V.bl true = u := by simpa using hu
    exact ⟨_, rfl, sg_bl⟩
  | n + 3, hu => simp at hu
theorem isE_any {X : Cx} {a D : Addr} {oe : Obj} {cls : Value} {d : Option Addr} {pn : List (Addr × Obj)} (C : ExcC X.K D) (hz : Zc cls d oe) (hf : ∃ vs, oe.data = .fields vs) :
    CallR (X.suite a ((a, oe) :: pn)) (.builtin "isinstance") (fun xs H Q => cls = .ref D ∧ (d = none ∨ ∃ dd fs, d = some dd ∧ H dd = some (.xd fs)) ∧ rIsE X.K D a xs H Q) := by
  rintro pins s σ H xs us Q I r ⟨rfl, h⟩
  exact call_isEF C hz hf pins s σ H xs us Q I r h
/-- the three errors -/
structure Three3 (P : Program) (w : World) (K : PySem.W.Frag) (mg : Str → Option Value) (base : Heap) (Dp Dn Dc S : Addr) : Prop where
  p : Ive P w K mg base "InvalidPlaces" Dp S
  n : Ive P w K mg base "InvalidName" Dn S
  c : Ive P w K mg base "InvalidCount" Dc S
  np : PySem.W.exmOne K (.ref Dn) (.ref Dp) = some false
  cp : PySem.W.exmOne K (.ref Dc) (.ref Dp) = some false
  cn : PySem.W.exmOne K (.ref Dc) (.ref Dn) = some false
/-! ### _law_is -/
abbrev nIs : List Str := ["_law_call", "_law_value", "_law_told", "e"]
theorem scIs : FnScope nIs ["_law_call", "_law_value"] (defScope sIs) := ⟨rfl, rfl, rfl, by decide +kernel, rfl, by decide +kernel, by decide +kernel⟩
/-- the lambda lets out the class at D with the value v -/
def Kind (Dp Dn Dc D : Addr) (nm : Str) : Prop := (D = Dp ∧ nm = ("places" : Str)) ∨ (D = Dn ∧ nm = ("name" : Str)) ∨ (D = Dc ∧ nm = ("count" : Str))
theorem Kind.word {Dp Dn Dc D : Addr} {nm : Str} (h : Kind Dp Dn Dc D nm) : Word nm := by
  rcases h with ⟨_, e⟩ | ⟨_, e⟩ | ⟨_, e⟩
  · exact .inl e
  · exact .inr (.inl e)
  · exact .inr (.inr e)
def TTr (Dp Dn Dc : Addr) (v2 : V) (tl : XK → Hp → VK → Prop) (H : Hp) (Q : VK) : Prop := ∃ (l : Addr) (D : Addr) (nm : Str) (v : V) (T : String) (t : Str), v2 = .ref l ∧ H l = some (.lst [.str nm, v]) ∧ Kind Dp Dn Dc D nm ∧ Odd H v T t ∧ (∀ (H1 : Hp) (E : XK) (Q' : VK), Same H H1 → XW D v H1 E → tl E H1 Q') ∧ ∀ H' : Hp, Same H H' → Q (.bl true) H'
abbrev rcx (X : Cx) (g : Addr) (cdg : Value) (s : Shared) (H : Hp) : Cx := (cxOf C8.CX0 X.prog X.w X.K X.mg X.base nIs "_law_is" (defScope sIs) g cdg X.A X.stack s H C8.E0).nox
def tToldE (K : PySem.W.Frag) (D S : Addr) (nm : Str) : Suite := fun a cls d => tAsg (tLst (tCons (tC (.str nm)) (tCons (tXf a cls d D fV (tVar 3)) (tCons (tCB (fun xs H Q => cls = .ref D ∧ (d = none ∨ ∃ dd fs, d = some dd ∧ H dd = some (.xd fs)) ∧ rIsE K D a xs H Q) (tCons (tVar 3) (tCons (tC (.ref S)) tNil))) tNil)))) (gName 2)
def tSameTold : TE := fun σ H Q => ∃ (lv l2 : Addr) (nm : Str) (v : V) (T : String) (t : Str) (H0 : Hp), σ[1]? = some (some (.ref lv)) ∧ σ[2]? = some (some (.ref l2)) ∧ H lv = some (.lst [.str nm, v]) ∧ H l2 = some (.lst [.str nm, v, .bl true]) ∧ Word nm ∧ Odd H0 v T t ∧ Same H0 H ∧ H0 l2 = none ∧ ∀ H', Same H H' → Q (.bl true) H'
theorem gives_is {X : Cx} {g Dp Dn Dc S : Addr} {cdg : Value} {q : Str} (Z : Three3 X.prog X.w X.K X.mg X.base Dp Dn Dc S) (B : Bn X.mg) (gd : X.A.guards = some []) :
    GivesTo2 X nIs "_law_is" (defScope sIs) g cdg (defBody sIs) "_law_call" q 12 (TTr Dp Dn Dc) := by
  rintro f c' s H v2 Q tl act hr hco ⟨lv, D, nm, v, T, t, rfl, hlv, kind, od, call, k⟩
  have gd2 : (X.A.deeper (envOfC "_law_is" (defScope sIs) s.heap.objs.size g cdg)).guards = some [] := deeper_guards.trans gd
  have wd := kind.word
  refine' ⟨_, pss_cons (ps_set (i := 2) scIs.nd rfl (Or.inl rfl) (pe_lst pa_nil)) (pss_cons (ps_try_fits (X := rcx X g cdg s H) (i := 3) (n := "e") (tb := fun W => tDrop (fun σ H Q => σ[0]? = some (some (.ref f)) ∧ H c' = some (LamX.CodeO c' q) ∧ tl (WE W σ) H Q)) (l := [(.ref Dp, tToldE X.K Dp S "places"), (.ref Dn, tToldE X.K Dn S "name"), (.ref Dc, tToldE X.K Dc S "count")]) rfl rfl scIs.nd rfl rfl ?body ?clauses)
    (pss_one (ps_ret (PE.imp (t' := tSameTold) (pe_cmpR op_eq (pe_callB (call_sg (k := 7) gd2 (hr.mono (by decide))) (by rfl) B.repr (by decide +kernel) (pa_cons (pv 2) pa_nil)) (pe_callB (call_sg (k := 7) gd2 (hr.mono (by decide))) (by rfl) B.repr (by decide +kernel) (pa_cons (pe_op op_cat (pv 1) (pe_lst (pa_cons pe_bl pa_nil))) pa_nil)) (nomark _)) ?same)))), ?read⟩
  case body =>
    intro W pn xe tk po
    exact pss_one (ps_expr (act W pn xe _ _ tk))
  case clauses =>
    refine .cons ⟨by rfl, by decide, .inl Z.p.mgD⟩ (fun e oe cls d pn hz hf => ?_) (.cons ⟨by rfl, by decide, .inl Z.n.mgD⟩ (fun e oe cls d pn hz hf => ?_) (.cons ⟨by rfl, by decide, .inl Z.c.mgD⟩ (fun e oe cls d pn hz hf => ?_) .nil))
    · exact pss_one (ps_set (i := 2) scIs.nd rfl (Or.inl rfl) (pe_lst (pa_cons pe_str (pa_cons (pe_xf (X := rcx X g cdg s H) Z.p.xf Z.p.no hz hf (pv 3)) (pa_cons (pe_callB (isE_any (X := rcx X g cdg s H) Z.p.ec hz hf) (by rfl) B.isi (by decide +kernel) (pa_cons (pv 3) (pa_cons (pe_glob (v := .ref S) (by rfl) Z.p.mgS rfl) pa_nil))) pa_nil)))))
    · exact pss_one (ps_set (i := 2) scIs.nd rfl (Or.inl rfl) (pe_lst (pa_cons pe_str (pa_cons (pe_xf (X := rcx X g cdg s H) Z.n.xf Z.n.no hz hf (pv 3)) (pa_cons (pe_callB (isE_any (X := rcx X g cdg s H) Z.n.ec hz hf) (by rfl) B.isi (by decide +kernel) (pa_cons (pv 3) (pa_cons (pe_glob (v := .ref S) (by rfl) Z.n.mgS rfl) pa_nil))) pa_nil)))))
    · exact pss_one (ps_set (i := 2) scIs.nd rfl (Or.inl rfl) (pe_lst (pa_cons pe_str (pa_cons (pe_xf (X := rcx X g cdg s H) Z.c.xf Z.c.no hz hf (pv 3)) (pa_cons (pe_callB (isE_any (X := rcx X g cdg s H) Z.c.ec hz hf) (by rfl) B.isi (by decide +kernel) (pa_cons (pv 3) (pa_cons (pe_glob (v := .ref S) (by rfl) Z.c.mgS rfl) pa_nil))) pa_nil)))))
  case read =>
    refine ⟨(by show 0 ≤ sizeLine; decide), fun l hl => ?_⟩
    have s1 := sNew (o := .lst []) (Same.refl H) hl
    refine ⟨rfl, s1 _ _ hco, call _ _ _ s1 fun H2 d s2 hn hd => ?_⟩
    have s12 := Same.trans s1 s2
    have fin : ∀ l2, H2 l2 = none → tSameTold [some (.ref f), some (.ref lv), some (.ref l2), none] (upd H2 l2 (.lst [.str nm, v, .bl true])) Q := fun l2 hl2 => by
      have s3 := sNew (o := .lst [.str nm, v, .bl true]) (Same.refl H2) hl2
      exact ⟨lv, l2, nm, v, T, t, H2, rfl, rfl, s3 _ _ (s12 _ _ hlv), upd_same, wd, od.same s12, s3, hl2, fun H' s' => k H' (Same.trans s12 (Same.trans s3 s'))⟩
    rcases kind with ⟨rfl, rfl⟩ | ⟨rfl, rfl⟩ | ⟨rfl, rfl⟩
    · refine .inl ⟨Z.p.me, fun a ha => ?_⟩
      refine ⟨_, rfl, rfl, rfl, d, _, v, rfl, hd, rfl, ?_⟩
      refine ⟨_, rfl, rfl, .inr ⟨d, _, rfl, hd⟩, .ref S, .ref S, true, rfl, fun u z => z, Z.p.ks, ?_⟩
      refine ⟨(by show 3 ≤ sizeLine; decide), fun l2 hl2 => ?_⟩
      exact fin l2 hl2
    · refine .inr ⟨Z.np, .inl ⟨Z.n.me, fun a ha => ?_⟩⟩
      refine ⟨_, rfl, rfl, rfl, d, _, v, rfl, hd, rfl, ?_⟩
      refine ⟨_, rfl, rfl, .inr ⟨d, _, rfl, hd⟩, .ref S, .ref S, true, rfl, fun u z => z, Z.n.ks, ?_⟩
      refine ⟨(by show 3 ≤ sizeLine; decide), fun l2 hl2 => ?_⟩
      exact fin l2 hl2
    · refine .inr ⟨Z.cp, .inr ⟨Z.cn, .inl ⟨Z.c.me, fun a ha => ?_⟩⟩⟩
      refine ⟨_, rfl, rfl, rfl, d, _, v, rfl, hd, rfl, ?_⟩
      refine ⟨_, rfl, rfl, .inr ⟨d, _, rfl, hd⟩, .ref S, .ref S, true, rfl, fun u z => z, Z.c.ks, ?_⟩
      refine ⟨(by show 3 ≤ sizeLine; decide), fun l2 hl2 => ?_⟩
      exact fin l2 hl2
  case same =>
    rintro σ H0 R ⟨lv, l2, nm, v, T, t, H1, h1, h2, e1, e2, wd, od, s01, f2, fin⟩
    obtain ⟨B1, sg1⟩ := sg_told (X := rcx X g cdg s H) wd od s01 f2 e2
    refine ⟨_, h2, .ref l2, toldText nm t, fun H' => H' = H0, B1, rfl, rfl, sg1, told_len wd od.len, fun H' j => ?_⟩
    subst j
    refine ⟨_, h1, (by show 1 ≤ sizeLine; decide), fun l3 hl3 => ?_⟩
    have s3 := sNew (o := .lst [.bl true]) (Same.refl H') hl3
    refine ⟨lv, l3, _, _, rfl, rfl, s3 _ _ e1, upd_same, (by show 3 ≤ sizeLine; decide), fun l4 hl4 => ?_⟩
    have s4 := sNew (o := .lst [.str nm, v, .bl true]) s3 hl4
    obtain ⟨B2, sg2⟩ := sg_told (X := rcx X g cdg s H) wd (od.same (Same.trans s01 s3)) (sNew (Same.refl _) hl4) hl4 (G := upd (upd H' l3 (.lst [.bl true])) l4 (.lst [.str nm, v, .bl true])) upd_same
    refine ⟨.ref l4, toldText nm t, fun G => G = _, B2, rfl, rfl, sg2, told_len wd od.len, fun G j => ?_⟩
    subst j
    refine ⟨rfl, ?_⟩
    rw [decide_eq_true rfl]
    exact fin _ s4
/-- what is known of _law_is -/
structure IsD (K : PySem.W.Frag) (mg : Str → Option Value) : Prop where
  ex : ∃ g fd, Fun K "_law_is" "_law_is" sIs g fd ∧ mg "_law_is" = some (.ref g) ∧ PySem.W.keepIn K (.ref g) = true ∧ Binds K fd ["_law_call", "_law_value"] []
section
variable {X : Cx} {Dp Dn Dc S c P : Addr} {T : List (Addr × Str)} {params : Arguments} {body e2 : Expr} {ta : TA} {scope : Scope} {t : XK → TE} {p lpos pos : Pos}
theorem pe_is (R : IsD X.K X.mg) (Z : Three3 X.prog X.w X.K X.mg X.base Dp Dn Dc S) (B : Bn X.mg) (gd : X.A.guards = some []) (hg : Gl X "_law_is") (TB : TabB X.base X.mg c P) (hcode : X.env.code = .ref c) (hmT : (P, X.env.qual ++ "<lambda>") ∈ T) (hu : ∀ p ∈ T, p.1 = P → p.2 = X.env.qual ++ "<lambda>") (hr : Room 13 X.A) (L : LamS X.env.scope scope)
    (hdef : defaultsOf params X.env = ([], [])) (hbind : ∀ (q : Str) (cl : List (Str × Addr)) (pm cv ctv : Value), bindArgs (PySem.W.kla_fn "<lambda>" q params body scope cl pm cv ctv) ⟨[], []⟩ = pure [])
    (hbody : ∀ (A : Around) (outer : List Env) (s : Shared) (H : Hp) (E : XK) (f c' : Addr), A.guards = some [] → Room 11 (A.deeper (lamEnv X scope s.heap.objs.size f c')) → PE (lamCx X A outer s H E scope f c') body (t E))
    (arg : PA X [e2] ta) (stk : X.stack = X.env :: X.outer) (frm : X.env.frame = some X.env.locals)
    (st : starEach [.Lambda params body scope lpos, e2] X.env = (false, eval (.Lambda params body scope lpos) X.env) :: starEach [e2] X.env := by rfl)
    (star : (false || (backTo pos (starEach [e2] X.env)).any (·.1)) = false := by rfl) :
    PE X (.Call (.Name "_law_is" p) [.Lambda params body scope lpos, e2] [] pos) (fun σ H Q => Tabs T H ∧ ∀ H1, ExtN H H1 → Tabs T H1 → ta σ H1 fun vs H2 => ∃ v2, vs = [v2] ∧ Same H1 H2 ∧ TTr Dp Dn Dc v2 (fun E H' Q' => t E σ H' Q') H2 Q) := by
  obtain ⟨g, fd, F, hm, hk, hb⟩ := R.ex
  obtain ⟨oc, od, kV, doc, pm, an, cdv, ct, osl, rfl, lk, hcd⟩ := F.ex
  exact pe_lamcall2e (k := 11) (a := "_law_call") (b := "_law_value") (Ng := nIs) gd hg hm hk lk hcd hb scIs rfl (Or.inl rfl) (gives_is Z B gd) TB hcode hmT hu hr L hdef hbind hbody arg stk frm st star (by decide) (by decide) (by decide)
end
end S11

namespace S11
open PySem L2 GM
open PySem.W (EachIs)
/-- a turn has no list in it -/
theorem TurnS.pot {H H' : Hp} {v : V} {p : Turn} {l : Addr} (pl : PotAt H l) (e : SameX l H H') (h : TurnS H v p) : TurnS H' v p := by
  obtain ⟨x, y, el, _⟩ := pl
  obtain ⟨t, u, rfl, h1, h2⟩ := h
  exact ⟨t, u, rfl, e _ _ (ne_of h1 el (fun z => by cases z)) h1, e _ _ (ne_of h2 el (fun z => by cases z)) h2⟩
theorem TurnsS.pot {H H' : Hp} {vs : List V} {ps : List Turn} {l : Addr} (pl : PotAt H l) (e : SameX l H H') (h : TurnsS H vs ps) : TurnsS H' vs ps := h.mono fun _ _ z => z.pot pl e
theorem GroupAt.pot {H H' : Hp} {a l : Addr} {L : List Turn} (pl : PotAt H l) (ne : a ≠ l) (e : SameX l H H') (h : GroupAt H a L) : GroupAt H' a L := by
  obtain ⟨vs, h1, h2⟩ := h
  exact ⟨vs, e _ _ ne h1, TurnsS.pot pl e h2⟩
theorem each_at {α β : Type} {R : α → β → Prop} {as : List α} {bs : List β} (h : EachIs R as bs) {a : α} (m : a ∈ as) : ∃ b ∈ bs, R a b := by
  obtain ⟨i, hi, e⟩ := List.getElem_of_mem m
  obtain ⟨b, hb, r⟩ := each_get h (i := i) (a := a) (by rw [List.getElem?_eq_getElem hi, e])
  exact ⟨b, List.mem_of_getElem? hb, r⟩
/-- the two numbers that draw are no group, and no texts -/
theorem GroupAt.off {H : Hp} {a l : Addr} {L : List Turn} (h : GroupAt H a L) (p : PotAt H l) : a ≠ l := fun e => by
  obtain ⟨x, y, el, _⟩ := p
  obtain ⟨vs, h1, h2⟩ := h
  rw [e, el] at h1
  cases h1
  cases h2 with
  | cons r _ =>
    obtain ⟨t, u, z, _⟩ := r
    cases z
theorem TabAt.pot {C : Addr} {H H' : Hp} {a l : Addr} {z : Str} {ss : List Str} {L : List Turn} (p : PotAt H l) (e : SameX l H H') (h : TabAt C H a z ss L) : TabAt C H' a z ss L := by
  obtain ⟨x, y, el, _⟩ := id p
  obtain ⟨dx, sa, ga, h1, h2, h3⟩ := h
  exact ⟨dx, sa, ga, e _ _ (ne_of h1 el (fun z => by cases z)) h1, e _ _ (ne_of h2 el (fun z => by cases z)) h2, h3.pot p (h3.off p) e⟩
theorem log_of {n m : Nat} (h : n < 2 ^ m) (h0 : 0 < m) : n.log2 < m := by
  by_cases hn : n = 0
  · subst hn
    exact h0
  · exact (Nat.log2_lt hn).mpr h
theorem small_int {i : Int} (h : i.natAbs < 2 ^ 100) : i.natAbs.log2 < 1920 := Nat.lt_trans (log_of h (by decide)) (by decide)
theorem len_int {i : Int} (h : i.natAbs < 2 ^ 100) : ((toString i : String) : Str).length ≤ 2000 := by
  have := PyProof.Rows.int_text_len_1921 (i := i) (small_int h)
  simpa using Nat.le_trans this (by decide)
def Small (ns : List Int) : Prop := ns.length ≤ 4 ∧ ∀ i ∈ ns, i.natAbs < 2 ^ 100
theorem show_ints : ∀ {ns : List Int}, (∀ i ∈ ns, i.natAbs < 2 ^ 100) → PyData.showableAll (ns.map PyData.int) = true ∧ PyData.hasDictAll (ns.map PyData.int) = false ∧ ((PyData.shownAll (ns.map PyData.int)).map (·.length)).sum ≤ 2000 * ns.length ∧ (PyData.shownAll (ns.map PyData.int)).length = ns.length
  | [], _ => ⟨rfl, rfl, Nat.zero_le _, rfl⟩
  | i :: ns, h => by
    obtain ⟨a, b, c, d⟩ := show_ints (ns := ns) fun q hq => h q (List.mem_cons_of_mem _ hq)
    have h1 := h i List.mem_cons_self
    have l1 : (PyData.shown (.int i)).length ≤ 2000 := len_int h1
    refine ⟨?_, ?_, ?_, ?_⟩
    · show (decide _ && PyData.showableAll (ns.map PyData.int)) = true
      rw [decide_eq_true (small_int h1), a]
      rfl
    · show (false || PyData.hasDictAll (ns.map PyData.int)) = false
      rw [b]
      rfl
    · show (PyData.shown (.int i)).length + ((PyData.shownAll (ns.map PyData.int)).map (·.length)).sum ≤ 2000 * (ns.length + 1)
      omega
    · show (PyData.shownAll (ns.map PyData.int)).length + 1 = ns.length + 1
      rw [d]
theorem show_ord {ns : List Int} (h : Small ns) : (ordD ns).showable = true ∧ (ordD ns).hasDict = false ∧ (ordD ns).shown.length ≤ 9000 := by
  obtain ⟨a, b, c, d⟩ := show_ints h.2
  refine ⟨a, b, ?_⟩
  have z : (ordD ns).shown.length ≤ _ := tupleText_len_le (PyData.shownAll (ns.map PyData.int))
  have l := h.1
  rw [d] at z
  omega
/-- (g, (..)) -/
theorem show_due {g : Int} {ns : List Int} (hg : g.natAbs < 2 ^ 100) (h : Small ns) : (PyData.tuple [.int g, ordD ns]).showable = true ∧ (PyData.tuple [.int g, ordD ns]).hasDict = false ∧ (PyData.tuple [.int g, ordD ns]).shown.length ≤ 20000 := by
  obtain ⟨a, b, c⟩ := show_ord h
  refine ⟨?_, ?_, ?_⟩
  · show (decide _ && ((ordD ns).showable && true)) = true
    rw [decide_eq_true (small_int hg), a]
    rfl
  · show (false || ((ordD ns).hasDict || false)) = false
    rw [b]
    rfl
  · have z : (PyData.tuple [.int g, ordD ns]).shown.length ≤ _ := tupleText_len_le [(PyData.int g).shown, (ordD ns).shown]
    have z1 : (PyData.int g).shown.length ≤ 2000 := len_int hg
    simp only [List.map_cons, List.map_nil, List.sum_cons, List.sum_nil, List.length_cons, List.length_nil] at z
    omega
/-- [(..), ..] -/
theorem show_ordsA : ∀ {D : List (List Int)}, (∀ ns ∈ D, Small ns) → PyData.showableAll (D.map ordD) = true ∧ PyData.hasDictAll (D.map ordD) = false ∧ ((PyData.shownAll (D.map ordD)).map (·.length)).sum ≤ 9000 * D.length ∧ (PyData.shownAll (D.map ordD)).length = D.length
  | [], _ => ⟨rfl, rfl, Nat.zero_le _, rfl⟩
  | ns :: D, h => by
    obtain ⟨a, b, c, d⟩ := show_ordsA (D := D) fun q hq => h q (List.mem_cons_of_mem _ hq)
    obtain ⟨x, y, z⟩ := show_ord (h ns List.mem_cons_self)
    refine ⟨?_, ?_, ?_, ?_⟩
    · show ((ordD ns).showable && PyData.showableAll (D.map ordD)) = true
      rw [x, a]
      rfl
    · show ((ordD ns).hasDict || PyData.hasDictAll (D.map ordD)) = false
      rw [y, b]
      rfl
    · show (ordD ns).shown.length + ((PyData.shownAll (D.map ordD)).map (·.length)).sum ≤ 9000 * (D.length + 1)
      omega
    · show (PyData.shownAll (D.map ordD)).length + 1 = D.length + 1
      rw [d]
theorem show_ords {D : List (List Int)} (h : ∀ ns ∈ D, Small ns) (few : D.length ≤ 100) : (PyData.list (D.map ordD)).showable = true ∧ (PyData.list (D.map ordD)).hasDict = false ∧ (PyData.list (D.map ordD)).shown.length ≤ 1000000 := by
  obtain ⟨a, b, c, d⟩ := show_ordsA h
  refine ⟨a, b, ?_⟩
  have z : (PyData.list (D.map ordD)).shown.length ≤ _ := listText_len_le (PyData.shownAll (D.map ordD))
  rw [d] at z
  omega
theorem small_mv {ns o : List Int} (h : Small ns) (l : o.length ≤ 4) : Small (mv ns o) := by
  refine ⟨by unfold mv; rw [List.length_map]; exact l, fun i hi => ?_⟩
  unfold mv at hi
  obtain ⟨j, hj, rfl⟩ := List.mem_map.mp hi
  rw [List.getD_eq_getElem?_getD]
  cases e : ns[j.toNat]? with
  | none => decide
  | some v => exact h.2 v (List.mem_of_getElem? e)
/-- small turns -/
def SmallT (L : List Turn) : Prop := ∀ p ∈ L, Small p.1 ∧ p.2.natAbs < 2 ^ 100
theorem show_turn {p : Turn} (h : Small p.1) (hs : p.2.natAbs < 2 ^ 100) : (turnD p).showable = true ∧ (turnD p).hasDict = false ∧ (turnD p).shown.length ≤ 20000 := by
  obtain ⟨a, b, c⟩ := show_ord h
  refine ⟨?_, ?_, ?_⟩
  · show ((ordD p.1).showable && (decide _ && true)) = true
    rw [a, decide_eq_true (small_int hs)]
    rfl
  · show ((ordD p.1).hasDict || (false || false)) = false
    rw [b]
    rfl
  · have z : (turnD p).shown.length ≤ _ := tupleText_len_le [(ordD p.1).shown, (PyData.int p.2).shown]
    have z1 : (PyData.int p.2).shown.length ≤ 2000 := len_int hs
    simp only [List.map_cons, List.map_nil, List.sum_cons, List.sum_nil, List.length_cons, List.length_nil] at z
    omega
theorem show_turnsA : ∀ {L : List Turn}, SmallT L → PyData.showableAll (L.map turnD) = true ∧ PyData.hasDictAll (L.map turnD) = false ∧ ((PyData.shownAll (L.map turnD)).map (·.length)).sum ≤ 20000 * L.length ∧ (PyData.shownAll (L.map turnD)).length = L.length
  | [], _ => ⟨rfl, rfl, Nat.zero_le _, rfl⟩
  | p :: L, h => by
    obtain ⟨a, b, c, d⟩ := show_turnsA (L := L) fun q hq => h q (List.mem_cons_of_mem _ hq)
    obtain ⟨x, y, z⟩ := show_turn (h p List.mem_cons_self).1 (h p List.mem_cons_self).2
    refine ⟨?_, ?_, ?_, ?_⟩
    · show ((turnD p).showable && PyData.showableAll (L.map turnD)) = true
      rw [x, a]
      rfl
    · show ((turnD p).hasDict || PyData.hasDictAll (L.map turnD)) = false
      rw [y, b]
      rfl
    · show (turnD p).shown.length + ((PyData.shownAll (L.map turnD)).map (·.length)).sum ≤ 20000 * (L.length + 1)
      omega
    · show (PyData.shownAll (L.map turnD)).length + 1 = L.length + 1
      rw [d]
/-- [((..), s), ..] -/
theorem show_turns {L : List Turn} (h : SmallT L) (few : L.length ≤ 100) : (PyData.list (L.map turnD)).showable = true ∧ (PyData.list (L.map turnD)).hasDict = false ∧ (PyData.list (L.map turnD)).shown.length ≤ 2100000 := by
  obtain ⟨a, b, c, d⟩ := show_turnsA h
  refine ⟨a, b, ?_⟩
  have z : (PyData.list (L.map turnD)).shown.length ≤ _ := listText_len_le (PyData.shownAll (L.map turnD))
  rw [d] at z
  omega
theorem small_idn {n : Nat} {o : List Int} (n4 : n ≤ 4) (p : o.Perm (idn n)) : Small o := by
  refine ⟨by rw [perm_len p]; exact n4, fun i hi => ?_⟩
  have z := idn_fits p i hi
  omega
theorem small_are {n : Nat} {L : List Turn} (n4 : n ≤ 4) (are : Are n L) : SmallT L := fun p m => ⟨small_idn n4 (are p m).1, by
  rcases (are p m).2 with e | e
  · rw [e]; decide
  · rw [e]; decide⟩
theorem nodup_le {α : Type} [DecidableEq α] : ∀ {D E : List α}, D.Nodup → (∀ x ∈ D, x ∈ E) → D.length ≤ E.length
  | [], _, _, _ => Nat.zero_le _
  | a :: D, E, h, sub => by
    have ha := sub a List.mem_cons_self
    have hp := List.nodup_cons.mp h
    have z := nodup_le (D := D) (E := E.erase a) hp.2 fun x hx => (List.mem_erase_of_ne (fun (e : x = a) => hp.1 (e ▸ hx))).mpr (sub x (List.mem_cons_of_mem _ hx))
    rw [List.length_erase_of_mem ha] at z
    have := List.length_pos_of_mem ha
    rw [List.length_cons]
    omega
theorem dp_js {K : PySem.W.Frag} {H : Hp} : ∀ {js : List (Addr × List Int)}, (∀ p ∈ js, OrdIs H p) → DpAll K H (js.map fun p => V.ref p.1) ((js.map Prod.snd).map ordD)
  | [], _ => .nil
  | p :: js, h => .cons (dp_ord (.inl (.inl (h p List.mem_cons_self)))) (dp_js fun q m => h q (List.mem_cons_of_mem _ m))
theorem deep_js (D : List (List Int)) : (PyData.list (D.map ordD)).depth ≤ 64 := by
  have e : ∀ D : List (List Int), PyData.depthAll (D.map ordD) ≤ 1 := by
    intro D
    induction D with
    | nil => exact Nat.zero_le _
    | cons ns D ih =>
      have d := PySem.W.depth_ints ns
      show max (ordD ns).depth (PyData.depthAll (D.map ordD)) ≤ 1
      have : (ordD ns).depth ≤ 1 := by simp only [PyData.depth, d]; omega
      omega
  have := e D
  show PyData.depthAll (D.map ordD) + 1 ≤ 64
  omega
/-! ### texts of rows of texts -/
theorem show_strs : ∀ {ss : List Str}, (∀ s ∈ ss, NameOk s) → PyData.showableAll (ss.map PyData.str) = true ∧ PyData.hasDictAll (ss.map PyData.str) = false ∧ ((PyData.shownAll (ss.map PyData.str)).map (·.length)).sum ≤ 100 * ss.length ∧ (PyData.shownAll (ss.map PyData.str)).length = ss.length
  | [], _ => ⟨rfl, rfl, Nat.zero_le _, rfl⟩
  | s :: ss, h => by
    obtain ⟨a, b, c, d⟩ := show_strs (ss := ss) fun q hq => h q (List.mem_cons_of_mem _ hq)
    have l1 : (PyData.shown (.str s)).length ≤ 82 := (h s List.mem_cons_self).shown
    refine ⟨?_, ?_, ?_, ?_⟩
    · show (true && PyData.showableAll (ss.map PyData.str)) = true
      rw [a]; rfl
    · show (false || PyData.hasDictAll (ss.map PyData.str)) = false
      rw [b]; rfl
    · show (PyData.shown (.str s)).length + ((PyData.shownAll (ss.map PyData.str)).map (·.length)).sum ≤ 100 * (ss.length + 1)
      omega
    · show (PyData.shownAll (ss.map PyData.str)).length + 1 = ss.length + 1
      rw [d]
abbrev strsT (ss : List Str) : PyData := .tuple (ss.map PyData.str)
abbrev strsL (ss : List Str) : PyData := .list (ss.map PyData.str)
theorem show_strsT {ss : List Str} (h : SlotsOk ss) : (strsT ss).showable = true ∧ (strsT ss).hasDict = false ∧ (strsT ss).shown.length ≤ 5000 := by
  obtain ⟨a, b, c, d⟩ := show_strs h.2.2
  refine ⟨a, b, ?_⟩
  have z : (strsT ss).shown.length ≤ _ := tupleText_len_le (PyData.shownAll (ss.map PyData.str))
  have l := h.2.1
  rw [d] at z
  omega
theorem bool_fits (b : Bool) : ((if b = true then ("True" : Str) else "False")).length ≤ sizeLine := by
  rw [sizeLine_eq]
  cases b <;> decide
end S11

namespace S11
open PySem L2 GM
open PySem.W (EachIs)
theorem due_len (n : Nat) (tn : Bool) : (due n tn).length = (ords n).length := by unfold due; rw [List.length_map]
theorem due_sign : ∀ n ≤ 4, 1 ≤ n → ∀ tn, ((due n tn).any fun t => decide (t.2 < 0)) = (tn && decide (1 < n)) := by decide +kernel
theorem due_ne : ∀ n ≤ 4, ∀ tn, due n tn ≠ [] := by decide +kernel
theorem due_perm {n : Nat} (h : n ≤ 4) {tn : Bool} : ∀ q ∈ due n tn, q.1.Perm (idn n) := fun q m => by
  unfold due at m
  obtain ⟨o, ho, rfl⟩ := List.mem_map.mp m
  exact (mem_ords h).mp ho
theorem due_sgn {n : Nat} {tn : Bool} : ∀ q ∈ due n tn, Sgn q.2 := fun q m => by
  unfold due at m
  obtain ⟨o, ho, rfl⟩ := List.mem_map.mp m
  cases tn
  · exact .inl rfl
  · exact par_sgn o
theorem due_are {n : Nat} (h : n ≤ 4) (tn : Bool) : Are n (due n tn) := fun q m => ⟨due_perm h q m, due_sgn q m⟩
theorem due_mv (ns : List Int) (n : Nat) (tn : Bool) : ((due n tn).map fun t => mv ns t.1) = (ords n).map (mv ns) := by
  unfold due
  rw [List.map_map]
  rfl
/-- places are shown as a value of its own -/
theorem ints_prts {H : Hp} : ∀ {ns : List Int}, (∀ i ∈ ns, 0 ≤ i ∧ i < 1000000000000000000) → Prts H (ns.map V.int) (ns.map itx)
  | [], _ => .nil
  | i :: ns, h => .cons (.int (by have := h i List.mem_cons_self; have z : (1000000000000000000 : Nat) < 2 ^ 200 := (by decide); omega)) (ints_prts fun j m => h j (List.mem_cons_of_mem _ m))
theorem PlsAt.odd {H : Hp} {n : Nat} {t : Addr} {ns : List Int} (h : PlsAt H n t ns) (n4 : n ≤ 5) : Odd H (.ref t) "tuple" (tupleText (ns.map itx)) := .row h.1 (ints_prts h.2.2) (by rw [List.length_map, h.2.1]; exact n4)
theorem cnt_ints {ns : List Int} (h : ∀ i ∈ ns, 0 ≤ i) : (ns.map V.int).all cntB = true := by
  rw [List.all_map]
  refine List.all_eq_true.mpr fun i m => ?_
  show decide (0 ≤ i) = true
  exact decide_eq_true (h i m)
theorem PlsAt.is {H : Hp} {n : Nat} {t : Addr} {ns : List Int} (h : PlsAt H n t ns) {b : Bool} (p : PlIs H n (.ref t) "tuple" b) : b = true := by
  rcases p with ⟨ne, _⟩ | ⟨_, a, vs, e, ha, eb⟩
  · exact absurd rfl ne
  · cases e
    obtain ⟨h1, h2, h3⟩ := h
    rw [h1] at ha
    obtain rfl : ns.map V.int = vs := by injection (Option.some.inj ha)
    rw [eb, cnt_ints fun i m => (h3 i m).1, List.length_map, h2, decide_eq_true rfl]
    rfl
theorem pls_small {ns : List Int} {n : Nat} (e : ns.length = n) (n4 : n ≤ 4) (h : ∀ i ∈ ns, 0 ≤ i ∧ i < 1000000000000000000) : Small ns := ⟨by omega, fun i m => by
  have := h i m
  have z : (1000000000000000000 : Nat) < 2 ^ 100 := (by decide)
  omega⟩
section
variable {P : Program} {w : World} {K : PySem.W.Frag} {mg : Str → Option Value} {base : Heap}
/-! ### _law_group_right -/
def spGroupR (C : Addr) : Sp := fun vs H Q _ => ∃ (l p : Addr) (z : Str) (ss : List Str) (n : Nat) (tn : Bool), vs = [.ref l, .ref p, .int n, .bl tn] ∧ PotAt H l ∧ TabAt C H p z ss (due n tn) ∧ ss.length = n ∧ 1 ≤ n ∧ n ≤ 4 ∧ ∀ H', SameX l H H' → PotAt H' l → Q (.bl true) H'
abbrev nGroup : List Str := ["_law_pot_here", "_law_table", "_law_many", "_law_turning", "_law_due", "_law_told", "_law_turn", "_law_places_here", "_law_kept", "_law_found", "_law_order"]
abbrev pGroup : List Str := ["_law_pot_here", "_law_table", "_law_many", "_law_turning"]
theorem scGroup : FnScope nGroup pGroup (defScope sGroup) := ⟨rfl, rfl, rfl, by decide +kernel, rfl, by decide +kernel, by decide +kernel⟩
def tBoth : TE := fun σ H Q => ∃ (n : Nat) (tn : Bool), σ[2]? = some (some (.int n)) ∧ σ[3]? = some (some (.bl tn)) ∧ Q (.bl (tn && decide (1 < n))) H
/-- the law's own list of turns -/
def tDue : TE := fun σ H Q => ∃ (n : Nat) (tn : Bool) (t : Addr) (o : List Int), σ[3]? = some (some (.bl tn)) ∧ σ[10]? = some (some (.ref t)) ∧ OrdIs H (t, o) ∧ o.length ≤ 8 ∧ ∀ (H' : Hp) (v : V), Same H H' → TurnS H' v (o, if tn then par o else 1) → Q v H'
theorem ok_group {f C : Addr} {fd : FuncData} (F : Fun K "_law_group_right" "_law_group_right" sGroup f fd) (B : Bn mg) (N : Tc K mg C)
    (DO : Df P w K mg base "_law_orders" ["_law_many"] 1 spOrders) (DR : Df P w K mg base "_law_parity" ["_law_order"] 1 spParity) (DM : Df P w K mg base "_law_moved" ["_law_places_here", "_law_order"] 1 (spMoved K)) (DL : Df P w K mg base "_law_least" ["_law_places_here", "_law_turning"] 2 spLLeast) (DP : Df P w K mg base "_law_places" ["_law_pot_here", "_law_many"] 3 spLPlaces)
    (MT : Mt P w K mg base C "turns" ["self"] 1 (spTTurns C)) (MG : ∃ q g fd, PropOf K C "changes_sign" q g ∧ Binds K fd ["self"] [] ∧ FnOk P w K mg base CX0 1 g fd ["self"] (spTSign C))
    (ML : Mt P w K mg base C "least" ["self", "places"] 5 (spTLeast K C)) (MC : Mt P w K mg base C "class_of" ["self", "places"] 5 (spTClass K C)) (MI : Mt P w K mg base C "is_slot_places" ["self", "value"] 3 (spTIsPlO C)) :
    FnG P w K mg base CX0 7 f fd pGroup (spGroupR C) := by
  obtain ⟨fu, fdu, hu1, bu, GU⟩ := MT.ex
  obtain ⟨fl, fdl, hl, bl, GL⟩ := ML.ex
  obtain ⟨fc, fdc, hc, bc, GCl⟩ := MC.ex
  obtain ⟨fi, fdi, hi, bi, GI⟩ := MI.ex
  obtain ⟨qp, gp, fdp, hp1, bp, GP⟩ := MG
  refine F.okG scGroup (fun vs H Q E h => ?_) (fun cdv A outer s H vs Q E gd hr h => ?_)
  · obtain ⟨l, p, z, ss, n, tn, rfl, _⟩ := h
    rfl
  · obtain ⟨l, p, z, ss, n, tn, rfl, pot, tab, sn, n1, n4, q⟩ := h
    have hu := hr.units
    have h1 : Room 1 _ := hr.mono (by decide)
    have h2 : Room 2 _ := hr.mono (by decide)
    have h3 : Room 3 _ := hr.mono (by decide)
    have h5 : Room 5 _ := hr.mono (by decide)
    have dg : (A.deeper (PyProof.Rows.envOfC "_law_group_right" (defScope sGroup) s.heap.objs.size f cdv)).guards = some [] := deeper_guards.trans gd
    have room : (A.deeper (PyProof.Rows.envOfC "_law_group_right" (defScope sGroup) s.heap.objs.size f cdv)).units + 70 < cLine := by
      have := hr.un
      omega
    have nd := scGroup.nd
    refine' ⟨_, pss_cons (ps_setLc (i := 4) (own := [("_law_order", 10)]) (g := gName 10) (tt := tYes) (te := tDue) (by rfl) nd rfl rfl (sw_true rfl rfl rfl (by decide +kernel)) (pi_list (pe_df DO h1 (by rfl) (pa_cons (pv 2) pa_nil)))
        (blkOk_by (own := [("_law_order", 10)]) (N := nGroup) (sc := defScope sGroup) (by decide +kernel)) (fun _ _ _ _ _ => pg_name (i := 10) nd rfl (Or.inl rfl)) (fun _ _ _ _ _ => pts_nil) (fun _ _ _ _ _ => PE.imp (t' := tDue) (pe_tup (pa_cons (pv 10) (pa_cons (pe_ifExp (pt_val (pv 3)) (pe_df DR h1 (by rfl) (pa_cons (pv 10) pa_nil)) pe_int) pa_nil))) ?qDue))
      (pss_cons (ps_set (i := 5) nd rfl (Or.inl rfl) (pe_meth0 (pv 1) N.cl hu1 GU h1 bu .nil pass0))
      (pss_cons (ps_if (PW.pt (pw_or (pt_not (pt_val (pe_callB call_isi (by rfl) B.isi (by decide +kernel) (pa_cons (pv 5) (pa_cons (pe_bltn (v := .ty "list") (by rfl) B.list (by decide +kernel) rfl) pa_nil)))))
          (pw_or (pt_cmpR op_ne (pe_callB (call_reprD dg room) (by rfl) B.repr (by decide +kernel) (pa_cons (pv 5) pa_nil)) (pe_callB (call_reprD dg room) (by rfl) B.repr (by decide +kernel) (pa_cons (pv 4) pa_nil)) (nomark _))
          (pw_or1 (pt_cmpR op_ne (pe_callB (call_sg (k := 1) dg h2) (by rfl) B.repr (by decide +kernel) (pa_cons (pe_prop (E := E0) (pv 1) N.cl hp1 GP h2 bp .nil pass0 rfl) pa_nil)) (pe_callB (call_sg (k := 1) dg h2) (by rfl) B.repr (by decide +kernel) (pa_cons (PE.imp (t' := tBoth) (pe_and (pv 3) (pe_one (pe_cmpR op_gt (pv 2) pe_int (nomark _)))) ?qBoth) pa_nil)) (nomark _)))))) (pss_one (ps_ret pe_bl)) pss_nil)
      (pss_cons (ps_expr (pe_bm PySem.F.plainAttrs_list PySem.F.slot_list_append PySem.F.type_list_append mt_append (pv 5) (pa_cons pe_non pa_nil)))
      (pss_cons (ps_for PassesOwn.never rfl (pi_range1 (by rfl) B.range (pa_cons pe_int pa_nil)) (pg_name (i := 6) nd rfl (Or.inl rfl))
        (pss_cons (ps_set (i := 7) nd rfl (Or.inr rfl) (pe_df DP h3 (by rfl) (pa_cons (pv 0) (pa_cons (pv 2) pa_nil))))
        (pss_cons (ps_set (i := 8) nd rfl (Or.inl rfl) (pe_callB (cr_sortedT rfl) (by rfl) B.sorted (by decide +kernel) (pa_cons (pe_callTy (cr_setOfT rfl hu) (by rfl) B.set (by decide +kernel) (pa_cons (pe_lc (own := [("_law_order", 10)]) (g := gName 10) (tt := tYes) (te := tCall (spMoved K) [] E0 (tCons (tVar 7) (tCons (tVar 10) tNil))) (by rfl) nd (pi_list (pe_df DO h1 (by rfl) (pa_cons (pv 2) pa_nil)))
          (blkOk_by (own := [("_law_order", 10)]) (N := nGroup) (sc := defScope sGroup) (by decide +kernel)) (fun _ _ _ _ _ => pg_name (i := 10) nd rfl (Or.inl rfl)) (fun _ _ _ _ _ => pts_nil) (fun _ _ _ _ _ => pe_df DM h1 (by rfl) (pa_cons (pv 7) (pa_cons (pv 10) pa_nil)))) pa_nil)) pa_nil)))
        (pss_cons (ps_set (i := 9) nd rfl (Or.inl rfl) (pe_meth (pv 1) N.cl hc GCl h5 bc .nil pass0 (pa_cons (pv 7) pa_nil)))
        (pss_cons (ps_if (PW.pt (pw_or (pt_cmpR op_ne (pe_callB (call_reprD dg room) (by rfl) B.repr (by decide +kernel) (pa_cons (pv 9) pa_nil)) (pe_callB (call_reprD dg room) (by rfl) B.repr (by decide +kernel) (pa_cons (pv 8) pa_nil)) (nomark _))
            (pw_or1 (pt_cmpR op_ne (pe_callB (call_reprD dg room) (by rfl) B.repr (by decide +kernel) (pa_cons (pe_meth (pv 1) N.cl hl GL h5 bl .nil pass0 (pa_cons (pv 7) pa_nil)) pa_nil)) (pe_callB (call_reprD dg room) (by rfl) B.repr (by decide +kernel) (pa_cons (pe_df DL h2 (by rfl) (pa_cons (pv 7) (pa_cons (pv 3) pa_nil))) pa_nil)) (nomark _))))) (pss_one (ps_ret pe_bl)) pss_nil)
        (pss_cons (ps_expr (pe_bm PySem.F.plainAttrs_list PySem.F.slot_list_append PySem.F.type_list_append mt_append (pv 9) (pa_cons (pe_tup pa_nil) pa_nil)))
        (pss_one (ps_if (PW.pt (pw_or (pt_cmpR op_ne (pe_callB (call_reprD dg room) (by rfl) B.repr (by decide +kernel) (pa_cons (pe_meth (pv 1) N.cl hc GCl h5 bc .nil pass0 (pa_cons (pv 7) pa_nil)) pa_nil)) (pe_callB (call_reprD dg room) (by rfl) B.repr (by decide +kernel) (pa_cons (pv 8) pa_nil)) (nomark _))
            (pw_or1 (pt_cmpR op_notBl (pe_meth (pv 1) N.cl hi GI h3 bi .nil pass0 (pa_cons (pv 7) pa_nil)) pe_bl (nomark _))))) (pss_one (ps_ret pe_bl)) pss_nil))))))))
      (pss_one (ps_ret (pe_cmpR op_eq (pe_callB (call_reprD dg room) (by rfl) B.repr (by decide +kernel) (pa_cons (pe_meth0 (pv 1) N.cl hu1 GU h1 bu .nil pass0) pa_nil)) (pe_callB (call_reprD dg room) (by rfl) B.repr (by decide +kernel) (pa_cons (pv 4) pa_nil)) (nomark _)))))))), ?_⟩
    case qDue =>
      rintro σ H0 R ⟨n', tn', t, o, h3', h10, ot, few, fin⟩
      refine ⟨_, h10, _, h3', tn', rfl, ?_⟩
      cases tn' with
      | true =>
        refine iteT ⟨_, h10, t, o, rfl, ot, few, fun H1 s1 => ⟨(by show 2 ≤ sizeLine; decide), fun T hT => ?_⟩⟩
        exact fin _ _ (sNew s1 hT) ⟨T, t, rfl, upd_same, sNew s1 hT _ _ ot⟩
      | false =>
        refine iteF ⟨(by show 2 ≤ sizeLine; decide), fun T hT => ?_⟩
        exact fin _ _ (sNew (Same.refl H0) hT) ⟨T, t, rfl, upd_same, sNew (Same.refl H0) hT _ _ ot⟩
    case qBoth =>
      rintro σ H0 R ⟨n', tn', h2', h3', fin⟩
      refine ⟨_, h3', tn', rfl, ?_⟩
      cases tn' with
      | true =>
        refine iteT ⟨_, h2', _, _, rfl, rfl, ?_⟩
        have e : decide ((1 : Int) < (n' : Int)) = (true && decide (1 < n')) := by
          rw [Bool.true_and]
          exact decide_eq_decide.mpr (by omega)
        show R (.bl (decide ((1 : Int) < (n' : Int)))) H0
        rw [e]
        exact fin
      | false => exact iteF fin
    have olen : ∀ o ∈ ords n, o.length ≤ 4 := fun o m => by rw [perm_len ((mem_ords n4).mp m)]; exact n4
    have ofew := ords_len n n4
    have dlen : (due n tn).length ≤ 24 := by rw [due_len]; exact ofew
    obtain ⟨v1, v2, v3⟩ := show_turns (small_are n4 (due_are n4 tn)) (by omega)
    have wd : (PyData.list ((due n tn).map turnD)).depth ≤ 64 := by
      have := deep_turns (due n tn)
      show PyData.depthAll ((due n tn).map turnD) + 1 ≤ 64
      omega
    have v3' : (PyData.list ((due n tn).map turnD)).shown.length ≤ sizeLine := by rw [sizeLine_eq]; omega
    refine ⟨_, rfl, n, rfl, n4, fun H1 r s1 hr0 ⟨ks, hks, oks, eks⟩ => ?_⟩
    have klen : ks.length = (ords n).length := by rw [← eks, List.length_map]
    refine ⟨r, rfl, ⟨_, SqL.of hks⟩, fun D hD => ?_⟩
    refine lc_it (walk_list (K := K) (a := r) (xs := ks.map fun p => V.ref p.1)) (fun i G => Same H1 G ∧ ∃ vs, G D = some (.lst vs) ∧ TurnsS G vs ((due n tn).take i)) ⟨sNew (Same.refl H1) hD, [], upd_same, .nil⟩ (fun i G _ h => SqL.of (h.1 _ _ hks)) ?_ ?_
    · rintro i v _ G hi ⟨sG, vs, hvs, tvs⟩ ⟨rfl, hv⟩
      obtain ⟨a, o, rfl, ho, eo, mo⟩ := ords_in_get (fun p m => sG _ _ (oks p m)) eks hv
      have hm : (due n tn)[i]? = some (o, if tn then par o else 1) := by unfold due; rw [List.getElem?_map, eo]; rfl
      refine ⟨rfl, n, tn, a, o, rfl, rfl, ho, by have := olen o mo; omega, fun G2 v s5 tv => ?_⟩
      have hvs2 := s5 _ _ hvs
      have vl : vs.length ≤ 24 := by
        have := EachIs.length tvs
        rw [List.length_take] at this
        omega
      refine ⟨vs, hvs2, lt_line (by omega), sPut (Same.trans sG s5) hD, vs ++ [v], upd_same, ?_⟩
      rw [List.take_add_one, hm]
      exact each_snoc ((TurnsS.same s5 tvs).mono fun _ _ h => h.put hvs2) (tv.put hvs2)
    rintro G ⟨sG, vs, hvs, tvs⟩
    rw [List.length_map, klen, ← due_len n tn, List.take_length] at tvs
    have gD : GroupAt G D (due n tn) := ⟨vs, hvs, tvs⟩
    have sHG : Same H G := Same.trans s1 sG
    have tabG := tab.same sHG
    obtain ⟨dx, sa, ga, i1, i2, i3⟩ := id tabG
    refine ⟨_, rfl, p, dx, _, rfl, i1, fld_none (by decide) (by decide) (by decide), p, z, ss, due n tn, rfl, tabG, fun G2 lt s2 hlt0 g2 => ?_⟩
    obtain ⟨ltv, hlt, tlt⟩ := id g2
    refine ⟨_, rfl, _, _, _, _, true, rfl, .ty "list", .base (.lst hlt), kit_ty (by decide +kernel), true, rfl, iteF ?_⟩
    refine ⟨_, rfl, lt, _, rfl, g2.dp, v1, v2, wd, v3', _, rfl, D, _, rfl, (gD.same s2).dp, v1, v2, wd, v3', rfl, _, rfl, ?_⟩
    rw [decide_eq_true rfl]
    refine iteF ⟨_, rfl, p, dx, _, rfl, s2 _ _ i1, p, z, ss, due n tn, rfl, tabG.same s2, by omega, fun G4 s4 => ?_⟩
    refine ⟨_, _, (fun G => G = G4), (fun _ => False), rfl, rfl, sg_bl, bool_fits _, fun G5 e => ?_⟩
    have e' := e.symm
    subst e'
    refine ⟨n, tn, rfl, rfl, _, _, (fun G => G = G4), (fun _ => False), rfl, rfl, sg_bl, bool_fits _, fun G6 e => ?_⟩
    have e' := e.symm
    subst e'
    refine ⟨rfl, _, rfl, ?_⟩
    rw [due_sign n n4 n1 tn, decide_eq_true rfl]
    have hlt6 := s4 _ _ hlt
    have ltl : ltv.length ≤ 24 := by
      have := EachIs.length tlt
      omega
    refine iteF ⟨_, rfl, .inl ⟨rfl, _, SqL.of hlt6⟩, lt, _, _, rfl, rfl, hlt6, lt_line (by omega), ?_⟩
    have s6 : Same G (upd G4 lt (.lst (ltv ++ [V.non]))) := sPut (Same.trans s2 s4) hlt0
    generalize upd G4 lt (.lst (ltv ++ [V.non])) = G7 at s6
    have tab7 := tabG.same s6
    have gD7 := gD.same s6
    have pot7 := pot.same (Same.trans sHG s6)
    refine ⟨4, rfl, by omega, by omega, for_it (walk_range (lo := 0) (n := (4 : Int).toNat)) (fun i σ G' => SameX l G7 G' ∧ PotAt G' l ∧ ∃ y6 y7 y8 y9 : Option V, σ = [some (.ref l), some (.ref p), some (.int n), some (.bl tn), some (.ref D), some (.ref lt), y6, y7, y8, y9, none]) ⟨SameX.of (Same.refl G7), pot7, none, none, none, none, rfl⟩ (fun _ _ _ _ _ => trivial) ?_ ?_⟩
    · rintro i v σ _ G8 hi ⟨sx8, pot8, y6, y7, y8, y9, rfl⟩ ⟨rfl, rfl⟩
      have tab8 := tab7.pot pot7 sx8
      refine ⟨_, rfl, _, rfl, l, n, rfl, pot8, n4, fun G9 t ns sx9 pot9 ht0 pls => ?_⟩
      have tab9 := tab8.pot pot8 sx9
      obtain ⟨ht, nl, nok⟩ := id pls
      have pos : ∀ i ∈ ns, 0 ≤ i := fun i m => (nok i m).1
      have nlz : ns.length = ss.length := by omega
      have permN : ∀ q ∈ due n tn, q.1.Perm (idn ns.length) := by rw [nl]; exact due_perm n4
      refine ⟨_, rfl, n, rfl, n4, fun G10 r2 s10 hr2 ⟨k2, hk2, ok2, ek2⟩ => ?_⟩
      have k2len : k2.length = (ords n).length := by rw [← ek2, List.length_map]
      refine ⟨r2, rfl, ⟨_, SqL.of hk2⟩, fun D2 hD2 => ?_⟩
      refine lc_it (walk_list (K := K) (a := r2) (xs := k2.map fun p => V.ref p.1)) (fun i G => Same G10 G ∧ ∃ js : List (Addr × List Int), G D2 = some (.lst (js.map fun p => V.ref p.1)) ∧ (∀ p ∈ js, OrdIs G p) ∧ js.map Prod.snd = ((ords n).take i).map (mv ns)) ⟨sNew (Same.refl G10) hD2, [], upd_same, by simp, rfl⟩ (fun i G _ h => SqL.of (h.1 _ _ hk2)) ?_ ?_
      · rintro j v _ G11 hj ⟨s11, js, hjs, ojs, ejs⟩ ⟨rfl, hv⟩
        obtain ⟨a, o, rfl, ho, eo, mo⟩ := ords_in_get (fun p m => s11 _ _ (ok2 p m)) ek2 hv
        have po := (mem_ords n4).mp mo
        have ol := olen o mo
        refine ⟨rfl, _, rfl, _, rfl, t, a, ns, o, rfl, .inl (.inl (s11 _ _ (s10 _ _ ht))), .inl (.inl ho), by rw [nl]; exact idn_fits po, by omega, fun G12 pm s12 hpm em => ?_⟩
        have hjs12 := s12 _ _ hjs
        have jl : js.length ≤ 24 := by
          have := congrArg List.length ejs
          rw [List.length_map, List.length_map, List.length_take] at this
          omega
        refine ⟨_, hjs12, lt_line (by rw [List.length_map]; omega), sPut (Same.trans s11 s12) hD2, js ++ [(pm, mv ns o)], by rw [upd_same, List.map_append]; rfl, fun x m => ?_, ?_⟩
        · have o' : OrdIs G12 x := by
            rcases List.mem_append.mp m with m | m
            · exact s12 _ _ (ojs x m)
            · rw [List.mem_singleton.mp m]; exact em
          exact OrdIs.put o' hjs12
        · rw [List.map_append, ejs, List.take_add_one, eo, List.map_append]
          rfl
      rintro G11 ⟨s11, js, hjs, ojs, ejs⟩
      rw [List.length_map, k2len, List.take_length] at ejs
      dsimp only [tNil]
      refine class_read hjs ojs (L := due n tn) (by rw [due_mv]; exact ejs) (by omega) (d := n) n1 (fun q m => perm_len (due_perm n4 q m)) pos fun G12 kp jk s12 hkp0 hkp hjk clsK => ?_
      have s912 : Same G9 G12 := Same.trans s10 (Same.trans s11 s12)
      obtain ⟨dx', sa', ga', i1', i2', i3'⟩ := id (tab9.same s912)
      have t12 := s912 _ _ ht
      have tabC := tab9.same s912
      refine ⟨_, rfl, p, dx', _, rfl, i1', fld_none (by decide) (by decide) (by decide), _, rfl, p, t, z, ss, due n tn, ns, rfl, tabC, .inl (.inl t12), nlz, by omega, by omega, pos, permN, by omega, fun G13 ct jc s13 hct0 hct hjc clsC => ?_⟩
      have smallns := pls_small nl n4 nok
      have sameJ : jc.map Prod.snd = jk.map Prod.snd := Cls.one pos (fun q m => perm_len (due_perm n4 q m)) clsC clsK
      have smallD : ∀ x ∈ jk.map Prod.snd, Small x := fun x hx => by
        obtain ⟨q0, hq0, rfl⟩ := (clsK.mem x).mp hx
        exact small_mv smallns (by rw [perm_len (due_perm n4 q0 hq0)]; omega)
      have fewD : (jk.map Prod.snd).length ≤ 100 := by
        have y := nodup_le (E := (due n tn).map fun t => mv ns t.1) clsK.nd fun x hx => by
          obtain ⟨q0, hq0, rfl⟩ := (clsK.mem x).mp hx
          exact List.mem_map.mpr ⟨q0, hq0, rfl⟩
        rw [List.length_map (as := due n tn)] at y
        omega
      obtain ⟨w1, w2, w3⟩ := show_ords smallD fewD
      have w3' : (PyData.list ((jk.map Prod.snd).map ordD)).shown.length ≤ sizeLine := le_line (by omega)
      have dpC : ∀ {G : Hp}, Same G13 G → Dp K G (.ref ct) (.list ((jk.map Prod.snd).map ordD)) := fun {G} s => by
        rw [← sameJ]
        exact .lst (SqL.of (s _ _ hct)) (dp_js fun q m => s _ _ (hjc q m))
      have dpK : ∀ {G : Hp}, Same G12 G → Dp K G (.ref kp) (.list ((jk.map Prod.snd).map ordD)) := fun {G} s => .lst (SqL.of (s _ _ hkp)) (dp_js fun q m => s _ _ (hjk q m))
      refine ⟨_, rfl, ct, _, rfl, dpC (Same.refl _), w1, w2, deep_js _, w3', _, rfl, kp, _, rfl, dpK s13, w1, w2, deep_js _, w3', rfl, _, rfl, ?_⟩
      rw [decide_eq_true rfl]
      refine iteF ?_
      have s913 : Same G9 G13 := Same.trans s912 s13
      refine ⟨_, rfl, p, dx', _, rfl, s13 _ _ i1', fld_none (by decide) (by decide) (by decide), _, rfl, p, t, z, ss, due n tn, ns, rfl, tab9.same s913, .inl (.inl (s913 _ _ ht)), nlz, by omega, pos, permN, due_ne n n4 tn, by omega, fun G14 lr lo lv g s14 hlr hlo lst1 => ?_⟩
      have lsm : Small lv ∧ g.natAbs < 2 ^ 100 := by
        obtain ⟨m, hm, e⟩ := lst1.mem
        have inM : ∀ m ∈ mates ns (due n tn), Small m.1 ∧ (m.2 = 1 ∨ m.2 = -1) := fun m hm => by
          unfold mates at hm
          obtain ⟨q0, hq0, rfl⟩ := List.mem_map.mp hm
          exact ⟨small_mv smallns (by rw [perm_len (due_perm n4 q0 hq0)]; omega), due_sgn q0 hq0⟩
        refine ⟨e ▸ (inM m hm).1, ?_⟩
        rcases lst1.sign with k | ⟨k, _⟩
        · rcases (inM m hm).2 with y | y
          · rw [← k m hm e, y]; decide
          · rw [← k m hm e, y]; decide
        · rw [k]; decide
      obtain ⟨x1, x2, x3⟩ := show_due lsm.2 lsm.1
      have xd : (PyData.tuple [.int g, ordD lv]).depth ≤ 64 := by
        have d := PySem.W.depth_ints lv
        simp only [PyData.depth, PyData.depthAll, d]
        omega
      refine ⟨lr, _, rfl, .tup (.inl (.inl hlr)) (.cons (.int _) (.cons (dp_ord (.inl (.inl hlo))) .nil)), x1, x2, xd, le_line (by omega), ?_⟩
      have s914 : Same G9 G14 := Same.trans s913 s14
      refine ⟨_, rfl, _, rfl, t, tn, n, ns, rfl, pls.same s914, n4, fun G15 r15 s15 ⟨u5, lo5, g5, hr15, hu5, lst2⟩ => ?_⟩
      rw [nl] at lst2
      obtain ⟨e1, e2⟩ := lst1.one lst2
      subst e1
      subst e2
      refine ⟨r15, _, rfl, .tup (.inl (.inl hr15)) (.cons (.int _) (.cons (dp_ord (.inl (.inl hu5))) .nil)), x1, x2, xd, le_line (by omega), rfl, _, rfl, ?_⟩
      rw [decide_eq_true rfl]
      refine iteF ?_
      have hct15 := s15 _ _ (s14 _ _ hct)
      refine ⟨_, rfl, .inl ⟨rfl, _, SqL.of hct15⟩, (by show 0 ≤ sizeLine; decide), fun e0 he0 => ?_⟩
      have s16 := sNew (o := .tup []) (Same.refl G15) he0
      have hct16 := s16 _ _ hct15
      have jcl : jc.length ≤ 100 := by
        have := congrArg List.length sameJ
        rw [List.length_map] at this
        omega
      refine ⟨ct, _, _, rfl, rfl, hct16, lt_line (by rw [List.length_map]; omega), ?_⟩
      have s12e : Same G12 (upd (upd G15 e0 (.tup [])) ct (.lst ((jc.map fun p => V.ref p.1) ++ [V.ref e0]))) := sPut (Same.trans s13 (Same.trans s14 (Same.trans s15 s16))) hct0
      generalize upd (upd G15 e0 (.tup [])) ct (.lst ((jc.map fun p => V.ref p.1) ++ [V.ref e0])) = G17 at s12e
      have s917 : Same G9 G17 := Same.trans s912 s12e
      refine ⟨_, rfl, p, dx', _, rfl, s12e _ _ i1', fld_none (by decide) (by decide) (by decide), _, rfl, p, t, z, ss, due n tn, ns, rfl, tab9.same s917, .inl (.inl (s917 _ _ ht)), nlz, by omega, by omega, pos, permN, by omega, fun G18 ct2 jc2 s18 hct20 hct2 hjc2 clsC2 => ?_⟩
      have sameJ2 : jc2.map Prod.snd = jk.map Prod.snd := Cls.one pos (fun q m => perm_len (due_perm n4 q m)) clsC2 clsK
      have dpC2 : Dp K G18 (.ref ct2) (.list ((jk.map Prod.snd).map ordD)) := by
        rw [← sameJ2]
        exact .lst (SqL.of hct2) (dp_js hjc2)
      refine ⟨ct2, _, rfl, dpC2, w1, w2, deep_js _, w3', _, rfl, kp, _, rfl, dpK (Same.trans s12e s18), w1, w2, deep_js _, w3', rfl, _, rfl, ?_⟩
      rw [decide_eq_true rfl]
      have s918 : Same G9 G18 := Same.trans s917 s18
      refine iteF ⟨_, rfl, p, dx', _, rfl, s18 _ _ (s12e _ _ i1'), fld_none (by decide) (by decide) (by decide), _, rfl, p, .ref t, "tuple", _, z, ss, due n tn, rfl, tab9.same s918, (pls.same s918).odd (by omega), fun b pis G19 s19 => ?_⟩
      rw [sn] at pis
      obtain rfl := (pls.same s918).is pis
      refine ⟨true, true, rfl, rfl, _, rfl, ?_⟩
      rw [decide_eq_true rfl]
      refine iteF ?_
      have sxE : SameX l G7 G19 := SameX.same (SameX.trans sx8 sx9) (Same.trans s918 s19)
      exact ⟨sxE, pot9.same (Same.trans s918 s19), _, _, _, _, rfl⟩
    · rintro σ G8 ⟨sx8, pot8, y6, y7, y8, y9, rfl⟩
      have tab8 := tab7.pot pot7 sx8
      have gD8 := gD7.pot pot7 (gD7.off pot7) sx8
      obtain ⟨dx', sa', ga', i1', i2', i3'⟩ := id tab8
      refine ⟨_, rfl, p, dx', _, rfl, i1', fld_none (by decide) (by decide) (by decide), p, z, ss, due n tn, rfl, tab8, fun G9 l9 s9 hl90 g9 => ?_⟩
      refine ⟨l9, _, rfl, g9.dp, v1, v2, wd, v3', _, rfl, D, _, rfl, (gD8.same s9).dp, v1, v2, wd, v3', rfl, ?_⟩
      rw [decide_eq_true rfl]
      exact q G9 (SameX.same (SameX.trans (SameX.of (Same.trans sHG s6)) sx8) s9) (pot8.same s9)
end
end S11

namespace S11
open PySem L2 GM
open PySem.W (EachIs)
open LamX (Tabs ExtN LamS lamCx lamEnv TabB)
/-! what stays where lambdas are made -/
def ExtX (l : Addr) (H H' : Hp) : Prop := ∀ b o, b ≠ l → H b = some o → (∀ ps, o ≠ .tbl ps) → H' b = some o
theorem ExtX.of {l : Addr} {H H' : Hp} (s : SameX l H H') : ExtX l H H' := fun b o n e _ => s b o n e
theorem ExtX.ofN {l : Addr} {H H' : Hp} (s : ExtN H H') : ExtX l H H' := fun b o _ e n => s b o e n
theorem ExtX.ofS {l : Addr} {H H' : Hp} (s : Same H H') : ExtX l H H' := fun b o _ e _ => s b o e
theorem ExtX.trans {l : Addr} {H H1 H2 : Hp} (a : ExtX l H H1) (b : ExtX l H1 H2) : ExtX l H H2 := fun c o n e t => b c o n (a c o n e t) t
theorem PotAt.ext {l : Addr} {H H' : Hp} (s : ExtN H H') (h : PotAt H l) : PotAt H' l := by
  obtain ⟨x, y, e, r⟩ := h
  exact ⟨x, y, s _ _ e (fun _ z => nomatch z), r⟩
theorem TurnS.extN {H H' : Hp} {v : V} {p : Turn} (s : ExtN H H') (h : TurnS H v p) : TurnS H' v p := by
  obtain ⟨t, u, rfl, h1, h2⟩ := h
  exact ⟨t, u, rfl, s _ _ h1 (fun _ z => nomatch z), s _ _ h2 (fun _ z => nomatch z)⟩
theorem GroupAt.extN {H H' : Hp} {a : Addr} {L : List Turn} (s : ExtN H H') (h : GroupAt H a L) : GroupAt H' a L := by
  obtain ⟨vs, h1, h2⟩ := h
  exact ⟨vs, s _ _ h1 (fun _ z => nomatch z), h2.mono fun _ _ z => z.extN s⟩
theorem TabAt.extN {C : Addr} {H H' : Hp} {a : Addr} {z : Str} {ss : List Str} {L : List Turn} (s : ExtN H H') (h : TabAt C H a z ss L) : TabAt C H' a z ss L := by
  obtain ⟨dx, sa, ga, h1, h2, h3⟩ := h
  exact ⟨dx, sa, ga, s _ _ h1 (fun _ z => nomatch z), s _ _ h2 (fun _ z => nomatch z), h3.extN s⟩
theorem TabAt.extX {C : Addr} {H H' : Hp} {a l : Addr} {z : Str} {ss : List Str} {L : List Turn} (p : PotAt H l) (s : ExtX l H H') (h : TabAt C H a z ss L) : TabAt C H' a z ss L := by
  obtain ⟨x, y, el, _⟩ := id p
  obtain ⟨dx, sa, ga, h1, h2, gv, h3, h4⟩ := h
  have off : ga ≠ l := GroupAt.off ⟨gv, h3, h4⟩ p
  refine ⟨dx, sa, ga, s _ _ (ne_of h1 el (fun z => by cases z)) h1 (fun _ z => nomatch z), s _ _ (ne_of h2 el (fun z => by cases z)) h2 (fun _ z => nomatch z), gv, s _ _ off h3 (fun _ z => nomatch z), h4.mono fun _ _ h => ?_⟩
  obtain ⟨t, u, rfl, k1, k2⟩ := h
  exact ⟨t, u, rfl, s _ _ (ne_of k1 el (fun z => by cases z)) k1 (fun _ z => nomatch z), s _ _ (ne_of k2 el (fun z => by cases z)) k2 (fun _ z => nomatch z)⟩
theorem PlsAt.extN {H H' : Hp} {n : Nat} {t : Addr} {ns : List Int} (s : ExtN H H') (h : PlsAt H n t ns) : PlsAt H' n t ns := ⟨s _ _ h.1 (fun _ z => nomatch z), h.2⟩
theorem Odd.extN {H H' : Hp} {v : V} {T : String} {t : Str} (s : ExtN H H') (h : Odd H v T t) : Odd H' v T t :=
  h.keep (fun a o e c => s a o e (by rcases c with rfl | rfl | rfl <;> exact fun _ z => nomatch z)) (fun a vs e => s a _ e (fun _ z => nomatch z)) (fun a vs _ e => s a _ e (fun _ z => nomatch z))
theorem tabs_put {T : List (Addr × Str)} {H : Hp} {l : Addr} {xs ys : List V} (t : Tabs T H) (hl : H l = some (.lst xs)) : Tabs T (upd H l (.lst ys)) := fun p hp => by
  obtain ⟨ps, h1, h2, h3⟩ := t p hp
  refine ⟨ps, ?_, h2, fun pos cv hc => ?_⟩
  · rw [upd_ne (fun z => by rw [z, hl] at h1; cases h1)]
    exact h1
  · obtain ⟨c, e, hc'⟩ := h3 pos cv hc
    refine ⟨c, e, ?_⟩
    rw [upd_ne (fun z => by rw [z, hl] at hc'; cases hc')]
    exact hc'
theorem tabs_pot {T : List (Addr × Str)} {H H' : Hp} {l : Addr} (p : PotAt H l) (s : SameX l H H') (t : Tabs T H) : Tabs T H' := fun q hq => by
  obtain ⟨x, y, el, _⟩ := p
  obtain ⟨ps, h1, h2, h3⟩ := t q hq
  refine ⟨ps, s _ _ (fun z => by rw [z, el] at h1; cases h1) h1, h2, fun pos cv hc => ?_⟩
  obtain ⟨c, e, hc'⟩ := h3 pos cv hc
  exact ⟨c, e, s _ _ (fun z => by rw [z, el] at hc'; cases hc') hc'⟩
/-! places that are refused -/
def BadPl (H : Hp) (n : Nat) (v : V) : Prop := ∃ (T : String) (t : Str), Odd H v T t ∧ (T ≠ "tuple" ∨ ∃ (a : Addr) (vs : List V), v = .ref a ∧ H a = some (.tup vs) ∧ (decide (vs.length = n) && vs.all cntB) = false)
theorem BadPl.same {H H' : Hp} {n : Nat} {v : V} (s : Same H H') (h : BadPl H n v) : BadPl H' n v := by
  obtain ⟨T, t, od, c⟩ := h
  refine ⟨T, t, od.same s, c.imp id ?_⟩
  rintro ⟨a, vs, e, ha, b⟩
  exact ⟨a, vs, e, s _ _ ha, b⟩
theorem BadPl.extN {H H' : Hp} {n : Nat} {v : V} (s : ExtN H H') (h : BadPl H n v) : BadPl H' n v := by
  obtain ⟨T, t, od, c⟩ := h
  refine ⟨T, t, od.extN s, c.imp id ?_⟩
  rintro ⟨a, vs, e, ha, b⟩
  exact ⟨a, vs, e, s _ _ ha (fun _ z => nomatch z), b⟩
theorem bad_no {H : Hp} {n : Nat} {v : V} {T : String} (c : T ≠ "tuple" ∨ ∃ (a : Addr) (vs : List V), v = .ref a ∧ H a = some (.tup vs) ∧ (decide (vs.length = n) && vs.all cntB) = false) : ∀ b, PlIs H n v T b → b = false := by
  rintro b (⟨_, e⟩ | ⟨eT, a, vs, e, ha, eb⟩)
  · exact e
  · rcases c with c | ⟨a', vs', e', ha', b'⟩
    · exact absurd eT c
    · subst e
      cases e'
      rw [ha] at ha'
      obtain rfl : vs = vs' := by injection (Option.some.inj ha')
      rw [eb, b']
theorem BadPl.pot {H H' : Hp} {l : Addr} {n : Nat} {v : V} (p : PotAt H l) (s : SameX l H H') (ne : v ≠ .ref l) (h : BadPl H n v) : BadPl H' n v := by
  obtain ⟨x, y, el, _⟩ := id p
  obtain ⟨T, t, od, c⟩ := h
  refine ⟨T, t, od.x p s ne, c.imp id ?_⟩
  rintro ⟨a, vs, e, ha, b⟩
  exact ⟨a, vs, e, s _ _ (ne_of ha el (fun z => by cases z)) ha, b⟩
end S11

namespace S11
open PySem L2 GM
open PySem.W (EachIs)
open LamX (Tabs ExtN LamS lamCx lamEnv TabB)
open PyProof.Rows (envOfC)
/-- t + u, whatever object holds it -/
def rCatU : R2 := fun x y H Q => ∃ a b xs ys, x = .ref a ∧ y = .ref b ∧ H a = some (.tup xs) ∧ H b = some (.tup ys) ∧ xs.length + ys.length ≤ sizeLine ∧ ∀ c H', Same H H' → H' c = some (.tup (xs ++ ys)) → Q (.ref c) H'
theorem op_catU {X : Cx} : OpR X (binaryOp .Add) rCatU := by
  intro pins s σ H x y v u Q I rx ry h
  obtain ⟨a, b, xs, ys, rfl, rfl, ha, hb, hz, q⟩ := h
  exact op_catA pins s σ H _ _ v u Q I rx ry ⟨a, b, xs, ys, rfl, rfl, .inl (.inl ha), .inl (.inl hb), hz, fun e => q b H (Same.refl H) (by rw [e]; exact hb), fun _ e => q a H (Same.refl H) (by rw [e, List.append_nil]; exact ha), fun _ _ p hp => q p _ (sNew (Same.refl H) hp) upd_same⟩
theorem cut_upto (xs : List V) (k : Nat) (h : k ≤ xs.length) : cutV xs none (some (k : Int)) = xs.take k := by
  unfold cutV
  rw [HT.sIx_nat, HT.sIx_none, Nat.min_eq_left h, List.drop_zero, Nat.sub_zero]
theorem Prts.app {H : Hp} {vs ws : List V} {ts us : List Str} (h : Prts H vs ts) (g : Prts H ws us) : Prts H (vs ++ ws) (ts ++ us) := by
  induction h with
  | nil => exact g
  | cons p _ ih => exact .cons p ih
theorem word0 : ((reprText ("0" : Str)).length ≤ 200 ∧ ("0" : Str).length ≤ 100) ∧ ((reprText ("" : Str)).length ≤ 200 ∧ ("" : Str).length ≤ 100) := by decide +kernel
/-- what stands at one place of a row that is none -/
def Thing (H : Hp) (v : V) : Prop := ∃ (T : String) (t : Str), Prt H v T t ∧ cntB v = false
theorem Thing.same {H G : Hp} {v : V} (s : Same H G) (h : Thing H v) : Thing G v := by
  obtain ⟨T, t, p, c⟩ := h
  exact ⟨T, t, p.same s, c⟩
theorem row_bad {H : Hp} {c : Addr} {n k : Nat} {ns : List Int} {v : V} (nl : ns.length = n) (n4 : n ≤ 4) (kn : k < n) (ok : ∀ i ∈ ns, 0 ≤ i ∧ i < 1000000000000000000) (th : Thing H v) (hc : H c = some (.tup ((ns.map V.int).take k ++ [v] ++ (ns.map V.int).drop (k + 1)))) : BadPl H n (.ref c) := by
  obtain ⟨T, t, p, cb⟩ := th
  have p1 : Prts H ((ns.map V.int).take k) ((ns.take k).map itx) := by
    rw [← List.map_take]
    exact ints_prts fun i m => ok i (List.mem_of_mem_take m)
  have p2 : Prts H ((ns.map V.int).drop (k + 1)) ((ns.drop (k + 1)).map itx) := by
    rw [← List.map_drop]
    exact ints_prts fun i m => ok i (List.mem_of_mem_drop m)
  have pp := (p1.app (.cons p .nil)).app p2
  have len : ((ns.map V.int).take k ++ [v] ++ (ns.map V.int).drop (k + 1)).length = n := by
    rw [List.length_append, List.length_append, List.length_take, List.length_drop, List.length_map]
    show min k ns.length + 1 + (ns.length - (k + 1)) = n
    omega
  refine ⟨"tuple", _, .row hc pp (by omega), .inr ⟨c, _, rfl, hc, ?_⟩⟩
  rw [List.all_append, List.all_append]
  simp [cb]
section
variable {P : Program} {w : World} {K : PySem.W.Frag} {mg : Str → Option Value} {base : Heap}
/-! ### _law_places_refused -/
abbrev qPl : Str := "_law_places_refused.<locals>.<lambda>"
def spPlRef (C : Addr) (T : List (Addr × Str)) : Sp := fun vs H Q _ => ∃ (l p : Addr) (z : Str) (ss : List Str) (n : Nat) (tn : Bool), vs = [.ref l, .ref p, .int n] ∧ PotAt H l ∧ TabAt C H p z ss (due n tn) ∧ ss.length = n ∧ 1 ≤ n ∧ n ≤ 4 ∧ Tabs T H ∧ ∀ H', ExtX l H H' → PotAt H' l → Tabs T H' → Q (.bl true) H'
abbrev nPlRef : List Str := ["_law_pot_here", "_law_table", "_law_many", "_law_places_here", "_law_k", "_law_odd", "_law_thing"]
abbrev pPlRef : List Str := ["_law_pot_here", "_law_table", "_law_many"]
theorem scPlRef : FnScope nPlRef pPlRef (defScope sPlRef) := ⟨rfl, rfl, rfl, by decide +kernel, rfl, by decide +kernel, by decide +kernel⟩
def tOdd1 : TE := fun σ H Q => ∃ (t : Addr) (n : Nat) (ns : List Int), σ[3]? = some (some (.ref t)) ∧ PlsAt H n t ns ∧ 1 ≤ n ∧ n ≤ 4 ∧ ∀ (H' : Hp) (d : Addr) (vs : List V), Same H H' → H d = none → H' d = some (.lst vs) → vs.length = 7 → (∀ v ∈ vs, BadPl H' n v) → (∀ l, PotAt H l → ∀ v ∈ vs, v ≠ .ref l) → Q (.ref d) H'
def tOdd2 : TE := fun σ H Q => ∃ (t d : Addr) (n k : Nat) (ns : List Int) (vs : List V) (x0 x1 x2 y6 : Option V), σ = [x0, x1, x2, some (.ref t), some (.int k), some (.ref d), y6] ∧ PlsAt H n t ns ∧ k < n ∧ n ≤ 4 ∧ H d = some (.lst vs) ∧ vs.length = 7 ∧ (∀ v ∈ vs, BadPl H n v) ∧
  ∀ (H' : Hp) (d' : Addr) (ws : List V), Same H H' → H d' = none → H' d' = some (.lst ws) → ws.length = 14 → (∀ v ∈ ws, BadPl H' n v) → (∀ l, PotAt H l → (∀ v ∈ vs, v ≠ .ref l) → ∀ v ∈ ws, v ≠ .ref l) → Q (.ref d') H'
def tThings : TE := fun _ H Q => ∀ (H' : Hp) (d : Addr) (vs : List V), Same H H' → H' d = some (.tup vs) → vs.length = 7 → (∀ v ∈ vs, Thing H' v) → Q (.ref d) H'
/-- one row -/
def tRow : TE := fun σ H Q => ∃ (t : Addr) (n k : Nat) (ns : List Int) (v : V), σ[3]? = some (some (.ref t)) ∧ σ[4]? = some (some (.int k)) ∧ σ[6]? = some (some v) ∧ PlsAt H n t ns ∧ k < n ∧ n ≤ 4 ∧ ∀ (H' : Hp) (c : Addr), Same H H' → H' c = some (.tup ((ns.map V.int).take k ++ [v] ++ (ns.map V.int).drop (k + 1))) → Q (.ref c) H'
theorem ok_plref {f c Pt C Dp Dn Dc S : Addr} {fd : FuncData} {Tb : List (Addr × Str)} (inT : (Pt, qPl) ∈ Tb) (one : ∀ p ∈ Tb, p.1 = Pt → p.2 = qPl) (F : Fun K "_law_places_refused" "_law_places_refused" sPlRef f fd) (hc : fd.code = .ref c) (TB : TabB base mg c Pt) (B : Bn mg) (N : Tc K mg C) (Z : Three3 P w K mg base Dp Dn Dc S) (R : IsD K mg)
    (DD : Df P w K mg base "_law_draw" ["_law_pot_here", "_law_many"] 1 spDraw) (DK : Df P w K mg base "_law_pick" ["_law_pot_here", "_law_some"] 2 spPick) (DP : Df P w K mg base "_law_places" ["_law_pot_here", "_law_many"] 3 spLPlaces)
    (MI : Mt P w K mg base C "is_slot_places" ["self", "value"] 3 (spTIsPlO C)) (ML : MtE P w K mg base C "least" ["self", "places"] 6 (spPlX C Dp)) (MC : MtE P w K mg base C "class_of" ["self", "places"] 6 (spPlX C Dp)) :
    FnG P w K mg base CX0 14 f fd pPlRef (spPlRef C Tb) := by
  obtain ⟨fi, fdi, hi, bi, GI⟩ := MI.ex
  obtain ⟨fl, fdl, hl, bl, GL⟩ := ML.ex
  obtain ⟨fc, fdc, hcl, bc, GCl⟩ := MC.ex
  obtain ⟨oc, od, kV, doc, pm, an, cdv, ct, osl, rfl, lk, hcd⟩ := F.ex
  obtain rfl : cdv = .ref c := hc
  refine fn_ofG lk hcd scPlRef (fun vs H Q E h => ?_) fun A outer s H vs Q E gd hr h => ?_
  · obtain ⟨l, p, z, ss, n, tn, rfl, _⟩ := h
    rfl
  · obtain ⟨l, p, z, ss, n, tn, rfl, pot, tab, sn, n1, n4, tb, q⟩ := h
    have h1 : Room 1 _ := hr.mono (by decide)
    have h2 : Room 2 _ := hr.mono (by decide)
    have h3 : Room 3 _ := hr.mono (by decide)
    have gd2 : (A.deeper (envOfC "_law_places_refused" (defScope sPlRef) s.heap.objs.size f (.ref c))).guards = some [] := deeper_guards.trans gd
    have nd := scPlRef.nd
    refine' ⟨_, PSs.nox (pss_cons (ps_set (i := 3) nd rfl (Or.inr rfl) (pe_df DP h3 (by rfl) (pa_cons (pv 0) (pa_cons (pv 2) pa_nil))))
      (pss_cons (ps_set (i := 4) nd rfl (Or.inr rfl) (pe_df DD h1 (by rfl) (pa_cons (pv 0) (pa_cons (pv 2) pa_nil))))
      (pss_cons (ps_set (i := 5) nd rfl (Or.inl rfl) (PE.imp (t' := tOdd1) (pe_lst (pa_cons pe_non (pa_cons pe_int (pa_cons pe_str (pa_cons (pe_callTy call_list_of (by rfl) B.list (by decide +kernel) (pa_cons (pv 3) pa_nil)) (pa_cons (pe_op op_catU (pv 3) (pe_tup (pa_cons pe_int pa_nil))) (pa_cons (pe_slice sl_tupU (pv 3) (po_some pe_int) po_none) (pa_cons pe_dnewK pa_nil)))))))) ?q1))
      (pss_cons (ps_set (i := 5) nd rfl (Or.inl rfl) (PE.imp (t' := tOdd2) (pe_op op_cat (pv 5) (pe_lc (own := [("_law_thing", 6)]) (g := gName 6) (tt := tYes) (te := tRow) (by rfl) nd (pi_tup (PE.imp (t' := tThings) (pe_tup (pa_cons (pe_un un_neg pe_int) (pa_cons pe_bl (pa_cons pe_non (pa_cons pe_str (pa_cons (pe_tup (pa_cons pe_int pa_nil)) (pa_cons (pe_lst pa_nil) (pa_cons pe_dnewK pa_nil)))))))) ?q2))
          (blkOk_by (own := [("_law_thing", 6)]) (N := nPlRef) (sc := defScope sPlRef) (by decide +kernel)) (fun _ _ _ _ _ => pg_name (i := 6) nd rfl (Or.inl rfl)) (fun _ _ _ _ _ => pts_nil) (fun _ _ _ _ _ => PE.imp (t' := tRow) (pe_op op_catU (pe_op op_catU (pe_slice sl_tupU (pv 3) po_none (po_some (pv 4))) (pe_tup (pa_cons (pv 6) pa_nil))) (pe_slice sl_tupU (pv 3) (po_some (pe_op op_add (pv 4) pe_int)) po_none)) ?q3))) ?q4))
      (pss_cons (ps_if (PW.pt (pw_or (pt_val (pe_callB (cr_any rfl) (by rfl) B.any (by decide +kernel) (pa_cons (pe_lc (own := [("_law_thing", 6)]) (g := gName 6) (tt := tYes) (te := tMeth C "is_slot_places" (spTIsPlO C) [] E0 (tVar 1) (tCons (tVar 6) tNil)) (by rfl) nd (pi_list (pv 5))
          (blkOk_by (own := [("_law_thing", 6)]) (N := nPlRef) (sc := defScope sPlRef) (by decide +kernel)) (fun _ _ _ _ _ => pg_name (i := 6) nd rfl (Or.inl rfl)) (fun _ _ _ _ _ => pts_nil) (fun _ _ _ _ _ => pe_meth (pv 1) N.cl hi GI h3 bi .nil pass0 (pa_cons (pv 6) pa_nil))) pa_nil)))
          (pw_or1 (pt_cmpR op_notBl (pe_meth (pv 1) N.cl hi GI h3 bi .nil pass0 (pa_cons (pv 3) pa_nil)) pe_bl (nomark _))))) (pss_one (ps_ret pe_bl)) pss_nil)
      (pss_cons (ps_set (i := 6) nd rfl (Or.inr rfl) (pe_df DK h2 (by rfl) (pa_cons (pv 0) (pa_cons (pv 5) pa_nil))))
      (pss_cons (ps_if (pt_not (pt_val (pe_is (T := Tb) R Z B gd2 (by rfl) TB rfl inT one hr (LamX.lamS_by (by show LamX.lamSB (defScope sPlRef) _ = true; decide +kernel)) rfl (fun _ _ _ _ _ => rfl) (fun A outer s H E f c' g2 hr2 => pe_methX (pv 1) N.cl hl GL (deeper_guards.trans g2) (hr2.mono (by decide)) bl (L2.passes_call (L2.takes_of (E := E) rfl rfl rfl rfl) fun _ _ _ _ z => z) (pa_cons (pv 6) pa_nil)) (pa_cons (pe_lst (pa_cons pe_str (pa_cons (pv 6) pa_nil))) pa_nil) rfl rfl))) (pss_one (ps_ret pe_bl)) pss_nil)
      (pss_one (ps_ret (pe_is (T := Tb) R Z B gd2 (by rfl) TB rfl inT one hr (LamX.lamS_by (by show LamX.lamSB (defScope sPlRef) _ = true; decide +kernel)) rfl (fun _ _ _ _ _ => rfl) (fun A outer s H E f c' g2 hr2 => pe_methX (pv 1) N.cl hcl GCl (deeper_guards.trans g2) (hr2.mono (by decide)) bc (L2.passes_call (L2.takes_of (E := E) rfl rfl rfl rfl) fun _ _ _ _ z => z) (pa_cons (pv 6) pa_nil)) (pa_cons (pe_lst (pa_cons pe_str (pa_cons (pv 6) pa_nil))) pa_nil) rfl rfl)))))))))), ?_⟩
    case q2 =>
      rintro σ H0 R0 fin
      refine ⟨_, rfl, (by show 1 ≤ sizeLine; decide), fun a1 q1 => ?_⟩
      have s1 := sNew (o := .tup [.int 0]) (Same.refl H0) q1
      have t1 := upd_same (H := H0) (a := a1) (o := .tup [.int 0])
      generalize upd H0 a1 (.tup [.int 0]) = H1 at s1 t1
      refine ⟨(by show 0 ≤ sizeLine; decide), fun a2 q2 => ?_⟩
      have s2 := sNew (o := .lst []) (Same.refl H1) q2
      have t2 := upd_same (H := H1) (a := a2) (o := .lst [])
      generalize upd H1 a2 (.lst []) = H2 at s2 t2
      intro a3 q3
      have s3 := sNew (o := .dK []) (Same.refl H2) q3
      have t3 := upd_same (H := H2) (a := a3) (o := .dK [])
      generalize upd H2 a3 (.dK []) = H3 at s3 t3
      refine ⟨(by show 7 ≤ sizeLine; decide), fun d hd => ?_⟩
      have s4 := sNew (o := .tup [.int (-1), .bl true, .non, .str "0", .ref a1, .ref a2, .ref a3]) (Same.refl H3) hd
      refine fin _ d [.int (-1), .bl true, .non, .str "0", .ref a1, .ref a2, .ref a3] (Same.trans s1 (Same.trans s2 (Same.trans s3 s4))) upd_same rfl fun v m => ?_
      rcases List.mem_cons.mp m with rfl | m
      · exact ⟨_, _, .int (by decide), rfl⟩
      rcases List.mem_cons.mp m with rfl | m
      · exact ⟨_, _, .bl true, rfl⟩
      rcases List.mem_cons.mp m with rfl | m
      · exact ⟨_, _, .non, rfl⟩
      rcases List.mem_cons.mp m with rfl | m
      · exact ⟨_, _, .str word0.1, rfl⟩
      rcases List.mem_cons.mp m with rfl | m
      · exact ⟨_, _, .one (s4 _ _ (s3 _ _ (s2 _ _ t1))), rfl⟩
      rcases List.mem_cons.mp m with rfl | m
      · exact ⟨_, _, .nil (s4 _ _ (s3 _ _ t2)), rfl⟩
      · rw [List.mem_singleton.mp m]
        exact ⟨_, _, .d0 (s4 _ _ t3), rfl⟩
    case q3 =>
      rintro σ H0 R0 ⟨t, n, k, ns, v, g3, g4, g6, ⟨ht, nl, nok⟩, kn, n4, fin⟩
      refine ⟨_, g3, _, g4, k, rfl, t, _, rfl, ht, fun c1 H1 s1 hc1 => ?_⟩
      rw [cut_upto _ _ (by rw [List.length_map]; omega)] at hc1
      refine ⟨_, g6, (by show 1 ≤ sizeLine; decide), fun o ho => ?_⟩
      have s2 := sNew (o := .tup [v]) s1 ho
      have t2 := upd_same (H := H1) (a := o) (o := .tup [v])
      have hc2 : upd H1 o (.tup [v]) c1 = _ := old hc1 ho
      generalize upd H1 o (.tup [v]) = H2 at s2 t2 hc2
      refine ⟨c1, o, _, _, rfl, rfl, hc2, t2, le_line (by rw [List.length_take, List.length_map]; show min k ns.length + 1 ≤ 2000000; omega), fun c3 H3 s3 hc3 => ?_⟩
      have s03 := Same.trans s2 s3
      refine ⟨_, g3, _, g4, _, _, rfl, rfl, _, rfl, t, _, rfl, s03 _ _ ht, fun c4 H4 s4 hc4 => ?_⟩
      have e1 : ((k : Int) + 1) = ((k + 1 : Nat) : Int) := by omega
      rw [e1, cut_from _ _ (by rw [List.length_map]; omega)] at hc4
      refine ⟨c3, c4, _, _, rfl, rfl, s4 _ _ hc3, hc4, le_line (by rw [List.length_append, List.length_take, List.length_drop, List.length_map]; show min k ns.length + 1 + (ns.length - (k + 1)) ≤ 2000000; omega), fun c5 H5 s5 hc5 => ?_⟩
      have s05 := Same.trans s03 (Same.trans s4 s5)
      exact fin H5 c5 s05 hc5
    case q1 =>
      rintro σ H0 R0 ⟨t, n, ns, g3, pls, n1, n4, fin⟩
      obtain ⟨ht, nl, nok⟩ := id pls
      refine ⟨_, g3, t, _, rfl, .inr (.inl (.inl ht)), fun a1 q1 => ?_⟩
      have s1 := sNew (o := .lst (ns.map V.int)) (Same.refl H0) q1
      have t1 := upd_same (H := H0) (a := a1) (o := .lst (ns.map V.int))
      generalize upd H0 a1 (.lst (ns.map V.int)) = H1 at s1 t1
      refine ⟨_, g3, (by show 1 ≤ sizeLine; decide), fun o ho => ?_⟩
      have s2 := sNew (o := .tup [.int 0]) s1 ho
      have t2 := upd_same (H := H1) (a := o) (o := .tup [.int 0])
      have t12 : upd H1 o (.tup [.int 0]) a1 = _ := old t1 ho
      generalize upd H1 o (.tup [.int 0]) = H2 at s2 t2 t12
      refine ⟨t, o, _, _, rfl, rfl, s2 _ _ ht, t2, le_line (by rw [List.length_map]; show ns.length + 1 ≤ 2000000; omega), fun c1 H3 s3 hc1 => ?_⟩
      refine ⟨_, g3, 1, rfl, t, _, rfl, s3 _ _ (s2 _ _ ht), fun c2 H4 s4 hc2 => ?_⟩
      have e1 : (1 : Int) = ((1 : Nat) : Int) := rfl
      rw [e1, cut_from _ _ (by rw [List.length_map]; omega)] at hc2
      intro a3 q3
      have s5 := sNew (o := .dK []) (Same.refl H4) q3
      have t5 := upd_same (H := H4) (a := a3) (o := .dK [])
      generalize upd H4 a3 (.dK []) = H5 at s5 t5
      have s05 := Same.trans s2 (Same.trans s3 (Same.trans s4 s5))
      refine ⟨(by show 7 ≤ sizeLine; decide), fun d hd => ?_⟩
      have s6 := sNew (o := .lst [.non, .int 5, .str "", .ref a1, .ref c1, .ref c2, .ref a3]) (Same.refl H5) hd
      refine fin _ d [.non, .int 5, .str "", .ref a1, .ref c1, .ref c2, .ref a3] (Same.trans s05 s6) (s05.free hd) upd_same rfl (fun v m => ?_) (fun l pl v m => ?_)
      rotate_left
      · obtain ⟨x, y, el, _⟩ := id pl
        have pl5 := s05 _ _ el
        rcases List.mem_cons.mp m with rfl | m
        · exact fun z => by cases z
        rcases List.mem_cons.mp m with rfl | m
        · exact fun z => by cases z
        rcases List.mem_cons.mp m with rfl | m
        · exact fun z => by cases z
        rcases List.mem_cons.mp m with rfl | m
        · exact fun z => pl.ne q1 (V.ref.inj z)
        rcases List.mem_cons.mp m with rfl | m
        · exact fun z => ne_of (s5 _ _ (s4 _ _ hc1)) pl5 (fun y => by cases y) (V.ref.inj z)
        rcases List.mem_cons.mp m with rfl | m
        · exact fun z => ne_of (s5 _ _ hc2) pl5 (fun y => by cases y) (V.ref.inj z)
        · rw [List.mem_singleton.mp m]
          exact fun z => ne_of t5 pl5 (fun y => by cases y) (V.ref.inj z)
      have p0 : ∀ {G : Hp}, Prts G (ns.map V.int) (ns.map itx) := fun {G} => ints_prts nok
      rcases List.mem_cons.mp m with rfl | m
      · exact ⟨_, _, .prt .non, .inl (by decide)⟩
      rcases List.mem_cons.mp m with rfl | m
      · exact ⟨_, _, .prt (.int (by decide)), .inl (by decide)⟩
      rcases List.mem_cons.mp m with rfl | m
      · exact ⟨_, _, .prt (.str word0.2), .inl (by decide)⟩
      rcases List.mem_cons.mp m with rfl | m
      · refine ⟨_, _, .lst (s6 _ _ (s5 _ _ (s4 _ _ (s3 _ _ t12)))) (fun e => ?_) p0 (by rw [List.length_map]; omega), .inl (by decide)⟩
        have := congrArg List.length e
        rw [List.length_map] at this
        have z : ns.length = 0 := this
        omega
      rcases List.mem_cons.mp m with rfl | m
      · have hcc := s6 _ _ (s5 _ _ (s4 _ _ hc1))
        refine ⟨_, _, .row hcc (p0.app (.cons (.int (i := 0) (by decide)) .nil)) (by rw [List.length_append, List.length_map]; show ns.length + 1 ≤ 5; omega), .inr ⟨c1, _, rfl, hcc, ?_⟩⟩
        rw [decide_eq_false (fun e => by rw [List.length_append, List.length_map] at e; have e2 : ns.length + 1 = n := e; omega), Bool.false_and]
      rcases List.mem_cons.mp m with rfl | m
      · have hcc := s6 _ _ (s5 _ _ hc2)
        rw [← List.map_drop] at hcc
        refine ⟨_, _, .row hcc (ints_prts fun i m => nok i (List.mem_of_mem_drop m)) (by rw [List.length_map, List.length_drop]; omega), .inr ⟨c2, _, rfl, hcc, ?_⟩⟩
        rw [decide_eq_false (fun e => by rw [List.length_map, List.length_drop] at e; omega), Bool.false_and]
      · rw [List.mem_singleton.mp m]
        exact ⟨_, _, .prt (.d0 (s6 _ _ t5)), .inl (by decide)⟩
    case q4 =>
      rintro σ H0 R0 ⟨t, d, n, k, ns, vs, x0, x1, x2, y6, rfl, pls, kn, n4, hd, vl, bad, fin⟩
      obtain ⟨ht, nl, nok⟩ := id pls
      refine ⟨_, rfl, fun H1 dt ts s1 hdt tl things => ⟨dt, rfl, ⟨_, .inl (.inl hdt)⟩, fun D hD => ?_⟩⟩
      refine lc_it (walk_tup (K := K) (a := dt) (xs := ts)) (fun i G => Same H1 G ∧ ∃ ws, G D = some (.lst ws) ∧ ws.length = i ∧ ∀ w ∈ ws, ∃ (c : Addr) (v : V), w = .ref c ∧ Thing H1 v ∧ G c = some (.tup ((ns.map V.int).take k ++ [v] ++ (ns.map V.int).drop (k + 1)))) ⟨sNew (Same.refl H1) hD, [], upd_same, rfl, by simp⟩ (fun i G _ h => .inl (.inl (h.1 _ _ hdt))) ?_ ?_
      · rintro i v _ G hi ⟨sG, ws, hws, wl, ok⟩ ⟨rfl, hv⟩
        refine ⟨rfl, t, n, k, ns, v, rfl, rfl, rfl, pls.same (Same.trans s1 sG), kn, n4, fun G2 c s2 hc => ?_⟩
        have hws2 := s2 _ _ hws
        refine ⟨ws, hws2, lt_line (by omega), sPut (Same.trans sG s2) hD, ws ++ [.ref c], upd_same, by rw [List.length_append, wl]; rfl, fun w m => ?_⟩
        rcases List.mem_append.mp m with m | m
        · obtain ⟨c', v', e, th, hc'⟩ := ok w m
          have hc2 := s2 _ _ hc'
          exact ⟨c', v', e, th, by rw [upd_ne (ne_of hc2 hws2 (fun z => by cases z))]; exact hc2⟩
        · rw [List.mem_singleton.mp m]
          exact ⟨c, v, rfl, things v (List.mem_of_getElem? hv), by rw [upd_ne (ne_of hc hws2 (fun z => by cases z))]; exact hc⟩
      · rintro G ⟨sG, ws, hws, wl, ok⟩
        rw [tl] at wl
        have s0G := Same.trans s1 sG
        refine ⟨d, D, vs, ws, rfl, rfl, s0G _ _ hd, hws, le_line (by omega), fun d' hd' => ?_⟩
        have s2 := sNew (o := .lst (vs ++ ws)) (Same.refl G) hd'
        refine fin _ d' (vs ++ ws) (Same.trans s0G s2) (s0G.free hd') upd_same (by rw [List.length_append]; omega) (fun v m => ?_) (fun l pl off v m => ?_)
        rotate_left
        · rcases List.mem_append.mp m with m | m
          · exact off v m
          · obtain ⟨c', v', rfl, th, hc'⟩ := ok v m
            obtain ⟨x, y, el, _⟩ := id pl
            exact fun z => ne_of hc' (s0G _ _ el) (fun y => by cases y) (V.ref.inj z)
        rcases List.mem_append.mp m with m | m
        · exact (bad v m).same (Same.trans s0G s2)
        · obtain ⟨c', v', rfl, th, hc'⟩ := ok v m
          exact row_bad nl n4 kn nok (th.same (Same.trans sG s2)) (s2 _ _ hc')
    refine ⟨_, rfl, _, rfl, l, n, rfl, pot, n4, fun H1 t ns sx1 pot1 ht0 pls => ?_⟩
    obtain ⟨ht, nl, nok⟩ := id pls
    refine ⟨_, rfl, _, rfl, l, n, rfl, pot1, by omega, by omega, fun H2 kz sx2 pot2 k0 kn => ?_⟩
    obtain ⟨k, rfl⟩ := Int.eq_ofNat_of_zero_le k0
    have hne : t ≠ l := by
      obtain ⟨x, y, el, _⟩ := id pot1
      exact ne_of ht el (fun z => by cases z)
    have pls2 : PlsAt H2 n t ns := ⟨sx2 _ _ hne ht, nl, nok⟩
    refine ⟨t, n, ns, rfl, pls2, n1, n4, fun H3 d vs s3 hd0 hd vl bad off => ?_⟩
    refine ⟨t, d, n, k, ns, vs, _, _, _, _, rfl, pls2.same s3, by omega, n4, hd, vl, bad, fun H4 d' ws s4 hd0' hd' wl badw offw => ?_⟩
    have sx04 : SameX l H H4 := SameX.same (SameX.trans sx1 sx2) (Same.trans s3 s4)
    have pot4 := pot2.same (Same.trans s3 s4)
    have tab4 := tab.pot pot sx04
    have pls4 := pls2.same (Same.trans s3 s4)
    have tb4 := tabs_pot pot sx04 tb
    obtain ⟨dx, sa, ga, i1, i2, i3⟩ := id tab4
    refine ⟨_, rfl, d', rfl, ⟨_, SqL.of hd'⟩, fun D hD => ?_⟩
    refine lc_new (walk_list (K := K) (a := d') (xs := ws)) (fun i => (ws.map fun _ => V.bl false)[i]?) (lt_line (by omega)) hD (fun G s5 => SqL.of (s5 _ _ hd')) ?_ ?_
    · rintro i v G _ hi5 s5 ⟨rfl, hv⟩ Kt Kn kt kn
      obtain ⟨T, tt, odv, bc⟩ := (badw v (List.mem_of_getElem? hv)).same s5
      refine ⟨rfl, _, rfl, p, dx, _, rfl, s5 _ _ i1, fld_none (by decide) (by decide) (by decide), _, rfl, p, v, T, tt, z, ss, due n tn, rfl, tab4.same s5, odv, fun b pis G2 s6 => ?_⟩
      rw [sn] at pis
      rw [bad_no bc b pis]
      refine kt _ _ ?_ s6
      show (ws.map fun _ => V.bl false)[i]? = _
      rw [List.getElem?_map, hv] <;> rfl
    intro G s5 at5
    have ek : kept (fun i => (ws.map fun _ => V.bl false)[i]?) ws.length = (ws.map fun _ => false).map V.bl := by
      have y := kept_all (ys := ws.map fun _ => V.bl false) (f := fun i => (ws.map fun _ => V.bl false)[i]?) fun _ => rfl
      rw [List.length_map] at y
      rw [y, List.map_map] <;> rfl
    rw [ek] at at5
    refine ⟨D, _, rfl, SqL.of at5, ?_⟩
    have none_ : (ws.map fun _ => false).any id = false := by simp
    rw [none_]
    refine ⟨false, rfl, ?_⟩
    refine iteF ⟨_, rfl, p, dx, _, rfl, s5 _ _ i1, fld_none (by decide) (by decide) (by decide), _, rfl, p, .ref t, "tuple", _, z, ss, due n tn, rfl, tab4.same s5, (pls4.same s5).odd (by omega), fun b pis G2 s6 => ?_⟩
    rw [sn] at pis
    obtain rfl := (pls4.same s5).is pis
    refine ⟨true, true, rfl, rfl, _, rfl, ?_⟩
    rw [decide_eq_true rfl]
    refine iteF ?_
    have s46 := Same.trans s5 s6
    have sx6 : SameX l H G2 := SameX.same sx04 s46
    have hd6 := s46 _ _ hd'
    have pot6 := pot4.same s46
    have nd : d' ≠ l := by
      intro e
      obtain ⟨x, y, el, _⟩ := pot6
      rw [e, el] at hd6
      obtain rfl : [V.int x, V.int y] = ws := by injection (Option.some.inj hd6)
      have wl' : 2 = 14 := wl
      exact absurd wl' (by decide)
    refine ⟨_, rfl, _, rfl, l, d', ws, rfl, pot6, hd6, nd, by omega, by omega, fun G3 v sx7 pot7 mv => ?_⟩
    have nv : v ≠ .ref l := offw l (pot2.same s3) (off l pot2) v mv
    obtain ⟨T, tt, odv, bc⟩ := ((badw v mv).same s46).pot pot6 sx7 nv
    have tab7 := (tab4.same s46).pot pot6 sx7
    have tb7 := tabs_pot pot6 sx7 (tb4.ext s46)
    have call : ∀ (m : Str) (H2 : Hp) (E : XK) (Q' : VK) (x3 x4 x5 : Option V), m ≠ fN → m ≠ fS → m ≠ fT → ExtN G3 H2 → XW Dp v H2 E → tMethX C m (spPlX C Dp) E (tVar 1) (tCons (tVar 6) tNil) [some (.ref l), some (.ref p), some (.int n), x3, x4, x5, some v] H2 Q' := fun m H2 E Q' x3 x4 x5 m1 m2 m3 s2 xw => by
      have tab2 := tab7.extN s2
      obtain ⟨dx, sa, ga, i1, i2, i3⟩ := id tab2
      obtain ⟨T2, t2, od2, bc2⟩ : BadPl H2 n v := BadPl.extN s2 ⟨T, tt, odv, bc⟩
      refine ⟨_, rfl, p, dx, _, rfl, i1, fld_none m1 m2 m3, _, rfl, p, v, T2, t2, z, ss, due n tn, rfl, tab2, od2, fun b pis => ?_, xw⟩
      rw [sn] at pis
      exact bad_no bc2 b pis
    have sxA : ExtX l H G3 := ExtX.trans (ExtX.of sx6) (ExtX.of sx7)
    refine ⟨tb7, fun H1 e1 t1 => ⟨_, rfl, (by show 2 ≤ sizeLine; decide), fun lv hlv => ⟨.ref lv, rfl, sNew (Same.refl H1) hlv, ?_⟩⟩⟩
    have sA := sNew (o := .lst [.str "places", v]) (Same.refl H1) hlv
    refine ⟨lv, Dp, "places", v, T, tt, rfl, upd_same, .inl ⟨rfl, rfl⟩, (odv.extN e1).same sA, fun H2 E Q' s2 xw => call "least" H2 E Q' _ _ _ (by decide) (by decide) (by decide) (e1.trans (ExtN.of (Same.trans sA s2))) xw, fun H2 s2 => ⟨true, rfl, iteF ?_⟩⟩
    have e2 : ExtN G3 H2 := e1.trans (ExtN.of (Same.trans sA s2))
    have t2 := (t1.ext sA).ext s2
    refine ⟨t2, fun H3 e3 t3 => ⟨_, rfl, (by show 2 ≤ sizeLine; decide), fun lw hlw => ⟨.ref lw, rfl, sNew (Same.refl H3) hlw, ?_⟩⟩⟩
    have sB := sNew (o := .lst [.str "places", v]) (Same.refl H3) hlw
    refine ⟨lw, Dp, "places", v, T, tt, rfl, upd_same, .inl ⟨rfl, rfl⟩, (odv.extN (e2.trans e3)).same sB, fun H4 E Q' s4 xw => call "class_of" H4 E Q' _ _ _ (by decide) (by decide) (by decide) (e2.trans (e3.trans (ExtN.of (Same.trans sB s4)))) xw, fun H4 s4 => ?_⟩
    have e4 : ExtN G3 H4 := e2.trans (e3.trans (ExtN.of (Same.trans sB s4)))
    exact q H4 (ExtX.trans sxA (ExtX.ofN e4)) (pot7.ext e4) ((t3.ext sB).ext s4)
end
end S11

namespace S11
open PySem L2 GM
open PySem.W (EachIs)
open LamX (Tabs ExtN LamS lamCx lamEnv TabB)
open PyProof.Rows (envOfC)
/-- what is no name, and is shown -/
def BadN (H : Hp) (v : V) : Prop := ∃ (T : String) (t : Str), Odd H v T t ∧ nameB v = false
def BadM (H : Hp) (v : V) : Prop := ∃ (T : String) (t : Str), Odd H v T t ∧ manyB v = false
theorem BadN.extN {H H' : Hp} {v : V} (s : ExtN H H') (h : BadN H v) : BadN H' v := by
  obtain ⟨T, t, od, b⟩ := h
  exact ⟨T, t, od.extN s, b⟩
theorem BadM.extN {H H' : Hp} {v : V} (s : ExtN H H') (h : BadM H v) : BadM H' v := by
  obtain ⟨T, t, od, b⟩ := h
  exact ⟨T, t, od.extN s, b⟩
theorem BadN.x {H H' : Hp} {l : Addr} {v : V} (p : PotAt H l) (s : SameX l H H') (ne : v ≠ .ref l) (h : BadN H v) : BadN H' v := by
  obtain ⟨T, t, od, b⟩ := h
  exact ⟨T, t, od.x p s ne, b⟩
theorem BadM.x {H H' : Hp} {l : Addr} {v : V} (p : PotAt H l) (s : SameX l H H') (ne : v ≠ .ref l) (h : BadM H v) : BadM H' v := by
  obtain ⟨T, t, od, b⟩ := h
  exact ⟨T, t, od.x p s ne, b⟩
theorem words11 : (((reprText ("abcdefghi" : Str)).length ≤ 200 ∧ ("abcdefghi" : Str).length ≤ 100) ∧ ((reprText ("a b" : Str)).length ≤ 200 ∧ ("a b" : Str).length ≤ 100) ∧ ((reprText ("a1" : Str)).length ≤ 200 ∧ ("a1" : Str).length ≤ 100) ∧ ((reprText ("_" : Str)).length ≤ 200 ∧ ("_" : Str).length ≤ 100) ∧ ((reprText ("2" : Str)).length ≤ 200 ∧ ("2" : Str).length ≤ 100) ∧ ((reprText ("a" : Str)).length ≤ 200 ∧ ("a" : Str).length ≤ 100)) := by decide +kernel
theorem no11 : nameB (.str "") = false ∧ nameB (.str "abcdefghi") = false ∧ nameB (.str "a b") = false ∧ nameB (.str "a1") = false ∧ nameB (.str "_") = false := by decide +kernel
theorem name_yes {z : Str} (h : NameOk z) : nameB (.str z) = true := decide_eq_true h
/-- a lambda that lets out what it is to let out -/
theorem fx_go {Dp Dn Dc D : Addr} {Tb : List (Addr × Str)} {nm : Str} {v : V} {T : String} {t : Str} {σ : St} {j : Nat} {tE : XK → TE} {H : Hp} {Q : VK} (kind : Kind Dp Dn Dc D nm) (hσ : σ[j]? = some (some v)) (tb : Tabs Tb H) (od : Odd H v T t)
    (call : ∀ (H2 : Hp) (E : XK) (Q' : VK), ExtN H H2 → XW D v H2 E → tE E σ H2 Q') (k : ∀ H' : Hp, ExtN H H' → Tabs Tb H' → Q (.bl true) H') :
    Tabs Tb H ∧ ∀ H1, ExtN H H1 → Tabs Tb H1 → tCons (tLst (tCons (tC (.str nm)) (tCons (tVar j) tNil))) tNil σ H1 fun vs H2 => ∃ v2, vs = [v2] ∧ Same H1 H2 ∧ TTr Dp Dn Dc v2 (fun E H' Q' => tE E σ H' Q') H2 Q := by
  refine ⟨tb, fun H1 e1 t1 => ⟨_, hσ, (by show 2 ≤ sizeLine; decide), fun lv hlv => ⟨.ref lv, rfl, sNew (Same.refl H1) hlv, ?_⟩⟩⟩
  have sA := sNew (o := .lst [.str nm, v]) (Same.refl H1) hlv
  refine ⟨lv, D, nm, v, T, t, rfl, upd_same, kind, (od.extN e1).same sA, fun H2 E Q' s2 xw => call H2 E Q' (e1.trans (ExtN.of (Same.trans sA s2))) xw, fun H2 s2 => ?_⟩
  exact k H2 (e1.trans (ExtN.of (Same.trans sA s2))) ((t1.ext sA).ext s2)
/-- the rows so far -/
structure RowsAt (H1 : Hp) (l : Addr) (T : List (Addr × Str)) (n : Nat) (Hn : Hp) : Prop where
  ex : ExtN H1 Hn
  tb : Tabs T Hn
  ls : Hn l = some (.lst ((List.replicate n true).map V.bl))
section
variable {P : Program} {w : World} {K : PySem.W.Frag} {mg : Str → Option Value} {base : Heap}
/-- a classmethod that makes tables of alike slots -/
structure SyK (P : Program) (w : World) (K : PySem.W.Frag) (mg : Str → Option Value) (base : Heap) (C DN DC : Addr) (m : Str) (tn : Bool) : Prop where
  ex : ∃ mc p g fd, ClX.CRead K C mc ∧ ClX.CMet K C mc m p g ∧ Binds K fd pSym [] ∧ FnG P w K mg base (L2.CX P w) 8 g fd pSym (spSym C DN DC tn)
/-! ### _law_makers_refused -/
abbrev qMk : Str := "_law_makers_refused.<locals>.<lambda>"
def spMkRef (T : List (Addr × Str)) : Sp := fun vs H Q _ => ∃ (l : Addr) (z y : Str), vs = [.ref l, .str z, .str y] ∧ PotAt H l ∧ NameOk z ∧ NameOk y ∧ Tabs T H ∧ ∀ H', ExtX l H H' → PotAt H' l → Tabs T H' → Q (.bl true) H'
abbrev nMkRef : List Str := ["_law_pot_here", "_law_name_here", "_law_sort", "_law_bad", "_law_odd", "_law_rows"]
abbrev pMkRef : List Str := ["_law_pot_here", "_law_name_here", "_law_sort"]
theorem scMkRef : FnScope nMkRef pMkRef (defScope sMkRef) := ⟨rfl, rfl, rfl, by decide +kernel, rfl, by decide +kernel, by decide +kernel⟩
def tBadN : TE := fun σ H Q => ∃ (l : Addr) (z y : Str) (x3 x4 x5 : Option V), σ = [some (.ref l), some (.str z), some (.str y), x3, x4, x5] ∧ PotAt H l ∧ ∀ (H' : Hp) (v : V), SameX l H H' → PotAt H' l → BadN H' v → v ≠ .ref l → Q v H'
def tBadM : TE := fun σ H Q => ∃ (l : Addr) (z y : Str) (x3 x4 x5 : Option V), σ = [some (.ref l), some (.str z), some (.str y), x3, x4, x5] ∧ PotAt H l ∧ ∀ (H' : Hp) (v : V), SameX l H H' → PotAt H' l → BadM H' v → Q v H'
theorem ok_mkref {f c Pt C Dp Dn Dc S : Addr} {fd : FuncData} {Tb : List (Addr × Str)} (inT : (Pt, qMk) ∈ Tb) (one : ∀ p ∈ Tb, p.1 = Pt → p.2 = qMk) (F : Fun K "_law_makers_refused" "_law_makers_refused" sMkRef f fd) (hc : fd.code = .ref c) (TB : TabB base mg c Pt) (B : Bn mg) (N : Tc K mg C) (Z : Three3 P w K mg base Dp Dn Dc S) (R : IsD K mg)
    (DK : Df P w K mg base "_law_pick" ["_law_pot_here", "_law_some"] 2 spPick) (SY : SyK P w K mg base C Dn Dc "symmetric" false) (AL : SyK P w K mg base C Dn Dc "alternating" true) :
    FnG P w K mg base CX0 14 f fd pMkRef (spMkRef Tb) := by
  obtain ⟨mc, ps, gs, fds, rd, ms, bs, GS⟩ := SY.ex
  obtain ⟨mc2, pa, ga, fda, rd2, ma, ba, GA⟩ := AL.ex
  obtain ⟨oc, od, kV, doc, pm, an, cdv, ct, osl, rfl, lk, hcd⟩ := F.ex
  obtain rfl : cdv = .ref c := hc
  refine fn_ofG lk hcd scMkRef (fun vs H Q E h => ?_) fun A outer s H vs Q E gd hr h => ?_
  · obtain ⟨l, z, y, rfl, _⟩ := h
    rfl
  · obtain ⟨l, z, y, rfl, pot, zok, yok, tb, q⟩ := h
    have h2 : Room 2 _ := hr.mono (by decide)
    have gd2 : (A.deeper (envOfC "_law_makers_refused" (defScope sMkRef) s.heap.objs.size f (.ref c))).guards = some [] := deeper_guards.trans gd
    have nd := scMkRef.nd
    refine' ⟨_, PSs.nox (pss_cons (ps_set (i := 3) nd rfl (Or.inr rfl) (PE.imp (t' := tBadN) (pe_df DK h2 (by rfl) (pa_cons (pv 0) (pa_cons (pe_lst (pa_cons pe_non (pa_cons pe_int (pa_cons pe_str (pa_cons pe_str (pa_cons pe_str (pa_cons pe_str (pa_cons pe_str (pa_cons pe_bl (pa_cons (pe_lst pa_nil) (pa_cons (pe_tup (pa_cons pe_str pa_nil)) pa_nil))))))))))) pa_nil))) ?q1))
      (pss_cons (ps_set (i := 4) nd rfl (Or.inr rfl) (PE.imp (t' := tBadM) (pe_df DK h2 (by rfl) (pa_cons (pv 0) (pa_cons (pe_lst (pa_cons pe_int (pa_cons pe_int (pa_cons (pe_un un_neg pe_int) (pa_cons pe_non (pa_cons pe_bl (pa_cons pe_str (pa_cons (pe_lst pa_nil) (pa_cons (pe_op op_pow pe_int pe_int) pa_nil))))))))) pa_nil))) ?q2))
      (pss_cons (ps_set (i := 5) nd rfl (Or.inl rfl) (pe_lst (pa_cons (pe_is (T := Tb) R Z B gd2 (by rfl) TB rfl inT one hr (LamX.lamS_by (by show LamX.lamSB (defScope sMkRef) _ = true; decide +kernel)) rfl (fun _ _ _ _ _ => rfl) (fun A outer s H E f c' g2 hr2 => pe_cmethG (pe_glob (v := .ref C) (by rfl) N.mgC rfl) rd ms (FnG.rawG GS bs) (deeper_guards.trans g2) (hr2.mono (by decide)) (L2.passes_call (L2.takes_of (E := E) rfl rfl rfl rfl) fun _ _ _ _ z => z) (pa_cons (pv 3) (pa_cons pe_non (pa_cons (pv 4) pa_nil)))) (pa_cons (pe_lst (pa_cons pe_str (pa_cons (pv 3) pa_nil))) pa_nil) rfl rfl) pa_nil)))
      (pss_cons (ps_expr (pe_bm PySem.F.plainAttrs_list PySem.F.slot_list_append PySem.F.type_list_append mt_append (pv 5) (pa_cons (pe_is (T := Tb) R Z B gd2 (by rfl) TB rfl inT one hr (LamX.lamS_by (by show LamX.lamSB (defScope sMkRef) _ = true; decide +kernel)) rfl (fun _ _ _ _ _ => rfl) (fun A outer s H E f c' g2 hr2 => pe_cmethG (pe_glob (v := .ref C) (by rfl) N.mgC rfl) rd ms (FnG.rawG GS bs) (deeper_guards.trans g2) (hr2.mono (by decide)) (L2.passes_call (L2.takes_of (E := E) rfl rfl rfl rfl) fun _ _ _ _ z => z) (pa_cons (pv 1) (pa_cons (pv 3) (pa_cons (pv 4) pa_nil)))) (pa_cons (pe_lst (pa_cons pe_str (pa_cons (pv 3) pa_nil))) pa_nil) rfl rfl) pa_nil)))
      (pss_cons (ps_expr (pe_bm PySem.F.plainAttrs_list PySem.F.slot_list_append PySem.F.type_list_append mt_append (pv 5) (pa_cons (pe_is (T := Tb) R Z B gd2 (by rfl) TB rfl inT one hr (LamX.lamS_by (by show LamX.lamSB (defScope sMkRef) _ = true; decide +kernel)) rfl (fun _ _ _ _ _ => rfl) (fun A outer s H E f c' g2 hr2 => pe_cmethG (pe_glob (v := .ref C) (by rfl) N.mgC rfl) rd ms (FnG.rawG GS bs) (deeper_guards.trans g2) (hr2.mono (by decide)) (L2.passes_call (L2.takes_of (E := E) rfl rfl rfl rfl) fun _ _ _ _ z => z) (pa_cons (pv 1) (pa_cons (pv 2) (pa_cons (pv 4) pa_nil)))) (pa_cons (pe_lst (pa_cons pe_str (pa_cons (pv 4) pa_nil))) pa_nil) rfl rfl) pa_nil)))
      (pss_cons (ps_expr (pe_bm PySem.F.plainAttrs_list PySem.F.slot_list_append PySem.F.type_list_append mt_append (pv 5) (pa_cons (pe_is (T := Tb) R Z B gd2 (by rfl) TB rfl inT one hr (LamX.lamS_by (by show LamX.lamSB (defScope sMkRef) _ = true; decide +kernel)) rfl (fun _ _ _ _ _ => rfl) (fun A outer s H E f c' g2 hr2 => pe_cmethG (pe_glob (v := .ref C) (by rfl) N.mgC rfl) rd2 ma (FnG.rawG GA ba) (deeper_guards.trans g2) (hr2.mono (by decide)) (L2.passes_call (L2.takes_of (E := E) rfl rfl rfl rfl) fun _ _ _ _ z => z) (pa_cons (pv 3) (pa_cons (pv 3) (pa_cons pe_int pa_nil)))) (pa_cons (pe_lst (pa_cons pe_str (pa_cons (pv 3) pa_nil))) pa_nil) rfl rfl) pa_nil)))
      (pss_cons (ps_expr (pe_bm PySem.F.plainAttrs_list PySem.F.slot_list_append PySem.F.type_list_append mt_append (pv 5) (pa_cons (pe_is (T := Tb) R Z B gd2 (by rfl) TB rfl inT one hr (LamX.lamS_by (by show LamX.lamSB (defScope sMkRef) _ = true; decide +kernel)) rfl (fun _ _ _ _ _ => rfl) (fun A outer s H E f c' g2 hr2 => pe_cmethG (pe_glob (v := .ref C) (by rfl) N.mgC rfl) rd2 ma (FnG.rawG GA ba) (deeper_guards.trans g2) (hr2.mono (by decide)) (L2.passes_call (L2.takes_of (E := E) rfl rfl rfl rfl) fun _ _ _ _ z => z) (pa_cons (pv 1) (pa_cons (pv 3) (pa_cons pe_int pa_nil)))) (pa_cons (pe_lst (pa_cons pe_str (pa_cons (pv 3) pa_nil))) pa_nil) rfl rfl) pa_nil)))
      (pss_cons (ps_expr (pe_bm PySem.F.plainAttrs_list PySem.F.slot_list_append PySem.F.type_list_append mt_append (pv 5) (pa_cons (pe_is (T := Tb) R Z B gd2 (by rfl) TB rfl inT one hr (LamX.lamS_by (by show LamX.lamSB (defScope sMkRef) _ = true; decide +kernel)) rfl (fun _ _ _ _ _ => rfl) (fun A outer s H E f c' g2 hr2 => pe_cmethG (pe_glob (v := .ref C) (by rfl) N.mgC rfl) rd2 ma (FnG.rawG GA ba) (deeper_guards.trans g2) (hr2.mono (by decide)) (L2.passes_call (L2.takes_of (E := E) rfl rfl rfl rfl) fun _ _ _ _ z => z) (pa_cons (pv 1) (pa_cons (pv 2) (pa_cons (pv 4) pa_nil)))) (pa_cons (pe_lst (pa_cons pe_str (pa_cons (pv 4) pa_nil))) pa_nil) rfl rfl) pa_nil)))
      (pss_one (ps_ret (pe_callB (cr_all rfl) (by rfl) B.all (by decide +kernel) (pa_cons (pv 5) pa_nil)))))))))))), ?_⟩
    case q1 =>
      rintro σ H0 R0 ⟨l, z, y, x3, x4, x5, rfl, pot, fin⟩
      refine ⟨_, rfl, (by show 0 ≤ sizeLine; decide), fun a1 q1 => ?_⟩
      have s1 := sNew (o := .lst []) (Same.refl H0) q1
      have t1 := upd_same (H := H0) (a := a1) (o := .lst [])
      generalize upd H0 a1 (.lst []) = H1 at s1 t1
      refine ⟨(by show 1 ≤ sizeLine; decide), fun a2 q2 => ?_⟩
      have s2 := sNew (o := .tup [.str "a"]) s1 q2
      have t2 := upd_same (H := H1) (a := a2) (o := .tup [.str "a"])
      have t12 : upd H1 a2 (.tup [.str "a"]) a1 = _ := old t1 q2
      generalize upd H1 a2 (.tup [.str "a"]) = H2 at s2 t2 t12
      refine ⟨(by show 10 ≤ sizeLine; decide), fun d hd => ?_⟩
      have s3 := sNew (o := .lst [.non, .int 5, .str "", .str "abcdefghi", .str "a b", .str "a1", .str "_", .bl true, .ref a1, .ref a2]) s2 hd
      have t3 := upd_same (H := H2) (a := d) (o := .lst [.non, .int 5, .str "", .str "abcdefghi", .str "a b", .str "a1", .str "_", .bl true, .ref a1, .ref a2])
      have t13 := old (o := .lst [.non, .int 5, .str "", .str "abcdefghi", .str "a b", .str "a1", .str "_", .bl true, .ref a1, .ref a2]) t12 hd
      have t23 := old (o := .lst [.non, .int 5, .str "", .str "abcdefghi", .str "a b", .str "a1", .str "_", .bl true, .ref a1, .ref a2]) t2 hd
      have nd0 : d ≠ l := (pot.same s2).ne hd
      generalize upd H2 d (.lst [.non, .int 5, .str "", .str "abcdefghi", .str "a b", .str "a1", .str "_", .bl true, .ref a1, .ref a2]) = H3 at s3 t3 t13 t23
      have pot3 := pot.same s3
      refine ⟨l, d, _, rfl, pot3, t3, nd0, (by show 1 ≤ 10; decide), (by show 10 ≤ 1000; decide), fun G v sx potG m => ?_⟩
      obtain ⟨w1, w2, w3, w4, w5, w6⟩ := words11
      obtain ⟨m1, m2, m3, m4, m5⟩ := no11
      have sxA := SameX.trans (SameX.of s3) sx
      have n1 : a1 ≠ l := pot.ne q1
      have n2 : a2 ≠ l := by
        obtain ⟨x, y, el, _⟩ := id pot3
        exact ne_of t23 el (fun z => by cases z)
      rcases List.mem_cons.mp m with rfl | m
      · exact fin G _ sxA potG ⟨_, _, .prt .non, rfl⟩ (fun z => by cases z)
      rcases List.mem_cons.mp m with rfl | m
      · exact fin G _ sxA potG ⟨_, _, .prt (.int (by decide)), rfl⟩ (fun z => by cases z)
      rcases List.mem_cons.mp m with rfl | m
      · exact fin G _ sxA potG ⟨_, _, .prt (.str word0.2), m1⟩ (fun z => by cases z)
      rcases List.mem_cons.mp m with rfl | m
      · exact fin G _ sxA potG ⟨_, _, .prt (.str w1), m2⟩ (fun z => by cases z)
      rcases List.mem_cons.mp m with rfl | m
      · exact fin G _ sxA potG ⟨_, _, .prt (.str w2), m3⟩ (fun z => by cases z)
      rcases List.mem_cons.mp m with rfl | m
      · exact fin G _ sxA potG ⟨_, _, .prt (.str w3), m4⟩ (fun z => by cases z)
      rcases List.mem_cons.mp m with rfl | m
      · exact fin G _ sxA potG ⟨_, _, .prt (.str w4), m5⟩ (fun z => by cases z)
      rcases List.mem_cons.mp m with rfl | m
      · exact fin G _ sxA potG ⟨_, _, .prt (.bl true), rfl⟩ (fun z => by cases z)
      rcases List.mem_cons.mp m with rfl | m
      · exact fin G _ sxA potG ⟨_, _, .prt (.nil (sx _ _ n1 t13)), rfl⟩ (fun z => n1 (V.ref.inj z))
      · rw [List.mem_singleton.mp m]
        exact fin G _ sxA potG ⟨_, _, .row (sx _ _ n2 t23) (.cons (.str w6) .nil) (by decide), rfl⟩ (fun z => n2 (V.ref.inj z))
    case q2 =>
      rintro σ H0 R0 ⟨l, z, y, x3, x4, x5, rfl, pot, fin⟩
      refine ⟨_, rfl, _, rfl, (by show 0 ≤ sizeLine; decide), fun a1 q1 => ?_⟩
      have s1 := sNew (o := .lst []) (Same.refl H0) q1
      have t1 := upd_same (H := H0) (a := a1) (o := .lst [])
      generalize upd H0 a1 (.lst []) = H1 at s1 t1
      refine ⟨_, _, rfl, rfl, ⟨by decide, by decide, by decide⟩, (by show 8 ≤ sizeLine; decide), fun d hd => ?_⟩
      have s3 := sNew (o := .lst [.int 0, .int 5, .int (-1), .non, .bl true, .str "2", .ref a1, .int (10 ^ (30 : Int).toNat)]) s1 hd
      have t3 := upd_same (H := H1) (a := d) (o := .lst [.int 0, .int 5, .int (-1), .non, .bl true, .str "2", .ref a1, .int (10 ^ (30 : Int).toNat)])
      have t13 := old (o := .lst [.int 0, .int 5, .int (-1), .non, .bl true, .str "2", .ref a1, .int (10 ^ (30 : Int).toNat)]) t1 hd
      have nd0 : d ≠ l := (pot.same s1).ne hd
      generalize upd H1 d (.lst [.int 0, .int 5, .int (-1), .non, .bl true, .str "2", .ref a1, .int (10 ^ (30 : Int).toNat)]) = H3 at s3 t3 t13
      refine ⟨l, d, _, rfl, pot.same s3, t3, nd0, (by show 1 ≤ 8; decide), (by show 8 ≤ 1000; decide), fun G v sx potG m => ?_⟩
      obtain ⟨w1, w2, w3, w4, w5, w6⟩ := words11
      have sxA := SameX.trans (SameX.of s3) sx
      have n1 : a1 ≠ l := pot.ne q1
      rcases List.mem_cons.mp m with rfl | m
      · exact fin G _ sxA potG ⟨_, _, .prt (.int (by decide)), rfl⟩
      rcases List.mem_cons.mp m with rfl | m
      · exact fin G _ sxA potG ⟨_, _, .prt (.int (by decide)), rfl⟩
      rcases List.mem_cons.mp m with rfl | m
      · exact fin G _ sxA potG ⟨_, _, .prt (.int (by decide)), rfl⟩
      rcases List.mem_cons.mp m with rfl | m
      · exact fin G _ sxA potG ⟨_, _, .prt .non, rfl⟩
      rcases List.mem_cons.mp m with rfl | m
      · exact fin G _ sxA potG ⟨_, _, .prt (.bl true), rfl⟩
      rcases List.mem_cons.mp m with rfl | m
      · exact fin G _ sxA potG ⟨_, _, .prt (.str w5), rfl⟩
      rcases List.mem_cons.mp m with rfl | m
      · exact fin G _ sxA potG ⟨_, _, .prt (.nil (sx _ _ n1 t13)), rfl⟩
      · rw [List.mem_singleton.mp m]
        exact fin G _ sxA potG ⟨_, _, .prt (.int (by decide)), by decide⟩
    refine ⟨l, z, y, _, _, _, rfl, pot, fun G0 vb sx0 pot0 bad0 ne0 => ?_⟩
    refine ⟨l, z, y, _, _, _, rfl, pot0, fun G vo sx1 pot1 odd1 => ?_⟩
    have bad1 := bad0.x pot0 sx1 ne0
    have tb1 := tabs_pot pot0 sx1 (tabs_pot pot sx0 tb)
    have sxA : ExtX l H G := ExtX.trans (ExtX.of sx0) (ExtX.of sx1)
    obtain ⟨Tn, tn, odn, nb⟩ := id bad1
    obtain ⟨Tm, tm, odm, mb⟩ := id odd1
    have nz := name_yes zok
    have ny := name_yes yok
    -- the three ways
    have w1 : ∀ (G2 : Hp) (E : XK) (Q' : Prop) (s m : V) (T2 T3 : String) (t2 t3 : Str), ExtN G G2 → Odd G2 s T2 t2 → Odd G2 m T3 t3 → XW Dn vb G2 E → Three Dn Dc G2 vb s m E Q' := fun G2 E Q' s m T2 T3 t2 t3 e o2 o3 xw =>
      ⟨Tn, T2, T3, tn, t2, t3, odn.extN e, o2, o3, fun _ => xw, fun h => by rw [nb] at h; (cases h), fun h => by rw [nb] at h; (cases h), fun h => by rw [nb] at h; (cases h)⟩
    have w2 : ∀ (G2 : Hp) (E : XK) (Q' : Prop) (m : V) (T3 : String) (t3 : Str), ExtN G G2 → Odd G2 m T3 t3 → XW Dn vb G2 E → Three Dn Dc G2 (.str z) vb m E Q' := fun G2 E Q' m T3 t3 e o3 xw =>
      ⟨_, Tn, T3, _, tn, t3, zok.odd, odn.extN e, o3, fun h => by rw [nz] at h; (cases h), fun _ _ => xw, fun _ h => by rw [nb] at h; (cases h), fun _ h => by rw [nb] at h; (cases h)⟩
    have w3 : ∀ (G2 : Hp) (E : XK) (Q' : Prop), ExtN G G2 → XW Dc vo G2 E → Three Dn Dc G2 (.str z) (.str y) vo E Q' := fun G2 E Q' e xw =>
      ⟨_, _, Tm, _, _, tm, zok.odd, yok.odd, odm.extN e, fun h => by rw [nz] at h; (cases h), fun _ h => by rw [ny] at h; (cases h), fun _ _ _ => xw, fun _ _ h => by rw [mb] at h; (cases h)⟩
    have kn : Kind Dp Dn Dc Dn "name" := .inr (.inl ⟨rfl, rfl⟩)
    have kc : Kind Dp Dn Dc Dc "count" := .inr (.inr ⟨rfl, rfl⟩)
    refine fx_go kn rfl tb1 odn (fun H2 E Q' e xw => ⟨rfl, _, rfl, _, rfl, vb, .non, vo, rfl, w1 H2 E _ .non vo "NoneType" Tm "None" tm e (.prt .non) (odm.extN e) xw⟩) fun H1 e1 t1 => ?_
    refine ⟨(by show 1 ≤ sizeLine; decide), fun lr hlr => ?_⟩
    have s1 := sNew (o := .lst ((List.replicate 1 true).map V.bl)) (Same.refl H1) hlr
    have turn : ∀ (n : Nat) (Hn : Hp) (R : Hp → Prop), n ≤ 100 → RowsAt H1 lr Tb n Hn → (∀ H' : Hp, RowsAt H1 lr Tb (n + 1) H' → R H') → ∀ H2 : Hp, ExtN Hn H2 → Tabs Tb H2 → ∃ (q : Addr) (xs : List V) (y : V), V.ref lr = .ref q ∧ [V.bl true] = [y] ∧ H2 q = some (.lst xs) ∧ xs.length < sizeLine ∧ R (upd H2 q (.lst (xs ++ [y]))) := fun n Hn R hn r k H2 x2 t2 => by
      have hl2 := x2 _ _ r.ls (fun _ z => nomatch z)
      have sl : sizeLine = 16777216 := sizeLine_eq
      refine ⟨lr, _, _, rfl, rfl, hl2, by rw [List.length_map, List.length_replicate]; omega, k _ ⟨fun b o hb ho => ?_, tabs_put t2 hl2, ?_⟩⟩
      · rw [upd_ne (ne_of_none hb hlr)]
        exact x2 _ _ (r.ex _ _ hb ho) ho
      · rw [upd_same, List.replicate_succ', List.map_append]; rfl
    have r1 : RowsAt H1 lr Tb 1 (upd H1 lr (.lst ((List.replicate 1 true).map V.bl))) := ⟨ExtN.of s1, t1.ext s1, upd_same⟩
    have toG : ∀ {n : Nat} {Hn : Hp}, RowsAt H1 lr Tb n Hn → ExtN G Hn := fun r => e1.trans r.ex
    refine ⟨_, rfl, .inl ⟨rfl, _, SqL.of r1.ls⟩, fx_go kn rfl r1.tb (odn.extN (toG r1)) (fun H2 E Q' e xw => ⟨rfl, _, rfl, _, rfl, _, rfl, .str z, vb, vo, rfl, w2 H2 E _ vo Tm tm ((toG r1).trans e) (odm.extN ((toG r1).trans e)) xw⟩) (turn 1 _ _ (by decide) r1 fun H2 r2 => ?_)⟩
    refine ⟨_, rfl, .inl ⟨rfl, _, SqL.of r2.ls⟩, fx_go kc rfl r2.tb (odm.extN (toG r2)) (fun H3 E Q' e xw => ⟨rfl, _, rfl, _, rfl, _, rfl, .str z, .str y, vo, rfl, w3 H3 E _ ((toG r2).trans e) xw⟩) (turn 2 _ _ (by decide) r2 fun H3 r3 => ?_)⟩
    refine ⟨_, rfl, .inl ⟨rfl, _, SqL.of r3.ls⟩, fx_go kn rfl r3.tb (odn.extN (toG r3)) (fun H4 E Q' e xw => ⟨rfl, _, rfl, _, rfl, vb, vb, .int 2, rfl, w1 H4 E _ vb (.int 2) Tn "int" tn (itx 2) ((toG r3).trans e) (odn.extN ((toG r3).trans e)) (.prt (.int (by decide))) xw⟩) (turn 3 _ _ (by decide) r3 fun H4 r4 => ?_)⟩
    refine ⟨_, rfl, .inl ⟨rfl, _, SqL.of r4.ls⟩, fx_go kn rfl r4.tb (odn.extN (toG r4)) (fun H5 E Q' e xw => ⟨rfl, _, rfl, _, rfl, .str z, vb, .int 2, rfl, w2 H5 E _ (.int 2) "int" (itx 2) ((toG r4).trans e) (.prt (.int (by decide))) xw⟩) (turn 4 _ _ (by decide) r4 fun H5 r5 => ?_)⟩
    refine ⟨_, rfl, .inl ⟨rfl, _, SqL.of r5.ls⟩, fx_go kc rfl r5.tb (odm.extN (toG r5)) (fun H6 E Q' e xw => ⟨rfl, _, rfl, _, rfl, _, rfl, .str z, .str y, vo, rfl, w3 H6 E _ ((toG r5).trans e) xw⟩) (turn 5 _ _ (by decide) r5 fun H6 r6 => ?_)⟩
    refine ⟨_, rfl, lr, _, rfl, SqL.of r6.ls, ?_⟩
    have e : (List.replicate 6 true).all id = true := by simp
    rw [e]
    exact q H6 (ExtX.trans sxA (ExtX.ofN (toG r6))) (pot1.ext (toG r6)) r6.tb
end
end S11

namespace S11
open PySem L2 GM
open PySem.W (EachIs)
open Builtin.Str StrLaws
theorem foldl_plain (q : Nat) : ∀ (l : List Nat) (acc : Array Nat), (∀ c ∈ l, reprChar q c = [c]) → (l.foldl (fun out c => out ++ (reprChar q c).toArray) acc).toList = acc.toList ++ l
  | [], acc, _ => by simp
  | c :: r, acc, h => by
    rw [List.foldl_cons, foldl_plain q r _ fun d m => h d (List.mem_cons_of_mem _ m), h c List.mem_cons_self]
    simp
theorem letters_plain : ∀ c ∈ letters.cps.toList, reprChar 39 c = [c] := by decide +kernel
/-- a name in quotes -/
theorem repr_name {z : Str} (h : NameOk z) : reprText z = ("'" : Str) ++ z ++ ("'" : Str) := by
  have no : z.cps.contains 39 = false := by
    refine Bool.eq_false_iff.mpr fun c => ?_
    have m : 39 ∈ z.cps.toList := by simpa using c
    exact absurd (h.2.2 39 m) (by decide +kernel)
  have q : reprQuote z = 39 := by
    unfold reprQuote
    rw [no]
    rfl
  unfold reprText
  rw [q, ← Array.foldl_toList]
  have e := foldl_plain 39 z.cps.toList #[39] fun c m => letters_plain c (h.2.2 c m)
  show (⟨_⟩ : Str) = ⟨(("'" : Str).cps ++ z.cps) ++ ("'" : Str).cps⟩
  refine congrArg Str.mk (Array.ext' ?_)
  rw [Array.toList_push, e]
  have c39 : ("'" : Str).cps = #[39] := rfl
  rw [c39]
  simp
theorem sapp (a b c : Str) : a ++ b ++ c = a ++ (b ++ c) := by
  show (⟨(a.cps ++ b.cps) ++ c.cps⟩ : Str) = ⟨a.cps ++ (b.cps ++ c.cps)⟩
  rw [Array.append_assoc]
theorem shown_strs : ∀ ss : List Str, PyData.shownAll (ss.map PyData.str) = ss.map reprText
  | [] => rfl
  | s :: ss => by
    show reprText s :: PyData.shownAll (ss.map PyData.str) = reprText s :: ss.map reprText
    rw [shown_strs ss]
theorem tab_name {z : Str} {ss : List Str} (h : NameOk z) : tabText z ss = ("Table('" : Str) ++ z ++ ("', " : Str) ++ (PyData.tuple (ss.map PyData.str)).shown ++ (")" : Str) := by
  have e : tabText z ss = ("Table(" : Str) ++ reprText z ++ (", " : Str) ++ (PyData.tuple (ss.map PyData.str)).shown ++ (")" : Str) := by
    show _ = ("Table(" : Str) ++ reprText z ++ (", " : Str) ++ tupleText (PyData.shownAll (ss.map PyData.str)) ++ (")" : Str)
    rw [shown_strs]
    rfl
  rw [e, repr_name h]
  have e1 : ("Table('" : Str) = ("Table(" : Str) ++ ("'" : Str) := by decide +kernel
  have e2 : ("', " : Str) = ("'" : Str) ++ (", " : Str) := by decide +kernel
  rw [e1, e2]
  simp only [sapp]
theorem two_bl (a b : Bool) : (PyData.list [.bool a, .bool b]).showable = true ∧ (PyData.list [.bool a, .bool b]).hasDict = false ∧ (PyData.list [.bool a, .bool b]).depth ≤ 64 ∧ (PyData.list [.bool a, .bool b]).shown.length ≤ 100 := by
  cases a <;> cases b <;> decide +kernel
theorem due_ok {n : Nat} {y : Str} (n4 : n ≤ 4) {tn : Bool} : ∀ p ∈ due n tn, TurnOk (List.replicate n y) p := fun p m => ⟨keeps_rep (due_perm n4 p m), due_sgn p m⟩
theorem near_grp2 {n : Nat} (n1 : 1 ≤ n) (n4 : n ≤ 4) (tn : Bool) : Grp n (near n (if tn then -1 else 1)) (due n tn) := by
  have a := near_due n n4 n1
  refine ⟨(due_srt n n4 tn).1, ?_, (due_srt n n4 tn).2⟩
  cases tn
  · exact lists_of a.1
  · exact lists_of a.2
section
variable {P : Program} {w : World} {K : PySem.W.Frag} {mg : Str → Option Value} {base : Heap}
structure OffT (K : PySem.W.Frag) (C : Addr) : Prop where
  n1 : PySem.W.kitOne K (.type "NoneType") (.ref C) = some false
  n2 : PySem.W.subIn K (.type "NoneType") (.ref C) = some false
  s1 : PySem.W.kitOne K (.type "str") (.ref C) = some false
  s2 : PySem.W.subIn K (.type "str") (.ref C) = some false
  l1 : PySem.W.kitOne K (.type "list") (.ref C) = some false
  l2 : PySem.W.subIn K (.type "list") (.ref C) = some false
/-! ### _law_named_right -/
def spNamedR (C : Addr) : Sp := fun vs H Q _ => ∃ (p q : Addr) (z z' y : Str) (n : Nat) (tn : Bool), vs = [.ref p, .ref q, .str z, .str z', .int n, .str y] ∧ TabAt C H p z (List.replicate n y) (due n tn) ∧ TabAt C H q z (List.replicate n y) (due n tn) ∧ NameOk z ∧ NameOk z' ∧ NameOk y ∧ 1 ≤ n ∧ n ≤ 4 ∧ ∀ H', Same H H' → Q (.bl true) H'
abbrev nNamed : List Str := ["_law_table", "_law_twin", "_law_name_here", "_law_other", "_law_many", "_law_sort", "_law_made", "_law_thing"]
abbrev pNamed : List Str := ["_law_table", "_law_twin", "_law_name_here", "_law_other", "_law_many", "_law_sort"]
theorem scNamed : FnScope nNamed pNamed (defScope sNamed) := ⟨rfl, rfl, rfl, by decide +kernel, rfl, by decide +kernel, by decide +kernel⟩
theorem ok_named {f C : Addr} {fd : FuncData} (F : Fun K "_law_named_right" "_law_named_right" sNamed f fd) (B : Bn mg) (TO : TOp P w K mg base C) (OT : OffT K C)
    (MN : ∃ f fd, Meth K C "renamed" f ∧ Binds K fd ["self", "name"] [] ∧ FnG P w K mg base CX0 8 f fd ["self", "name"] (spTNamed C)) (MT : Mt P w K mg base C "turns" ["self"] 1 (spTTurns C)) (MS : Mt P w K mg base C "slots" ["self"] 1 (spTSlots C)) :
    FnG P w K mg base CX0 9 f fd pNamed (spNamedR C) := by
  obtain ⟨fn, fdn, hn, bn, GN⟩ := MN
  obtain ⟨fu, fdu, hu1, bu, GU⟩ := MT.ex
  obtain ⟨fs, fds, hs1, bs, GS⟩ := MS.ex
  have N := TO.tc
  refine F.okG scNamed (fun vs H Q E h => ?_) (fun cdv A outer s H vs Q E gd hr h => ?_)
  · obtain ⟨p, q, z, z', y, n, tn, rfl, _⟩ := h
    rfl
  · obtain ⟨p, q, z, z', y, n, tn, rfl, tab, twin, zok, zok', yok, n1, n4, fin⟩ := h
    have hu := hr.units
    have h1 : Room 1 _ := hr.mono (by decide)
    have h2 : Room 2 _ := hr.mono (by decide)
    have h4 : Room 4 _ := hr.mono (by decide)
    have dg : (A.deeper (PyProof.Rows.envOfC "_law_named_right" (defScope sNamed) s.heap.objs.size f cdv)).guards = some [] := deeper_guards.trans gd
    have room : (A.deeper (PyProof.Rows.envOfC "_law_named_right" (defScope sNamed) s.heap.objs.size f cdv)).units + 70 < cLine := by
      have := hr.un
      omega
    have nd := scNamed.nd
    refine' ⟨_, pss_cons (ps_set (i := 6) nd rfl (Or.inl rfl) (pe_methX (E := E0) (pv 0) N.cl hn GN dg hr bn pass0 (pa_cons (pv 3) pa_nil)))
      (pss_cons (ps_if (PW.pt (pw_or (pt_cmpR op_ne (pe_fld (pv 6) rfl) (pv 3) (nomark _)) (pw_or (pt_cmpR (op_neD hu) (pe_meth0 (pv 6) N.cl hu1 GU h1 bu .nil pass0) (pe_meth0 (pv 0) N.cl hu1 GU h1 bu .nil pass0) (nomark _))
          (pw_or (pt_cmpR (op_neD hu) (pe_meth0 (pv 6) N.cl hs1 GS h1 bs .nil pass0) (pe_meth0 (pv 0) N.cl hs1 GS h1 bs .nil pass0) (nomark _)) (pw_or1 (pt_cmpR op_ne (pe_fld (pv 0) rfl) (pv 2) (nomark _))))))) (pss_one (ps_ret pe_bl)) pss_nil)
      (pss_cons (ps_if (pt_cmpR op_ne (pe_callB (call_reprD dg room) (by rfl) B.repr (by decide +kernel) (pa_cons (pe_lst (pa_cons (pe_cmpR (op_teq TO h1) (pv 6) (pv 0) (nomark _)) (pa_cons (pe_cmpR (op_teq TO h1) (pe_methX (E := E0) (pv 6) N.cl hn GN dg hr bn pass0 (pa_cons (pv 2) pa_nil)) (pv 0) (nomark _)) pa_nil))) pa_nil))
          (pe_callB (call_reprD dg room) (by rfl) B.repr (by decide +kernel) (pa_cons (pe_lst (pa_cons (pe_cmpR op_eq (pv 3) (pv 2) (nomark _)) (pa_cons pe_bl pa_nil))) pa_nil)) (nomark _)) (pss_one (ps_ret pe_bl)) pss_nil)
      (pss_cons (ps_if (pt_cmpR op_ne (pe_callB (call_trepr TO dg h4) (by rfl) B.repr (by decide +kernel) (pa_cons (pv 0) pa_nil)) (pe_op op_add_str (pe_op op_add_str (pe_op op_add_str (pe_op op_add_str pe_str (pv 2)) pe_str)
          (pe_callB (call_reprD dg room) (by rfl) B.repr (by decide +kernel) (pa_cons (pe_callTy call_tuple_of (by rfl) B.tuple (by decide +kernel) (pa_cons (pe_op op_rep (pe_lst (pa_cons (pv 5) pa_nil)) (pv 4)) pa_nil)) pa_nil))) pe_str) (nomark _)) (pss_one (ps_ret pe_bl)) pss_nil)
      (pss_cons (ps_if (pt_val (pe_callB (cr_any rfl) (by rfl) B.any (by decide +kernel) (pa_cons (pe_lc (own := [("_law_thing", 7)]) (g := gName 7) (tt := tYes) (te := tOp (rTEq K C false) (tVar 0) (tVar 7)) (by rfl) nd (pi_tup (pe_tup (pa_cons pe_non (pa_cons (pv 2) (pa_cons (pe_callB (call_trepr TO dg h4) (by rfl) B.repr (by decide +kernel) (pa_cons (pv 0) pa_nil)) (pa_cons (pe_lst (pa_cons (pv 0) pa_nil)) pa_nil))))))
          (blkOk_by (own := [("_law_thing", 7)]) (N := nNamed) (sc := defScope sNamed) (by decide +kernel)) (fun _ _ _ _ _ => pg_name (i := 7) nd rfl (Or.inl rfl)) (fun _ _ _ _ _ => pts_nil) (fun _ _ _ _ _ => pe_cmpR (op_teq TO h1) (pv 0) (pv 7) (nomark _))) pa_nil))) (pss_one (ps_ret pe_bl)) pss_nil)
      (pss_one (ps_ret (pe_and (pe_cmpR (op_teq TO h1) (pv 0) (pv 1) (nomark _)) (pe_one (pe_not (pe_cmpR (op_tne TO h2) (pv 0) (pv 1) (nomark _))))))))))), ?_⟩
    have sok : SlotsOk (List.replicate n y) := slots_rep n1 n4 yok
    have len : (List.replicate n y).length = n := List.length_replicate
    have okL : ∀ q ∈ due n tn, TurnOk (List.replicate n y) q := due_ok n4
    have sg : Sgn (if tn then (-1 : Int) else 1) := by cases tn; exact .inl rfl; exact .inr rfl
    have areT : Are (List.replicate n y).length (near n (if tn then -1 else 1)) := are_of (near_ok n4 sg)
    have grpT : Grp (List.replicate n y).length (near n (if tn then -1 else 1)) (due n tn) := by rw [len]; exact near_grp2 n1 n4 tn
    have dlen : (due n tn).length ≤ 24 := by rw [due_len]; exact ords_len n n4
    generalize hss : List.replicate n y = ss at *
    generalize hL : due n tn = L at *
    obtain ⟨y1, y2, y3⟩ := show_strsT sok
    have zd : (strsT ss).depth ≤ 64 := by
      have := deep_strs ss
      show PyData.depthAll (ss.map PyData.str) + 1 ≤ 64
      omega
    obtain ⟨dx, sa, ga, i1, i2, i3⟩ := id tab
    refine ⟨_, rfl, p, dx, _, rfl, i1, fld_none (by decide) (by decide) (by decide), _, rfl, p, z, z', ss, _, L, rfl, tab, zok', sok, okL, areT, grpT, dlen, fun G1 m s1 hm tab1 => ?_⟩
    obtain ⟨dm, sm, gm, j1, j2, j3⟩ := id tab1
    have tabA := tab.same s1
    have i1A := s1 _ _ i1
    refine ⟨_, rfl, m, C, dm, _, _, rfl, j1, N.cl, N.nN, rfl, _, rfl, rfl, _, rfl, ?_⟩
    rw [show (!decide (V.str z' = V.str z')) = false by rw [decide_eq_true rfl]; rfl]
    refine iteF ⟨_, rfl, m, dm, _, rfl, j1, fld_none (by decide) (by decide) (by decide), m, z', ss, L, rfl, tab1, fun G2 l1 s2 hl1 g1 => ?_⟩
    refine ⟨_, rfl, p, dx, _, rfl, s2 _ _ i1A, fld_none (by decide) (by decide) (by decide), p, z, ss, L, rfl, tabA.same s2, fun G3 l2 s3 hl2 g2 => ?_⟩
    refine ⟨_, _, (g1.same s3).dp, g2.dp, sh_turns _, sh_turns _, _, rfl, ?_⟩
    rw [eqv_turnsL, show (!decide (L = L)) = false by rw [decide_eq_true rfl]; rfl]
    have s13 := Same.trans s2 s3
    refine iteF ⟨_, rfl, m, dm, _, rfl, s13 _ _ j1, fld_none (by decide) (by decide) (by decide), m, z', ss, L, rfl, tab1.same s13, fun sa2 hsa2 => ?_⟩
    refine ⟨_, rfl, p, dx, _, rfl, s13 _ _ i1A, fld_none (by decide) (by decide) (by decide), p, z, ss, L, rfl, tabA.same s13, fun sa3 hsa3 => ?_⟩
    refine ⟨_, _, .tup (.inl (.inl hsa2)) (dp_strs ss), .tup (.inl (.inl hsa3)) (dp_strs ss), sh_strsT sok, sh_strsT sok, _, rfl, ?_⟩
    rw [eqv_strsT, show (!decide (ss = ss)) = false by rw [decide_eq_true rfl]; rfl]
    refine iteF ⟨_, rfl, p, C, dx, _, _, rfl, s13 _ _ i1A, N.cl, N.nN, rfl, _, rfl, rfl, _, rfl, ?_⟩
    rw [show (!decide (V.str z = V.str z)) = false by rw [decide_eq_true rfl]; rfl]
    have s03 := Same.trans s1 s13
    have tab3 := tab.same s03
    have tabm3 := tab1.same s13
    refine iteF ⟨_, rfl, _, rfl, m, z', ss, L, rfl, tabm3, .inl ⟨p, z, ss, L, rfl, tab3, sok, sok, ?_⟩⟩
    refine ⟨_, rfl, m, dm, _, rfl, s13 _ _ j1, fld_none (by decide) (by decide) (by decide), _, rfl, m, z', z, ss, _, L, rfl, tabm3, zok, sok, okL, areT, grpT, dlen, fun G4 m2 s4 hm2 tab2 => ?_⟩
    refine ⟨_, rfl, m2, z, ss, L, rfl, tab2, .inl ⟨p, z, ss, L, rfl, tab3.same s4, sok, sok, ?_⟩⟩
    refine ⟨(by show 2 ≤ sizeLine; decide), fun d1 hd1 => ?_⟩
    rw [show (xor false (decide (z = z ∧ ss = ss ∧ L = L))) = true by simp, show (xor false (decide (z' = z ∧ ss = ss ∧ L = L))) = decide (z' = z) by simp]
    have s5 := sNew (o := .lst [.bl (decide (z' = z)), .bl true]) s4 hd1
    have t5 := upd_same (H := G4) (a := d1) (o := .lst [.bl (decide (z' = z)), .bl true])
    generalize upd G4 d1 (.lst [.bl (decide (z' = z)), .bl true]) = G5 at s5 t5
    obtain ⟨b1, b2, b3, b4⟩ := two_bl (decide (z' = z)) true
    refine ⟨d1, _, rfl, .lst (SqL.of t5) (.cons (.bl _) (.cons (.bl _) .nil)), b1, b2, b3, le_line (by omega), ?_⟩
    refine ⟨_, rfl, _, rfl, rfl, (by show 2 ≤ sizeLine; decide), fun d2 hd2 => ?_⟩
    have es : decide (V.str z' = V.str z) = decide (z' = z) := decide_eq_decide.mpr ⟨fun e => V.str.inj e, fun e => congrArg V.str e⟩
    rw [es]
    have s6 := sNew (o := .lst [.bl (decide (z' = z)), .bl true]) s5 hd2
    have t6 := upd_same (H := G5) (a := d2) (o := .lst [.bl (decide (z' = z)), .bl true])
    generalize upd G5 d2 (.lst [.bl (decide (z' = z)), .bl true]) = G6 at s6 t6
    refine ⟨d2, _, rfl, .lst (SqL.of t6) (.cons (.bl _) (.cons (.bl _) .nil)), b1, b2, b3, le_line (by omega), rfl, _, rfl, ?_⟩
    rw [decide_eq_true rfl]
    have tab6 := tab3.same s6
    refine iteF ⟨_, rfl, p, z, ss, L, rfl, tab6, zok, sok, fun G7 s7 => ?_⟩
    have zl := zok.2.1
    have ct : ("Table('" : Str).length = 7 := rfl
    have cq : ("', " : Str).length = 3 := rfl
    have cp : (")" : Str).length = 1 := rfl
    have sl := sizeLine_eq
    refine ⟨_, rfl, _, _, rfl, rfl, by omega, _, _, rfl, rfl, by rw [strLen_append]; omega, ?_⟩
    refine ⟨_, rfl, (by show 1 ≤ sizeLine; decide), fun c0 hc0 => ?_⟩
    have s8 := sNew (o := .lst [V.str y]) s7 hc0
    have t8 := upd_same (H := G7) (a := c0) (o := .lst [V.str y])
    generalize upd G7 c0 (.lst [V.str y]) = G8 at s8 t8
    refine ⟨_, rfl, c0, _, _, rfl, rfl, t8, by omega, by omega, by show 1 * n ≤ sizeLine; exact le_line (by omega), fun d0 hd0 => ?_⟩
    rw [Int.toNat_natCast, rep_flat, rep_map, hss]
    have s9 := sNew (o := .lst (ss.map V.str)) s8 hd0
    have t9 := upd_same (H := G8) (a := d0) (o := .lst (ss.map V.str))
    generalize upd G8 d0 (.lst (ss.map V.str)) = G9 at s9 t9
    refine ⟨d0, _, rfl, .inl ⟨SqL.of t9, fun tu htu => ?_⟩⟩
    have s10 := sNew (o := .tup (ss.map V.str)) s9 htu
    have t10 := upd_same (H := G9) (a := tu) (o := .tup (ss.map V.str))
    generalize upd G9 tu (.tup (ss.map V.str)) = G10 at s10 t10
    refine ⟨tu, _, rfl, .tup (.inl (.inl t10)) (dp_strs ss), y1, y2, zd, le_line (Nat.le_trans y3 (by decide)), ?_⟩
    have y3b : (PyData.tuple (ss.map PyData.str)).shown.length ≤ 5000 := y3
    refine ⟨_, _, rfl, rfl, by rw [strLen_append, strLen_append]; omega, _, _, rfl, rfl, by rw [strLen_append, strLen_append, strLen_append]; omega, rfl, _, rfl, ?_⟩
    have same : V.str (tabText z ss) = V.str (("Table('" : Str) ++ z ++ ("', " : Str) ++ (PyData.tuple (ss.map PyData.str)).shown ++ (")" : Str)) := congrArg V.str (tab_name zok)
    rw [show (!decide (V.str (tabText z ss) = V.str (("Table('" : Str) ++ z ++ ("', " : Str) ++ (PyData.tuple (ss.map PyData.str)).shown ++ (")" : Str)))) = false by rw [decide_eq_true same]; rfl]
    have tab10 := tab6.same s10
    have s0A : Same H G10 := Same.trans s03 (Same.trans s6 s10)
    refine iteF ⟨_, rfl, _, rfl, p, z, ss, L, rfl, tab10, zok, sok, fun G11 s11 => ?_⟩
    refine ⟨_, rfl, (by show 1 ≤ sizeLine; decide), fun e1 he1 => ?_⟩
    have s12 := sNew (o := .lst [V.ref p]) s11 he1
    have t12 := upd_same (H := G11) (a := e1) (o := .lst [V.ref p])
    generalize upd G11 e1 (.lst [V.ref p]) = G12 at s12 t12
    refine ⟨(by show 4 ≤ sizeLine; decide), fun e2 he2 => ?_⟩
    have s13' := sNew (o := .tup [V.non, V.str z, V.str (tabText z ss), V.ref e1]) s12 he2
    have t13 := upd_same (H := G12) (a := e2) (o := .tup [V.non, V.str z, V.str (tabText z ss), V.ref e1])
    have t123 := old (o := .tup [V.non, V.str z, V.str (tabText z ss), V.ref e1]) t12 he2
    generalize upd G12 e2 (.tup [V.non, V.str z, V.str (tabText z ss), V.ref e1]) = G13 at s13' t13 t123
    refine ⟨e2, rfl, ⟨_, .inl (.inl t13)⟩, fun D hD => ?_⟩
    refine lc_new (walk_tup (K := K) (a := e2) (xs := [V.non, V.str z, V.str (tabText z ss), V.ref e1])) (fun i => ((List.replicate 4 false).map V.bl)[i]?) (by show 4 < sizeLine; decide) hD (fun G s => .inl (.inl (s _ _ t13))) ?_ ?_
    · rintro i v G _ hi s ⟨rfl, hv⟩ Kt Kn kt kn
      have tabG := (tab10.same s13').same s
      have i4 : i < 4 := hi
      have kf : ((List.replicate 4 false).map V.bl)[i]? = some (.bl false) := by
        rw [List.getElem?_map, List.getElem?_replicate, if_pos i4]; rfl
      refine ⟨rfl, _, rfl, _, rfl, p, z, ss, L, rfl, tabG, .inr ?_⟩
      match i, hv with
      | 0, hv =>
        obtain rfl : V.non = v := Option.some.inj hv
        exact ⟨"NoneType", .base .non, OT.n1, OT.n2, kt _ _ kf (Same.refl _)⟩
      | 1, hv =>
        obtain rfl : V.str z = v := Option.some.inj hv
        exact ⟨"str", .base (.str _), OT.s1, OT.s2, kt _ _ kf (Same.refl _)⟩
      | 2, hv =>
        obtain rfl : V.str (tabText z ss) = v := Option.some.inj hv
        exact ⟨"str", .base (.str _), OT.s1, OT.s2, kt _ _ kf (Same.refl _)⟩
      | 3, hv =>
        obtain rfl : V.ref e1 = v := Option.some.inj hv
        exact ⟨"list", .base (.lst (s _ _ t123)), OT.l1, OT.l2, kt _ _ kf (Same.refl _)⟩
      | j + 4, hv => exact absurd i4 (by omega)
    intro G14 s14 at14
    have e4 : kept (fun i => ((List.replicate 4 false).map V.bl)[i]?) 4 = (List.replicate 4 false).map V.bl := kept_all (ys := (List.replicate 4 false).map V.bl) fun _ => rfl
    have at14' : G14 D = some (.lst ((List.replicate 4 false).map V.bl)) := by
      rw [← e4]; exact at14
    refine ⟨D, _, rfl, SqL.of at14', false, rfl, iteF ?_⟩
    have tabF := (tab10.same s13').same s14
    have s0F : Same H G14 := Same.trans s0A (Same.trans s13' s14)
    have twinF := twin.same s0F
    refine ⟨_, rfl, _, rfl, p, z, ss, L, rfl, tabF, .inl ⟨q, z, ss, L, rfl, twinF, sok, sok, ?_⟩⟩
    rw [show (xor false (decide (z = z ∧ ss = ss ∧ L = L))) = true by simp]
    refine ⟨true, rfl, iteT ⟨_, rfl, _, rfl, p, z, ss, L, rfl, tabF, .inl ⟨q, z, ss, L, rfl, twinF, sok, sok, ?_⟩⟩⟩
    rw [show (xor true (decide (z = z ∧ ss = ss ∧ L = L))) = false by simp]
    exact ⟨false, rfl, fin G14 s0F⟩
end
end S11

namespace S11
open PySem L2 GM
open PySem.W (EachIs)
open LamX (Tabs ExtN LamS lamCx lamEnv TabB)
open PyProof.Rows (envOfC)
structure DfG (P : Program) (w : World) (K : PySem.W.Frag) (mg : Str → Option Value) (base : Heap) (x : Str) (ps : List Str) (k : Nat) (sp : Sp) : Prop where
  ex : ∃ f fd, mg x = some (.ref f) ∧ PySem.W.keepIn K (.ref f) = true ∧ Binds K fd ps [] ∧ FnG P w K mg base CX0 k f fd ps sp
theorem pe_dfG {X : Cx} {x : Str} {ps : List Str} {k : Nat} {sp : Sp} {e : Expr} {es : List Expr} {t : TA} {p pos : Pos} (D : DfG X.prog X.w X.K X.mg X.base x ps k sp) (gd : X.A.guards = some []) (hr : Room k X.A) (hg : Gl X x) (ha : PA X (e :: es) t)
    (hdb : (x == ("__debug__" : Str)) = false := by decide) (hst : starEach (e :: es) X.env = (false, eval e X.env) :: starEach es X.env := by rfl) (hpl : (backTo pos (starEach es X.env)).any (·.1) = false := by rfl) :
    PE X (.Call (.Name x p) (e :: es) [] pos) (tCall sp [] E0 t) := by
  obtain ⟨f, fd, hm, kp, b, F⟩ := D.ex
  exact pe_callG F gd hr hg hm kp b .nil pass0 ha (hdb := hdb) (he := hst) (hpl := hpl)
theorem seq_ext {K : PySem.W.Frag} {H H' : Hp} {a : Addr} {xs : List V} (s : ExtN H H') (h : SqL K H a xs) : SqL K H' a xs := by
  rcases h with (h | ⟨o, h⟩) | h
  · exact .inl (.inl (s _ _ h (fun _ z => nomatch z)))
  · exact .inl (.inr ⟨o, s _ _ h (fun _ z => nomatch z)⟩)
  · exact .inr h
theorem one_grp : ∀ tn, grpB 1 [([0], 1)] (due 1 tn) = true := by decide +kernel
theorem due_one : ∀ n ≤ 4, 1 ≤ n → decide (due n false = due n true) = decide (n = 1) := by decide +kernel
section
variable {P : Program} {w : World} {K : PySem.W.Frag} {mg : Str → Option Value} {base : Heap}
/-! ### law -/
abbrev qLw : Str := "law.<locals>.<lambda>"
def spLaw (K : PySem.W.Frag) (Tb : List (Addr × Str)) : Sp := fun vs H Q _ => ∃ (a : Addr) (ns : List Int), vs = [.ref a] ∧ SqL K H a (ns.map V.int) ∧ ns.length ≤ 63 ∧ Tabs Tb H ∧ ∀ H', Q (.bl true) H'
abbrev nLaw : List Str := ["_law_script", "_law_k", "_law_pot_here", "_law_name_here", "_law_sort", "_law_other", "_law_many", "_law_same", "_law_opposite", "_law_table", "_law_turning", "_law_twin"]
theorem scLaw : FnScope nLaw ["_law_script"] (defScope sLaw) := ⟨rfl, rfl, rfl, by decide +kernel, rfl, by decide +kernel, by decide +kernel⟩
def tSym (C : Addr) (tn : Bool) : TE := fun σ H Q => ∃ (z y : Str) (n : Nat), σ[3]? = some (some (.str z)) ∧ σ[4]? = some (some (.str y)) ∧ σ[6]? = some (some (.int n)) ∧ NameOk z ∧ NameOk y ∧ 1 ≤ n ∧ n ≤ 4 ∧ ∀ (H' : Hp) (p : Addr), Same H H' → H p = none → TabAt C H' p z (List.replicate n y) (due n tn) → Q (.ref p) H'
def tTwin (C : Addr) : TE := fun σ H Q => ∃ (z y : Str) (n : Nat) (tn : Bool), σ[3]? = some (some (.str z)) ∧ σ[4]? = some (some (.str y)) ∧ σ[6]? = some (some (.int n)) ∧ σ[10]? = some (some (.bl tn)) ∧ NameOk z ∧ NameOk y ∧ 1 ≤ n ∧ n ≤ 4 ∧
  ∀ (H' : Hp) (p : Addr), Same H H' → H p = none → TabAt C H' p z (List.replicate n y) (due n tn) → Q (.ref p) H'
theorem ok_law {f c Pt C D Dp Dn Dc S : Addr} {fd : FuncData} {Tb : List (Addr × Str)} (inT : (Pt, qLw) ∈ Tb) (one : ∀ p ∈ Tb, p.1 = Pt → p.2 = qLw) (F : Fun K "law" "law" sLaw f fd) (hc : fd.code = .ref c) (TB : TabB base mg c Pt) (B : Bn mg) (TO : TOp P w K mg base C) (M : TMk P w K mg base C D) (Z : Three3 P w K mg base Dp Dn Dc S) (R : IsD K mg)
    (DT : Df P w K mg base "_law_pot" ["_law_script", "_law_k"] 1 (spPot K)) (DN : Df P w K mg base "_law_name" ["_law_pot_here"] 3 spLName) (DD : Df P w K mg base "_law_draw" ["_law_pot_here", "_law_many"] 1 spDraw)
    (SY : SyK P w K mg base C Dn Dc "symmetric" false) (AL : SyK P w K mg base C Dn Dc "alternating" true)
    (DM : DfG P w K mg base "_law_makers_refused" pMkRef 14 (spMkRef Tb)) (DO : DfE P w K mg base "_law_other_way" pOther 8 (spOther C)) (DG : DfG P w K mg base "_law_group_right" pGroup 7 (spGroupR C)) (DP : DfG P w K mg base "_law_places_refused" pPlRef 14 (spPlRef C Tb)) (DR : DfG P w K mg base "_law_named_right" pNamed 9 (spNamedR C))
    (MS : Mt P w K mg base C "slots" ["self"] 1 (spTSlots C)) (MX : MtE P w K mg base C "renamed" ["self", "name"] 8 (spTNamedX C Dn)) :
    FnG P w K mg base CX0 16 f fd ["_law_script"] (spLaw K Tb) := by
  obtain ⟨mc, ps, gs, fds, rd, ms, bs, GS⟩ := SY.ex
  obtain ⟨mc2, pa, ga, fda, rd2, ma, ba, GA⟩ := AL.ex
  obtain ⟨fsl, fdsl, hs1, bsl, GSl⟩ := MS.ex
  obtain ⟨fx, fdx, hx1, bx, GX⟩ := MX.ex
  have N := TO.tc
  obtain ⟨oc, od, kV, doc, pm, an, cdv, ct, osl, rfl, lk, hcd⟩ := F.ex
  obtain rfl : cdv = .ref c := hc
  refine fn_ofG lk hcd scLaw (fun vs H Q E h => ?_) fun A outer s H vs Q E gd hr h => ?_
  · obtain ⟨a, ns, rfl, _⟩ := h
    rfl
  · obtain ⟨a, ns, rfl, ha, few, tb, q⟩ := h
    have hu := hr.units
    have h1 : Room 1 _ := hr.mono (by decide)
    have h2 : Room 2 _ := hr.mono (by decide)
    have h3 : Room 3 _ := hr.mono (by decide)
    have h7 : Room 7 _ := hr.mono (by decide)
    have h8 : Room 8 _ := hr.mono (by decide)
    have h9 : Room 9 _ := hr.mono (by decide)
    have h13 : Room 13 _ := hr.mono (by decide)
    have h14 : Room 14 _ := hr.mono (by decide)
    have dg : (A.deeper (envOfC "law" (defScope sLaw) s.heap.objs.size f (.ref c))).guards = some [] := deeper_guards.trans gd
    have nd := scLaw.nd
    refine' ⟨_, PSs.nox (pss_cons (ps_for PassesOwn.never rfl (pi_range1 (by rfl) B.range (pa_cons (pe_callB (call_max2 rfl) (by rfl) B.max (by decide +kernel) (pa_cons pe_int (pa_cons (pe_callB (call_min2 rfl) (by rfl) B.min (by decide +kernel) (pa_cons (pe_callB call_len_seq (by rfl) B.len PySem.boot_len (pa_cons (pv 0) pa_nil)) (pa_cons pe_int pa_nil))) pa_nil))) pa_nil)) (pg_name (i := 1) nd rfl (Or.inl rfl))
        (pss_cons (ps_set (i := 2) nd rfl (Or.inl rfl) (pe_df DT h1 (by rfl) (pa_cons (pv 0) (pa_cons (pv 1) pa_nil))))
        (pss_cons (ps_par (i := 3) (j := 4) (by rfl) nd rfl rfl (by decide) rfl rfl (pa_cons (pe_df DN h3 (by rfl) (pa_cons (pv 2) pa_nil)) (pa_cons (pe_df DN h3 (by rfl) (pa_cons (pv 2) pa_nil)) pa_nil)) (by rfl))
        (pss_cons (ps_par (i := 5) (j := 6) (by rfl) nd rfl rfl (by decide) rfl rfl (pa_cons (pe_df DN h3 (by rfl) (pa_cons (pv 2) pa_nil)) (pa_cons (pe_op op_add pe_int (pe_df DD h1 (by rfl) (pa_cons (pv 2) (pa_cons pe_int pa_nil)))) pa_nil)) (by rfl))
        (pss_cons (ps_par (i := 7) (j := 8) (by rfl) nd rfl rfl (by decide) rfl rfl (pa_cons (PE.imp (t' := tSym C false) (pe_cmethG (E := E0) (pe_glob (v := .ref C) (by rfl) N.mgC rfl) rd ms (FnG.rawG GS bs) dg h8 passF (pa_cons (pv 3) (pa_cons (pv 4) (pa_cons (pv 6) pa_nil)))) ?q1) (pa_cons (PE.imp (t' := tSym C true) (pe_cmethG (E := E0) (pe_glob (v := .ref C) (by rfl) N.mgC rfl) rd2 ma (FnG.rawG GA ba) dg h8 passF (pa_cons (pv 3) (pa_cons (pv 4) (pa_cons (pv 6) pa_nil)))) ?q2) pa_nil)) (by rfl))
        (pss_cons (ps_if (PW.pt (pw_or (pt_cmpR op_ne (pe_callB (call_sg (k := 1) dg h2) (by rfl) B.repr (by decide +kernel) (pa_cons (pe_cmpR (op_teq TO h1) (pv 7) (pv 8) (nomark _)) pa_nil)) (pe_callB (call_sg (k := 1) dg h2) (by rfl) B.repr (by decide +kernel) (pa_cons (pe_cmpR op_eq (pv 6) pe_int (nomark _)) pa_nil)) (nomark _))
            (pw_or1 (pt_not (pt_val (pe_dfG DM dg h14 (by rfl) (pa_cons (pv 2) (pa_cons (pv 3) (pa_cons (pv 4) pa_nil))))))))) (pss_one (ps_ret pe_bl)) pss_nil)
        (pss_one (ps_for PassesOwn.never rfl (pi_list (pe_lst (pa_cons (pe_tup (pa_cons (pv 7) (pa_cons pe_bl pa_nil))) (pa_cons (pe_tup (pa_cons (pv 8) (pa_cons pe_bl pa_nil))) pa_nil)))) (pg_tup rfl (pgs_cons (pg_name (i := 9) nd rfl (Or.inr rfl)) (pgs_cons (pg_name (i := 10) nd rfl (Or.inl rfl)) pgs_nil)))
          (pss_cons (ps_set (i := 11) nd rfl (Or.inl rfl) (PE.imp (t' := tTwin C) (pe_ifExp (pt_cmpR op_gt (pv 6) pe_int (nomark _)) (pe_dfE (E := E0) DO dg h8 (by rfl) passF (pa_cons (pv 3) (pa_cons (pv 4) (pa_cons (pv 6) (pa_cons (pv 10) pa_nil)))))
              (pe_tab (E := E0) M dg h7 (by rfl) passF (pa_cons (pv 3) (pa_cons (pe_tup (pa_cons (pv 4) pa_nil)) (pa_cons (pe_tup (pa_cons (pe_tup (pa_cons pe_int pa_nil)) (pa_cons pe_int pa_nil))) pa_nil))))) ?q3))
          (pss_cons (ps_if (PW.pt (pw_or (pt_not (pt_val (pe_dfG DG dg h7 (by rfl) (pa_cons (pv 2) (pa_cons (pv 9) (pa_cons (pv 6) (pa_cons (pv 10) pa_nil))))))) (pw_or1 (pt_not (pt_val (pe_dfG DP dg h14 (by rfl) (pa_cons (pv 2) (pa_cons (pv 9) (pa_cons (pv 6) pa_nil))))))))) (pss_one (ps_ret pe_bl)) pss_nil)
          (pss_cons (ps_if (PW.pt (pw_or (pt_not (pt_val (pe_dfG DR dg h9 (by rfl) (pa_cons (pv 9) (pa_cons (pv 11) (pa_cons (pv 3) (pa_cons (pv 5) (pa_cons (pv 6) (pa_cons (pv 4) pa_nil)))))))))
              (pw_or1 (pt_cmpR (op_neD hu) (pe_meth0 (pv 9) N.cl hs1 GSl h1 bsl .nil pass0) (pe_callTy call_tuple_of (by rfl) B.tuple (by decide +kernel) (pa_cons (pe_op op_rep (pe_lst (pa_cons (pv 4) pa_nil)) (pv 6)) pa_nil)) (nomark _))))) (pss_one (ps_ret pe_bl)) pss_nil)
          (pss_one (ps_if (pt_not (pt_val (pe_is (T := Tb) R Z B dg (by rfl) TB rfl inT one h13 (LamX.lamS_by (by show LamX.lamSB (defScope sLaw) _ = true; decide +kernel)) rfl (fun _ _ _ _ _ => rfl) (fun A outer s H E f c' g2 hr2 => pe_methX (pv 9) N.cl hx1 GX (deeper_guards.trans g2) (hr2.mono (by decide)) bx (L2.passes_call (L2.takes_of (E := E) rfl rfl rfl rfl) fun _ _ _ _ z => z) (pa_cons pe_non pa_nil)) (pa_cons (pe_lst (pa_cons pe_str (pa_cons pe_non pa_nil))) pa_nil) rfl rfl))) (pss_one (ps_ret pe_bl)) pss_nil)))))))))))))
      (pss_one (ps_ret pe_bl))), ?_⟩
    case q1 =>
      rintro σ H0 R0 ⟨z, y, n, g3, g4, g6, zok, yok, n1, n4, fin⟩
      have mb : manyB (.int (n : Nat)) = true := by
        show (decide (1 ≤ (n : Int)) && decide ((n : Int) ≤ 4)) = true
        rw [decide_eq_true (by omega), decide_eq_true (by omega)]; rfl
      refine ⟨rfl, _, g3, _, g4, _, g6, .str z, .str y, .int n, rfl, _, _, _, _, _, _, zok.odd, yok.odd, .prt (.int (i := (n : Nat)) (by have z : (4 : Nat) < 2 ^ 200 := (by decide); omega)), fun h => by rw [name_yes zok] at h; (cases h), fun _ h => by rw [name_yes yok] at h; (cases h), fun _ _ h => by rw [mb] at h; (cases h), fun _ _ _ H' p k z2 y2 ez ey em _ _ _ _ s hp tab => ?_⟩
      obtain rfl : z = z2 := V.str.inj ez
      obtain rfl : y = y2 := V.str.inj ey
      obtain rfl : n = k := by have := V.int.inj em; omega
      exact fin H' p s hp tab
    case q2 =>
      rintro σ H0 R0 ⟨z, y, n, g3, g4, g6, zok, yok, n1, n4, fin⟩
      have mb : manyB (.int (n : Nat)) = true := by
        show (decide (1 ≤ (n : Int)) && decide ((n : Int) ≤ 4)) = true
        rw [decide_eq_true (by omega), decide_eq_true (by omega)]; rfl
      refine ⟨rfl, _, g3, _, g4, _, g6, .str z, .str y, .int n, rfl, _, _, _, _, _, _, zok.odd, yok.odd, .prt (.int (i := (n : Nat)) (by have z : (4 : Nat) < 2 ^ 200 := (by decide); omega)), fun h => by rw [name_yes zok] at h; (cases h), fun _ h => by rw [name_yes yok] at h; (cases h), fun _ _ h => by rw [mb] at h; (cases h), fun _ _ _ H' p k z2 y2 ez ey em _ _ _ _ s hp tab => ?_⟩
      obtain rfl : z = z2 := V.str.inj ez
      obtain rfl : y = y2 := V.str.inj ey
      obtain rfl : n = k := by have := V.int.inj em; omega
      exact fin H' p s hp tab
    case q3 =>
      rintro σ H0 R0 ⟨z, y, n, tn, g3, g4, g6, g10, zok, yok, n1, n4, fin⟩
      refine ⟨_, g6, _, _, rfl, rfl, _, rfl, ?_⟩
      by_cases c : 2 ≤ n
      · rw [show decide ((1 : Int) < (n : Int)) = true from decide_eq_true (by omega)]
        exact iteT ⟨_, g3, _, g4, _, g6, _, g10, z, y, n, tn, rfl, zok, yok, c, n4, fin⟩
      · obtain rfl : n = 1 := by omega
        refine iteF ⟨_, g3, _, g4, (by show 1 ≤ sizeLine; decide), fun a1 q1 => ?_⟩
        have s1 := sNew (o := .tup [.str y]) (Same.refl H0) q1
        have t1 := upd_same (H := H0) (a := a1) (o := .tup [.str y])
        generalize upd H0 a1 (.tup [.str y]) = H1 at s1 t1
        refine ⟨(by show 1 ≤ sizeLine; decide), fun a2 q2 => ?_⟩
        have s2 := sNew (o := .tup [.int 0]) s1 q2
        have t2 := upd_same (H := H1) (a := a2) (o := .tup [.int 0])
        have t12 := old (o := .tup [.int 0]) t1 q2
        generalize upd H1 a2 (.tup [.int 0]) = H2 at s2 t2 t12
        refine ⟨(by show 2 ≤ sizeLine; decide), fun a3 q3 => ?_⟩
        have s3 := sNew (o := .tup [.ref a2, .int 1]) s2 q3
        have t3 := upd_same (H := H2) (a := a3) (o := .tup [.ref a2, .int 1])
        have t13 := old (o := .tup [.ref a2, .int 1]) t12 q3
        have t23 := old (o := .tup [.ref a2, .int 1]) t2 q3
        generalize upd H2 a3 (.tup [.ref a2, .int 1]) = H3 at s3 t3 t13 t23
        have lists := lists_of (one_grp tn)
        have g1 : Grp 1 [([0], 1)] (due 1 tn) := ⟨(due_srt 1 (by decide) tn).1, lists, (due_srt 1 (by decide) tn).2⟩
        have tok : TurnOk (List.replicate 1 y) ([0], 1) := ⟨keeps_rep (by decide), .inl rfl⟩
        refine fun x dx hx hdx ne => made_t (K := K) (ss := List.replicate 1 y) (T := [([0], 1)]) (tv := [.ref a3]) zok (.inr t13) (slots_rep (by decide) (by decide) yok) ⟨TurnS.is ⟨a3, a2, rfl, t3, t23⟩, trivial⟩ (fun p m => by rw [List.mem_singleton.mp m]; exact tok) (by show 1 ≤ 100; decide) ⟨fun no => absurd (single_of lists (due_srt 1 (by decide) tn).2) no, fun H' p L s' hp' tab grp => ?_⟩ x dx hx hdx ne
        have eL : L = due 1 tn := srt_same (nodup_of_keys grp.nd) (nodup_of_keys g1.nd) (fun p => (grp.lists p).trans (g1.lists p).symm) grp.srt g1.srt
        rw [eL] at tab
        exact fin H' p (Same.trans s3 s') (s3.free hp') tab
    refine ⟨_, rfl, a, _, rfl, .inl ha, _, _, rfl, _, _, rfl, ?_⟩
    obtain ⟨kk, hkk⟩ : ∃ kk : Int, kk = (if (if (3 : Int) < (((ns.map V.int).length : Nat) : Int) then 3 else (((ns.map V.int).length : Nat) : Int)) > 1 then (if (3 : Int) < (((ns.map V.int).length : Nat) : Int) then 3 else (((ns.map V.int).length : Nat) : Int)) else 1) := ⟨_, rfl⟩
    have hk4 : 1 ≤ kk ∧ kk ≤ 3 := by
      rw [hkk]; split <;> split <;> omega
    refine ⟨kk, by rw [hkk], by omega, by omega, for_it (walk_range (lo := 0) (n := kk.toNat)) (fun i σ G => ExtN H G ∧ Tabs Tb G ∧ ∃ y1 y2 y3 y4 y5 y6 y7 y8 y9 y10 y11 : Option V, σ = [some (.ref a), y1, y2, y3, y4, y5, y6, y7, y8, y9, y10, y11]) ⟨ExtN.refl H, tb, none, none, none, none, none, none, none, none, none, none, none, rfl⟩ (fun _ _ _ _ _ => trivial) ?_ ?_⟩
    · rintro i v σ _ G hi ⟨eG, tbG, y1, y2, y3, y4, y5, y6, y7, y8, y9, y10, y11, rfl⟩ ⟨rfl, rfl⟩
      have e0 : (0 : Int) + (i : Nat) = (i : Nat) := by omega
      refine ⟨_, rfl, _, rfl, a, ns, i, (by show [V.ref a, V.int ((0 : Int) + (i : Nat))] = [V.ref a, V.int ((i : Nat) : Int)]; rw [e0]), seq_ext eG ha, by omega, by omega, fun G1 l s1 nl pot1 => ?_⟩
      have tb1 := tbG.ext s1
      refine ⟨_, rfl, l, rfl, pot1, fun G2 z sx2 pot2 zok => ⟨_, rfl, l, rfl, pot2, fun G3 y sx3 pot3 yok => ⟨_, _, rfl, ?_⟩⟩⟩
      refine ⟨_, rfl, l, rfl, pot3, fun G4 z' sx4 pot4 zok' => ⟨_, rfl, l, 4, rfl, pot4, by omega, by omega, fun G5 d sx5 pot5 d0 d1 => ⟨_, _, rfl, rfl, _, _, rfl, ?_⟩⟩⟩
      obtain ⟨m, rfl⟩ := Int.eq_ofNat_of_zero_le d0
      obtain ⟨n, hn⟩ : ∃ n : Nat, n = 1 + m := ⟨_, rfl⟩
      have n1 : 1 ≤ n := by omega
      have n4 : n ≤ 4 := by omega
      have vn : V.int ((1 : Int) + (m : Nat)) = V.int ((n : Nat) : Int) := by rw [hn]; rfl
      have tb5 := tabs_pot pot4 sx5 (tabs_pot pot3 sx4 (tabs_pot pot2 sx3 (tabs_pot pot1 sx2 tb1)))
      have x15 : ExtX l G1 G5 := ExtX.of (SameX.trans sx2 (SameX.trans sx3 (SameX.trans sx4 sx5)))
      have σ6 : (some (some (V.int ((1 : Int) + (m : Nat)))) : Option (Option V)) = some (some (V.int (n : Nat))) := by rw [vn]
      refine ⟨z, y, n, rfl, rfl, σ6, zok, yok, n1, n4, fun G6 p1 s6 hp1 tabS => ⟨z, y, n, rfl, rfl, σ6, zok, yok, n1, n4, fun G7 p2 s7 hp2 tabA => ⟨_, _, rfl, ?_⟩⟩⟩
      -- the state behind the makers
      obtain ⟨σ0, hσ0⟩ : ∃ σ0 : St, σ0 = [some (.ref a), some (.int ((0 : Int) + (i : Nat))), some (.ref l), some (.str z), some (.str y), some (.str z'), some (.int (n : Nat)), some (.ref p1), some (.ref p2), y9, y10, y11] := ⟨_, rfl⟩
      have here : ([some (.ref a), some (.int ((0 : Int) + (i : Nat))), some (.ref l), some (.str z), some (.str y), some (.str z'), some (V.int ((1 : Int) + (m : Nat))), some (.ref p1), some (.ref p2), y9, y10, y11] : St) = σ0 := by rw [vn, hσ0]
      show tSeq _ _ _ [some (.ref a), some (.int ((0 : Int) + (i : Nat))), some (.ref l), some (.str z), some (.str y), some (.str z'), some (V.int ((1 : Int) + (m : Nat))), some (.ref p1), some (.ref p2), y9, y10, y11] G7
      rw [here, hσ0]
      clear here hσ0 σ6
      have sokL : SlotsOk (List.replicate n y) := slots_rep n1 n4 yok
      have len : (List.replicate n y).length = n := List.length_replicate
      refine ⟨_, rfl, _, rfl, p1, z, _, _, rfl, tabS.same s7, .inl ⟨p2, z, _, _, rfl, tabA, sokL, sokL, ?_⟩⟩
      refine ⟨_, _, (fun G => G = G7), (fun _ => False), rfl, rfl, sg_bl, bool_fits _, fun G8 e => ?_⟩
      have e' := e.symm
      subst e'
      refine ⟨_, rfl, rfl, _, _, (fun G => G = G7), (fun _ => False), rfl, rfl, sg_bl, bool_fits _, fun G8 e => ?_⟩
      have e' := e.symm
      subst e'
      refine ⟨rfl, _, rfl, ?_⟩
      have eqn : (xor false (decide (z = z ∧ List.replicate n y = List.replicate n y ∧ due n false = due n true))) = decide (V.int (n : Nat) = V.int 1) := by
        have e1 := due_one n n4 n1
        have e2 : decide (V.int (n : Nat) = V.int 1) = decide (n = 1) := decide_eq_decide.mpr ⟨fun e => by have := V.int.inj e; omega, fun e => by rw [e]; rfl⟩
        rw [e2, ← e1]
        simp
      rw [eqn, decide_eq_true rfl]
      refine iteF ?_
      have s57 : Same G5 G7 := Same.trans s6 s7
      have pot7 := pot5.same s57
      have tb7 := tb5.ext s57
      refine ⟨_, rfl, _, rfl, _, rfl, l, z, y, rfl, pot7, zok, yok, tb7, fun G8 e8 pot8 tb8 => ⟨true, rfl, iteF ?_⟩⟩
      have tabS8 := (tabS.same s7).extX pot7 e8
      have tabA8 := tabA.extX pot7 e8
      refine ⟨_, rfl, (by show 2 ≤ sizeLine; decide), fun t1 ht1 => ?_⟩
      have s9 := sNew (o := .tup [.ref p1, .bl false]) (Same.refl G8) ht1
      have at1 := upd_same (H := G8) (a := t1) (o := .tup [.ref p1, .bl false])
      generalize upd G8 t1 (.tup [.ref p1, .bl false]) = G9 at s9 at1
      refine ⟨_, rfl, (by show 2 ≤ sizeLine; decide), fun t2 ht2 => ?_⟩
      have s10 := sNew (o := .tup [.ref p2, .bl true]) (Same.refl G9) ht2
      have at2 := upd_same (H := G9) (a := t2) (o := .tup [.ref p2, .bl true])
      generalize upd G9 t2 (.tup [.ref p2, .bl true]) = G10 at s10 at2
      refine ⟨(by show 2 ≤ sizeLine; decide), fun dl hdl => ?_⟩
      have s11 := sNew (o := .lst [.ref t1, .ref t2]) (Same.refl G10) hdl
      have atd := upd_same (H := G10) (a := dl) (o := .lst [.ref t1, .ref t2])
      generalize upd G10 dl (.lst [.ref t1, .ref t2]) = G11 at s11 atd
      have s8b : Same G8 G11 := Same.trans s9 (Same.trans s10 s11)
      have pot11 := pot8.same s8b
      have tb11 := tb8.ext s8b
      have ndl : dl ≠ l := (pot8.same (Same.trans s9 s10)).ne hdl
      have pairs : ∀ (j : Nat) (v : V), ([V.ref t1, V.ref t2] : List V)[j]? = some v → ∃ (t pj : Addr) (tn : Bool), v = .ref t ∧ G11 t = some (.tup [.ref pj, .bl tn]) ∧ TabAt C G11 pj z (List.replicate n y) (due n tn) := fun j v hv => by
        match j, hv with
        | 0, hv => exact ⟨t1, p1, false, (Option.some.inj hv).symm, s11 _ _ (s10 _ _ at1), tabS8.same s8b⟩
        | 1, hv => exact ⟨t2, p2, true, (Option.some.inj hv).symm, s11 _ _ at2, tabA8.same s8b⟩
        | j + 2, hv => cases hv
      refine ⟨dl, rfl, ⟨_, SqL.of atd⟩, for_it (walk_list (K := K) (a := dl) (xs := [V.ref t1, V.ref t2])) (fun j σ G' => ExtX l G11 G' ∧ PotAt G' l ∧ Tabs Tb G' ∧ ∃ y9 y10 y11 : Option V, σ = [some (.ref a), some (.int ((0 : Int) + (i : Nat))), some (.ref l), some (.str z), some (.str y), some (.str z'), some (.int (n : Nat)), some (.ref p1), some (.ref p2), y9, y10, y11])
        ⟨ExtX.of (SameX.of (Same.refl G11)), pot11, tb11, y9, y10, y11, rfl⟩ (fun j σ G' _ h => SqL.of (h.1 _ _ ndl atd (fun _ z => nomatch z))) ?_ ?_⟩
      · rintro j v σ _ G12 hj ⟨x12, pot12, tb12, y9, y10, y11, rfl⟩ ⟨rfl, hv⟩
        obtain ⟨t, pj, tn, rfl, att, tabj⟩ := pairs j v hv
        have ntl : t ≠ l := by
          obtain ⟨x, y, el, _⟩ := id pot11
          exact ne_of att el (fun z => by cases z)
        have att12 := x12 _ _ ntl att (fun _ z => nomatch z)
        have tab12 := tabj.extX pot11 x12
        refine ⟨t, _, rfl, .inl (.inl att12), rfl, _, _, rfl, _, _, rfl, rfl, ?_⟩
        refine ⟨z, y, n, tn, rfl, rfl, rfl, rfl, zok, yok, n1, n4, fun G13 tw s13 htw twin => ?_⟩
        have tab13 := tab12.same s13
        refine ⟨_, rfl, _, rfl, _, rfl, _, rfl, l, pj, z, _, n, tn, rfl, pot12.same s13, tab13, len, n1, n4, fun G14 sx14 pot14 => ⟨true, rfl, iteF ?_⟩⟩
        have pot13 := pot12.same s13
        have tab14 := tab13.pot pot13 sx14
        have twin14 := twin.pot pot13 sx14
        have tb14 := tabs_pot pot13 sx14 (tb12.ext s13)
        refine ⟨_, rfl, _, rfl, _, rfl, l, pj, z, _, n, tn, rfl, pot14, tab14, len, n1, n4, tb14, fun G15 x15 pot15 tb15 => ⟨true, rfl, iteF ?_⟩⟩
        have tab15 := tab14.extX pot14 x15
        have twin15 := twin14.extX pot14 x15
        refine ⟨_, rfl, _, rfl, _, rfl, _, rfl, _, rfl, _, rfl, pj, tw, z, z', y, n, tn, rfl, tab15, twin15, zok, zok', yok, n1, n4, fun G16 s16 => ⟨true, rfl, iteF ?_⟩⟩
        have tab16 := tab15.same s16
        obtain ⟨dx, sa, ga, i1, i2, i3⟩ := id tab16
        refine ⟨_, rfl, pj, dx, _, rfl, i1, fld_none (by decide) (by decide) (by decide), pj, z, _, _, rfl, tab16, fun sa2 hsa2 => ?_⟩
        refine ⟨_, rfl, (by show 1 ≤ sizeLine; decide), fun c0 hc0 => ?_⟩
        have s17 := sNew (o := .lst [V.str y]) (Same.refl G16) hc0
        have t17 := upd_same (H := G16) (a := c0) (o := .lst [V.str y])
        generalize upd G16 c0 (.lst [V.str y]) = G17 at s17 t17
        refine ⟨_, rfl, c0, _, _, rfl, rfl, t17, by omega, by omega, by show 1 * n ≤ sizeLine; exact le_line (by omega), fun d0 hd0 => ?_⟩
        rw [Int.toNat_natCast, rep_flat, rep_map]
        have s18 := sNew (o := .lst ((List.replicate n y).map V.str)) s17 hd0
        have t18 := upd_same (H := G17) (a := d0) (o := .lst ((List.replicate n y).map V.str))
        generalize upd G17 d0 (.lst ((List.replicate n y).map V.str)) = G18 at s18 t18
        refine ⟨d0, _, rfl, .inl ⟨SqL.of t18, fun tu htu => ?_⟩⟩
        have s19 := sNew (o := .tup ((List.replicate n y).map V.str)) s18 htu
        have t19 := upd_same (H := G18) (a := tu) (o := .tup ((List.replicate n y).map V.str))
        generalize upd G18 tu (.tup ((List.replicate n y).map V.str)) = G19 at s19 t19
        refine ⟨_, _, .tup (.inl (.inl (s19 _ _ hsa2))) (dp_strs _), .tup (.inl (.inl t19)) (dp_strs _), sh_strsT sokL, sh_strsT sokL, _, rfl, ?_⟩
        rw [eqv_strsT, show (!decide (List.replicate n y = List.replicate n y)) = false by rw [decide_eq_true rfl]; rfl]
        refine iteF ?_
        have s1519 : Same G15 G19 := Same.trans s16 s19
        have tab19 := tab15.same s1519
        have pot19 := pot15.same s1519
        have tb19 := tb15.ext s1519
        refine ⟨tb19, fun G20 e20 tb20 => ⟨(by show 2 ≤ sizeLine; decide), fun lv hlv => ⟨.ref lv, rfl, sNew (Same.refl G20) hlv, ?_⟩⟩⟩
        have s21 := sNew (o := .lst [.str "name", .non]) (Same.refl G20) hlv
        refine ⟨lv, Dn, "name", .non, "NoneType", "None", rfl, upd_same, .inr (.inl ⟨rfl, rfl⟩), .prt .non, fun G22 E2 Q2 s22 xw => ?_, fun G22 s22 => ⟨true, rfl, iteF ?_⟩⟩
        · have tab22 := tab19.extN (e20.trans (ExtN.of (Same.trans s21 s22)))
          obtain ⟨dy, sb, gb, k1, k2, k3⟩ := id tab22
          exact ⟨_, rfl, pj, dy, _, rfl, k1, fld_none (by decide) (by decide) (by decide), pj, .non, "NoneType", "None", z, _, _, rfl, tab22, by rw [due_len]; have := ords_len n n4; omega, .prt .non, rfl, xw⟩
        · have e22 : ExtN G19 G22 := e20.trans (ExtN.of (Same.trans s21 s22))
          have xA : ExtX l G12 G22 := ExtX.trans (ExtX.trans (ExtX.ofS s13) (ExtX.of sx14)) (ExtX.trans x15 (ExtX.trans (ExtX.ofS s1519) (ExtX.ofN e22)))
          exact ⟨ExtX.trans x12 xA, pot19.ext e22, (tb20.ext s21).ext s22, _, _, _, rfl⟩
      · rintro σ G12 ⟨x12, pot12, tb12, y9, y10, y11, rfl⟩
        have xAll : ExtX l G1 G12 := ExtX.trans x15 (ExtX.trans (ExtX.ofS s57) (ExtX.trans e8 (ExtX.trans (ExtX.ofS s8b) x12)))
        exact ⟨fun b o e hb => xAll b o (fun z => by have := eG b o e hb; rw [z, nl] at this; cases this) (s1 _ _ (eG b o e hb)) hb, tb12, _, _, _, _, _, _, _, _, _, _, _, rfl⟩
    · rintro σ G ⟨eG, tbG, y1, y2, y3, y4, y5, y6, y7, y8, y9, y10, y11, rfl⟩
      exact q G
end
end S11

/-! The end of a law row without lambdas: the end with tables, of no tables -/
namespace L2
open PySem PySem.Spec PyProof.Rows LamX
theorem walk_quiet {l : PySem.W.OpenLaw} {n k : Nat} {q : Program} {loose : List Str} {XP : (Str → Option Value) → Heap → Prop} {YP : World → Heap → Prop} {d : DefRec} {K : Params → PySem.W.Frag} {CX : World → CXT} {sp : World → Sp} {x : Str}
    (most : l.most = some n) (line : n ≤ sizeLine) (plain : d.params.defaults = []) (room : Room k callerA) (keeps : ∀ (w : World) (h : Heap), YP w h → (K w.params).In h)
    (def_ : ∀ (w : World) (mg : Str → Option Value) (fa : Addr) (h : Heap), (K w.params).In h → h.Ns mainGlobals mg → mg d.name = some (.ref fa) →
      ∃ fd : FuncData, (∀ (s : Shared) (u : Value), BindsTo s fd ⟨[u], []⟩ [(x, u)]) ∧ ∀ base : Heap, (K w.params).In base → base.Ns mainGlobals mg → FnG l.prog w (K w.params) mg base (CX w) k fa fd [x] (sp w))
    (asked : ∀ (w : World) (H : Hp) (a : Addr) (ns : List Int), ns.length ≤ n → SqL (K w.params) H a (ns.map V.int) → sp w [.ref a] H (fun v _ => v = .bl true) fun _ _ _ => False)
    (none_ : ∀ (w : World) (G : Hp) (s0 : Shared) (er : Value) (s1 : Shared), CX w [] G s0 (fun _ _ _ => False) er s1 → False) : PySem.W.WalkO q loose XP YP l.row.toRowW d [] (fun f vs => PySem.call f vs) := by
  refine walk_ofT (x := x) most line plain room keeps ?_ none_
  intro w mg fa h _ K1 ns1 _ at_
  obtain ⟨fd, binds, F⟩ := def_ w mg fa h K1 ns1 at_
  exact ⟨fd, [], sp w, by simp, by simp, by simp, binds, fun H a ns few _ list => asked w H a ns few list, fun base KB nsB _ => F base KB nsB⟩
end L2

namespace S11
open PySem L2 GM
open PyProof.Rows
open LamX (Tabs TabB)
section
variable {P : Program} {w : World} {K : PySem.W.Frag} {mg : Str → Option Value} {base : Heap}
theorem df_of {x : Str} {ps : List Str} {k : Nat} {sp : Sp} {f : Addr} {fd : FuncData} {st : Stmt} (F : Fun K x x st f fd) (hm : mg x = some (.ref f)) (b : Binds K fd ps []) (G : FnOk P w K mg base CX0 k f fd ps sp) : Df P w K mg base x ps k sp := ⟨f, fd, hm, F.kp, b, G⟩
theorem dfG_of {x : Str} {ps : List Str} {k : Nat} {sp : Sp} {f : Addr} {fd : FuncData} {st : Stmt} (F : Fun K x x st f fd) (hm : mg x = some (.ref f)) (b : Binds K fd ps []) (G : FnG P w K mg base CX0 k f fd ps sp) : DfG P w K mg base x ps k sp := ⟨f, fd, hm, F.kp, b, G⟩
theorem raw0 {f : Addr} {fd : FuncData} {ps : List Str} {j k : Nat} {sp : Sp} (G : FnOk P w K mg base CX0 j f fd ps sp) (b : Binds K fd ps []) (h : j ≤ k) : FnR P w K mg base CX0 k f sp := FnR.mono (FnR.imp (FnOk.raw (dvs := []) G b .nil) fun vs H Q E h => by rw [List.append_nil]; exact h) h
theorem kit_tr {C : Addr} {T : String} {b : Bool} (i : PySem.W.isClsIn K C = true) (t : PySem.W.typeIn K (.ref C) = some (.type "type")) (h : PySem.W.subIn K (.type T) (.ref C) = some b) : PySem.W.kitOne K (.type T) (.ref C) = some b := by
  unfold PySem.W.kitOne
  rw [if_neg (by simp)]
  show (if ((PySem.W.clsIn K C).isSome && PySem.W.typeIn K (.ref C) == some (.type "type")) = true then PySem.W.subIn K (.type T) (.ref C) else none) = some b
  rw [if_pos (by rw [t]; show ((PySem.W.clsIn K C).isSome && _) = true; unfold PySem.W.isClsIn at i; rw [i]; simp)]
  exact h
theorem exm_self {C : Addr} (e : PySem.W.subIn K (.ref C) (.type "BaseException") = some true) (i : PySem.W.isClsIn K C = true) (t : PySem.W.typeIn K (.ref C) = some (.type "type")) (h : PySem.W.subIn K (.ref C) (.ref C) = some true) : PySem.W.exmOne K (.ref C) (.ref C) = some true := by
  unfold PySem.W.exmOne
  rw [if_pos (by rw [e]; simp)]
  show (if ((PySem.W.clsIn K C).isSome && PySem.W.typeIn K (.ref C) == some (.type "type")) = true then PySem.W.subIn K (.ref C) (.ref C) else none) = some true
  rw [if_pos (by rw [t]; unfold PySem.W.isClsIn at i; rw [i]; simp)]
  exact h
end
section
variable {P : Program} {w : World} {K : PySem.W.Frag} {mg : Str → Option Value} {base : Heap}
theorem exm_no {C S : Addr} (e : PySem.W.subIn K (.ref S) (.type "BaseException") = some true) (i : PySem.W.isClsIn K S = true) (t : PySem.W.typeIn K (.ref S) = some (.type "type")) (h : PySem.W.subIn K (.ref C) (.ref S) = some false) : PySem.W.exmOne K (.ref C) (.ref S) = some false := by
  unfold PySem.W.exmOne
  rw [if_pos (by rw [e]; simp)]
  show (if ((PySem.W.clsIn K S).isSome && PySem.W.typeIn K (.ref S) == some (.type "type")) = true then PySem.W.subIn K (.ref C) (.ref S) else none) = some false
  rw [if_pos (by rw [t]; unfold PySem.W.isClsIn at i; rw [i]; simp)]
  exact h
theorem kit_rr {C S : Addr} (i : PySem.W.isClsIn K S = true) (t : PySem.W.typeIn K (.ref S) = some (.type "type")) (h : PySem.W.subIn K (.ref C) (.ref S) = some true) : PySem.W.kitOne K (.ref C) (.ref S) = some true := by
  by_cases e : C = S
  · rw [e]; exact kit_self
  · unfold PySem.W.kitOne
    rw [if_neg (by simpa using e)]
    show (if ((PySem.W.clsIn K S).isSome && PySem.W.typeIn K (.ref S) == some (.type "type")) = true then PySem.W.subIn K (.ref C) (.ref S) else none) = some true
    rw [if_pos (by rw [t]; show ((PySem.W.clsIn K S).isSome && _) = true; unfold PySem.W.isClsIn at i; rw [i]; simp)]
    exact h
theorem all3 {α : Type} {R : α → Prop} {a b c : α} (ha : R a) (hb : R b) (hc : R c) : ∀ p ∈ [a, b, c], R p := fun p hp => by
  simp only [List.mem_cons, List.not_mem_nil, or_false] at hp
  rcases hp with rfl | rfl | rfl <;> assumption
theorem dfE_of {x : Str} {ps : List Str} {k : Nat} {sp : Sp} {f : Addr} {fd : FuncData} {st : Stmt} (F : Fun K x x st f fd) (hm : mg x = some (.ref f)) (b : Binds K fd ps []) (G : FnG P w K mg base (L2.CX P w) k f fd ps sp) : DfE P w K mg base x ps k sp := ⟨f, fd, hm, F.kp, b, G⟩
end
theorem all_mk {l : PySem.W.OpenLaw} {w : World} {K : PySem.W.Frag} {h : Heap} {mg : Str → Option Value} {q : Program} {fa f0 f1 f2 f3 f4 f5 f6 f7 f8 f9 f10 f11 f12 f13 f14 f15 f16 f17 f18 f19 f20 f21 f22 f23 co1 Pt1 f24 co2 Pt2 f25 f26 co3 Pt3 C fm0 fm1 fm2 fm3 fm4 fm5 fm6 fm7 fm8 qmp0 fmp0 fmin qsy fsy qal fal qak fak DP eDP cDP xDP S2 DN eDN cDN xDN DC eDC cDC xDC DV eDV cDV xDV : Addr} (X : K.In h) (G : h.Ns mainGlobals mg) (TT : ∀ (d' : DefRec) (x : Str) (c P : Addr), (recsOf q).find? (fun e => e.name == x) = some d' → PySem.W.tabIn K x = some (c, P) → PySem.W.CodeHd h c P ∧ h.get? P = some emptyTab)
    (hrec1 : ((recsOf q).find? (fun e => e.name == ("_law_places_refused" : Str))).isSome = true)
    (hrec2 : ((recsOf q).find? (fun e => e.name == ("_law_makers_refused" : Str))).isSome = true)
    (hrec3 : ((recsOf q).find? (fun e => e.name == ("law" : Str))).isSome = true)
    (hfa : mg "law" = some (.ref fa))
    {od0 an0 : Option Addr} {sl0 : Array (Option Value)} {oc0 kV0 dc0 pm0 cd0 ct0 : Value}
    {od1 an1 : Option Addr} {sl1 : Array (Option Value)} {oc1 kV1 dc1 pm1 cd1 ct1 : Value}
    {od2 an2 : Option Addr} {sl2 : Array (Option Value)} {oc2 kV2 dc2 pm2 cd2 ct2 : Value}
    {od3 an3 : Option Addr} {sl3 : Array (Option Value)} {oc3 kV3 dc3 pm3 cd3 ct3 : Value}
    {od4 an4 : Option Addr} {sl4 : Array (Option Value)} {oc4 kV4 dc4 pm4 cd4 ct4 : Value}
    {od5 an5 : Option Addr} {sl5 : Array (Option Value)} {oc5 kV5 dc5 pm5 cd5 ct5 : Value}
    {od6 an6 : Option Addr} {sl6 : Array (Option Value)} {oc6 kV6 dc6 pm6 cd6 ct6 : Value}
    {od7 an7 : Option Addr} {sl7 : Array (Option Value)} {oc7 kV7 dc7 pm7 cd7 ct7 : Value}
    {od8 an8 : Option Addr} {sl8 : Array (Option Value)} {oc8 kV8 dc8 pm8 cd8 ct8 : Value}
    {od9 an9 : Option Addr} {sl9 : Array (Option Value)} {oc9 kV9 dc9 pm9 cd9 ct9 : Value}
    {od10 an10 : Option Addr} {sl10 : Array (Option Value)} {oc10 kV10 dc10 pm10 cd10 ct10 : Value}
    {od11 an11 : Option Addr} {sl11 : Array (Option Value)} {oc11 kV11 dc11 pm11 cd11 ct11 : Value}
    {od12 an12 : Option Addr} {sl12 : Array (Option Value)} {oc12 kV12 dc12 pm12 cd12 ct12 : Value}
    {od13 an13 : Option Addr} {sl13 : Array (Option Value)} {oc13 kV13 dc13 pm13 cd13 ct13 : Value}
    {od14 an14 : Option Addr} {sl14 : Array (Option Value)} {oc14 kV14 dc14 pm14 cd14 ct14 : Value}
    {od15 an15 : Option Addr} {sl15 : Array (Option Value)} {oc15 kV15 dc15 pm15 cd15 ct15 : Value}
    {od16 an16 : Option Addr} {sl16 : Array (Option Value)} {oc16 kV16 dc16 pm16 cd16 ct16 : Value}
    {od17 an17 : Option Addr} {sl17 : Array (Option Value)} {oc17 kV17 dc17 pm17 cd17 ct17 : Value}
    {od18 an18 : Option Addr} {sl18 : Array (Option Value)} {oc18 kV18 dc18 pm18 cd18 ct18 : Value}
    {od19 an19 : Option Addr} {sl19 : Array (Option Value)} {oc19 kV19 dc19 pm19 cd19 ct19 : Value}
    {od20 an20 : Option Addr} {sl20 : Array (Option Value)} {oc20 kV20 dc20 pm20 cd20 ct20 : Value}
    {od21 an21 : Option Addr} {sl21 : Array (Option Value)} {oc21 kV21 dc21 pm21 cd21 ct21 : Value}
    {od22 an22 : Option Addr} {sl22 : Array (Option Value)} {oc22 kV22 dc22 pm22 cd22 ct22 : Value}
    {od23 an23 : Option Addr} {sl23 : Array (Option Value)} {oc23 kV23 dc23 pm23 ct23 : Value}
    {ok11 : Value} {ok21 : Option Addr} {ovs1 : Array Value} {ok31 : Array (Option Value)}
    {od24 an24 : Option Addr} {sl24 : Array (Option Value)} {oc24 kV24 dc24 pm24 ct24 : Value}
    {ok12 : Value} {ok22 : Option Addr} {ovs2 : Array Value} {ok32 : Array (Option Value)}
    {od25 an25 : Option Addr} {sl25 : Array (Option Value)} {oc25 kV25 dc25 pm25 cd25 ct25 : Value}
    {od26 an26 : Option Addr} {sl26 : Array (Option Value)} {oc26 kV26 dc26 pm26 ct26 : Value}
    {ok13 : Value} {ok23 : Option Addr} {ovs3 : Array Value} {ok33 : Array (Option Value)}
    {odm0 anm0 : Option Addr} {slm0 : Array (Option Value)} {ocm0 kVm0 dcm0 pmm0 cdm0 ctm0 : Value}
    {odm1 anm1 : Option Addr} {slm1 : Array (Option Value)} {ocm1 kVm1 dcm1 pmm1 cdm1 ctm1 : Value}
    {odm2 anm2 : Option Addr} {slm2 : Array (Option Value)} {ocm2 kVm2 dcm2 pmm2 cdm2 ctm2 : Value}
    {odm3 anm3 : Option Addr} {slm3 : Array (Option Value)} {ocm3 kVm3 dcm3 pmm3 cdm3 ctm3 : Value}
    {odm4 anm4 : Option Addr} {slm4 : Array (Option Value)} {ocm4 kVm4 dcm4 pmm4 cdm4 ctm4 : Value}
    {odm5 anm5 : Option Addr} {slm5 : Array (Option Value)} {ocm5 kVm5 dcm5 pmm5 cdm5 ctm5 : Value}
    {odm6 anm6 : Option Addr} {slm6 : Array (Option Value)} {ocm6 kVm6 dcm6 pmm6 cdm6 ctm6 : Value}
    {odm7 anm7 : Option Addr} {slm7 : Array (Option Value)} {ocm7 kVm7 dcm7 pmm7 cdm7 ctm7 : Value}
    {odm8 anm8 : Option Addr} {slm8 : Array (Option Value)} {ocm8 kVm8 dcm8 pmm8 cdm8 ctm8 : Value}
    {rmp0 : List Value}
    {odmp0 anmp0 : Option Addr} {slmp0 : Array (Option Value)} {ocmp0 kVmp0 dcmp0 pmmp0 cdmp0 ctmp0 : Value}
    {odmin anmin : Option Addr} {slmin : Array (Option Value)} {ocmin kVmin dcmin pmmin cdmin ctmin : Value}
    {rsy : List Value}
    {odsy ansy : Option Addr} {slsy : Array (Option Value)} {ocsy kVsy dcsy pmsy cdsy ctsy : Value}
    {ral : List Value}
    {odal anal : Option Addr} {slal : Array (Option Value)} {ocal kVal dcal pmal cdal ctal : Value}
    {rak : List Value}
    {odak anak : Option Addr} {slak : Array (Option Value)} {ocak kVak dcak pmak cdak ctak : Value}
    {znmDP zqDP : _} {zNDP : _} {zbsDP : _} {zsnDP : _} {zsubDP : _} {zabDP : _} {zcolDP : _} {zddDP : _} {z0DP z1DP z2DP z3DP z5DP : _}
    {odXDP anXDP : Option Addr} {slXDP : Array (Option Value)} {ocXDP kVXDP dcXDP pmXDP ctXDP : Value}
    {clXDP : Option Addr} {csXDP : Array (Option Value)}
    {ck1DP : Value} {ck2DP : Option Addr} {vsXDP : Array Value} {ck3DP : Array (Option Value)} {flXDP : Str} {tfXDP : Tok}
    {znmDN zqDN : _} {zNDN : _} {zbsDN : _} {zsnDN : _} {zsubDN : _} {zabDN : _} {zcolDN : _} {zddDN : _} {z0DN z1DN z2DN z3DN z5DN : _}
    {odXDN anXDN : Option Addr} {slXDN : Array (Option Value)} {ocXDN kVXDN dcXDN pmXDN ctXDN : Value}
    {clXDN : Option Addr} {csXDN : Array (Option Value)}
    {ck1DN : Value} {ck2DN : Option Addr} {vsXDN : Array Value} {ck3DN : Array (Option Value)} {flXDN : Str} {tfXDN : Tok}
    {znmDC zqDC : _} {zNDC : _} {zbsDC : _} {zsnDC : _} {zsubDC : _} {zabDC : _} {zcolDC : _} {zddDC : _} {z0DC z1DC z2DC z3DC z5DC : _}
    {odXDC anXDC : Option Addr} {slXDC : Array (Option Value)} {ocXDC kVXDC dcXDC pmXDC ctXDC : Value}
    {clXDC : Option Addr} {csXDC : Array (Option Value)}
    {ck1DC : Value} {ck2DC : Option Addr} {vsXDC : Array Value} {ck3DC : Array (Option Value)} {flXDC : Str} {tfXDC : Tok}
    {znmDV zqDV : _} {zNDV : _} {zbsDV : _} {zsnDV : _} {zsubDV : _} {zabDV : _} {zcolDV : _} {zddDV : _} {z0DV z1DV z2DV z3DV z5DV : _}
    {odXDV anXDV : Option Addr} {slXDV : Array (Option Value)} {ocXDV kVXDV dcXDV pmXDV ctXDV : Value}
    {clXDV : Option Addr} {csXDV : Array (Option Value)}
    {ck1DV : Value} {ck2DV : Option Addr} {vsXDV : Array Value} {ck3DV : Array (Option Value)} {flXDV : Str} {tfXDV : Tok}
    {tkLt : Tok}
    {tkLo : Tok}
    {tkMo : Tok}
    (a0 : PySem.W.nsIn K mainGlobals "is_integer" = some (some (.ref f0)))
    (l0 : K.lookup f0 = some ⟨oc0, od0, .func (PySem.W.fnOf "is_integer" "is_integer" (defArgs sIsInt) (defBody sIsInt) (defScope sIsInt) .none kV0 dc0 pm0 an0 cd0 ct0), sl0⟩)
    (c0 : PySem.W.codeIn K cd0 "is_integer" = true)
    (k0 : PySem.W.keepIn K (.ref f0) = true)
    (a1 : PySem.W.nsIn K mainGlobals "is_count" = some (some (.ref f1)))
    (l1 : K.lookup f1 = some ⟨oc1, od1, .func (PySem.W.fnOf "is_count" "is_count" (defArgs sIsCount) (defBody sIsCount) (defScope sIsCount) .none kV1 dc1 pm1 an1 cd1 ct1), sl1⟩)
    (c1 : PySem.W.codeIn K cd1 "is_count" = true)
    (k1 : PySem.W.keepIn K (.ref f1) = true)
    (a2 : PySem.W.nsIn K mainGlobals "is_name" = some (some (.ref f2)))
    (l2 : K.lookup f2 = some ⟨oc2, od2, .func (PySem.W.fnOf "is_name" "is_name" (defArgs sIsName) (defBody sIsName) (defScope sIsName) .none kV2 dc2 pm2 an2 cd2 ct2), sl2⟩)
    (c2 : PySem.W.codeIn K cd2 "is_name" = true)
    (k2 : PySem.W.keepIn K (.ref f2) = true)
    (a3 : PySem.W.nsIn K mainGlobals "is_list" = some (some (.ref f3)))
    (l3 : K.lookup f3 = some ⟨oc3, od3, .func (PySem.W.fnOf "is_list" "is_list" (defArgs sIsList) (defBody sIsList) (defScope sIsList) .none kV3 dc3 pm3 an3 cd3 ct3), sl3⟩)
    (c3 : PySem.W.codeIn K cd3 "is_list" = true)
    (k3 : PySem.W.keepIn K (.ref f3) = true)
    (a4 : PySem.W.nsIn K mainGlobals "want_name" = some (some (.ref f4)))
    (l4 : K.lookup f4 = some ⟨oc4, od4, .func (PySem.W.fnOf "want_name" "want_name" (defArgs sWantName) (defBody sWantName) (defScope sWantName) .none kV4 dc4 pm4 an4 cd4 ct4), sl4⟩)
    (c4 : PySem.W.codeIn K cd4 "want_name" = true)
    (k4 : PySem.W.keepIn K (.ref f4) = true)
    (a5 : PySem.W.nsIn K mainGlobals "want_slots" = some (some (.ref f5)))
    (l5 : K.lookup f5 = some ⟨oc5, od5, .func (PySem.W.fnOf "want_slots" "want_slots" (defArgs sWantSlots) (defBody sWantSlots) (defScope sWantSlots) .none kV5 dc5 pm5 an5 cd5 ct5), sl5⟩)
    (c5 : PySem.W.codeIn K cd5 "want_slots" = true)
    (k5 : PySem.W.keepIn K (.ref f5) = true)
    (a6 : PySem.W.nsIn K mainGlobals "is_order" = some (some (.ref f6)))
    (l6 : K.lookup f6 = some ⟨oc6, od6, .func (PySem.W.fnOf "is_order" "is_order" (defArgs sIsOrder) (defBody sIsOrder) (defScope sIsOrder) .none kV6 dc6 pm6 an6 cd6 ct6), sl6⟩)
    (c6 : PySem.W.codeIn K cd6 "is_order" = true)
    (k6 : PySem.W.keepIn K (.ref f6) = true)
    (a7 : PySem.W.nsIn K mainGlobals "is_turn" = some (some (.ref f7)))
    (l7 : K.lookup f7 = some ⟨oc7, od7, .func (PySem.W.fnOf "is_turn" "is_turn" (defArgs sIsTurn) (defBody sIsTurn) (defScope sIsTurn) .none kV7 dc7 pm7 an7 cd7 ct7), sl7⟩)
    (c7 : PySem.W.codeIn K cd7 "is_turn" = true)
    (k7 : PySem.W.keepIn K (.ref f7) = true)
    (a8 : PySem.W.nsIn K mainGlobals "moved" = some (some (.ref f8)))
    (l8 : K.lookup f8 = some ⟨oc8, od8, .func (PySem.W.fnOf "moved" "moved" (defArgs sMoved) (defBody sMoved) (defScope sMoved) .none kV8 dc8 pm8 an8 cd8 ct8), sl8⟩)
    (c8 : PySem.W.codeIn K cd8 "moved" = true)
    (k8 : PySem.W.keepIn K (.ref f8) = true)
    (a9 : PySem.W.nsIn K mainGlobals "closed_group" = some (some (.ref f9)))
    (l9 : K.lookup f9 = some ⟨oc9, od9, .func (PySem.W.fnOf "closed_group" "closed_group" (defArgs sClosed) (defBody sClosed) (defScope sClosed) .none kV9 dc9 pm9 an9 cd9 ct9), sl9⟩)
    (c9 : PySem.W.codeIn K cd9 "closed_group" = true)
    (k9 : PySem.W.keepIn K (.ref f9) = true)
    (a10 : PySem.W.nsIn K mainGlobals "neighbour_orders" = some (some (.ref f10)))
    (l10 : K.lookup f10 = some ⟨oc10, od10, .func (PySem.W.fnOf "neighbour_orders" "neighbour_orders" (defArgs sNeigh) (defBody sNeigh) (defScope sNeigh) .none kV10 dc10 pm10 an10 cd10 ct10), sl10⟩)
    (c10 : PySem.W.codeIn K cd10 "neighbour_orders" = true)
    (k10 : PySem.W.keepIn K (.ref f10) = true)
    (a11 : PySem.W.nsIn K mainGlobals "_law_pot" = some (some (.ref f11)))
    (l11 : K.lookup f11 = some ⟨oc11, od11, .func (PySem.W.fnOf "_law_pot" "_law_pot" (defArgs sPot) (defBody sPot) (defScope sPot) .none kV11 dc11 pm11 an11 cd11 ct11), sl11⟩)
    (c11 : PySem.W.codeIn K cd11 "_law_pot" = true)
    (k11 : PySem.W.keepIn K (.ref f11) = true)
    (a12 : PySem.W.nsIn K mainGlobals "_law_draw" = some (some (.ref f12)))
    (l12 : K.lookup f12 = some ⟨oc12, od12, .func (PySem.W.fnOf "_law_draw" "_law_draw" (defArgs sDraw) (defBody sDraw) (defScope sDraw) .none kV12 dc12 pm12 an12 cd12 ct12), sl12⟩)
    (c12 : PySem.W.codeIn K cd12 "_law_draw" = true)
    (k12 : PySem.W.keepIn K (.ref f12) = true)
    (a13 : PySem.W.nsIn K mainGlobals "_law_pick" = some (some (.ref f13)))
    (l13 : K.lookup f13 = some ⟨oc13, od13, .func (PySem.W.fnOf "_law_pick" "_law_pick" (defArgs sPick) (defBody sPick) (defScope sPick) .none kV13 dc13 pm13 an13 cd13 ct13), sl13⟩)
    (c13 : PySem.W.codeIn K cd13 "_law_pick" = true)
    (k13 : PySem.W.keepIn K (.ref f13) = true)
    (a14 : PySem.W.nsIn K mainGlobals "_law_name" = some (some (.ref f14)))
    (l14 : K.lookup f14 = some ⟨oc14, od14, .func (PySem.W.fnOf "_law_name" "_law_name" (defArgs sLName) (defBody sLName) (defScope sLName) .none kV14 dc14 pm14 an14 cd14 ct14), sl14⟩)
    (c14 : PySem.W.codeIn K cd14 "_law_name" = true)
    (k14 : PySem.W.keepIn K (.ref f14) = true)
    (a15 : PySem.W.nsIn K mainGlobals "_law_orders" = some (some (.ref f15)))
    (l15 : K.lookup f15 = some ⟨oc15, od15, .func (PySem.W.fnOf "_law_orders" "_law_orders" (defArgs sOrders) (defBody sOrders) (defScope sOrders) .none kV15 dc15 pm15 an15 cd15 ct15), sl15⟩)
    (c15 : PySem.W.codeIn K cd15 "_law_orders" = true)
    (k15 : PySem.W.keepIn K (.ref f15) = true)
    (a16 : PySem.W.nsIn K mainGlobals "_law_parity" = some (some (.ref f16)))
    (l16 : K.lookup f16 = some ⟨oc16, od16, .func (PySem.W.fnOf "_law_parity" "_law_parity" (defArgs sParity) (defBody sParity) (defScope sParity) .none kV16 dc16 pm16 an16 cd16 ct16), sl16⟩)
    (c16 : PySem.W.codeIn K cd16 "_law_parity" = true)
    (k16 : PySem.W.keepIn K (.ref f16) = true)
    (a17 : PySem.W.nsIn K mainGlobals "_law_moved" = some (some (.ref f17)))
    (l17 : K.lookup f17 = some ⟨oc17, od17, .func (PySem.W.fnOf "_law_moved" "_law_moved" (defArgs sLMoved) (defBody sLMoved) (defScope sLMoved) .none kV17 dc17 pm17 an17 cd17 ct17), sl17⟩)
    (c17 : PySem.W.codeIn K cd17 "_law_moved" = true)
    (k17 : PySem.W.keepIn K (.ref f17) = true)
    (a18 : PySem.W.nsIn K mainGlobals "_law_least" = some (some (.ref f18)))
    (l18 : K.lookup f18 = some ⟨oc18, od18, .func (PySem.W.fnOf "_law_least" "_law_least" (defArgs sLLeast) (defBody sLLeast) (defScope sLLeast) .none kV18 dc18 pm18 an18 cd18 ct18), sl18⟩)
    (c18 : PySem.W.codeIn K cd18 "_law_least" = true)
    (k18 : PySem.W.keepIn K (.ref f18) = true)
    (a19 : PySem.W.nsIn K mainGlobals "_law_places" = some (some (.ref f19)))
    (l19 : K.lookup f19 = some ⟨oc19, od19, .func (PySem.W.fnOf "_law_places" "_law_places" (defArgs sLPlaces) (defBody sLPlaces) (defScope sLPlaces) .none kV19 dc19 pm19 an19 cd19 ct19), sl19⟩)
    (c19 : PySem.W.codeIn K cd19 "_law_places" = true)
    (k19 : PySem.W.keepIn K (.ref f19) = true)
    (a20 : PySem.W.nsIn K mainGlobals "_law_is" = some (some (.ref f20)))
    (l20 : K.lookup f20 = some ⟨oc20, od20, .func (PySem.W.fnOf "_law_is" "_law_is" (defArgs sIs) (defBody sIs) (defScope sIs) .none kV20 dc20 pm20 an20 cd20 ct20), sl20⟩)
    (c20 : PySem.W.codeIn K cd20 "_law_is" = true)
    (k20 : PySem.W.keepIn K (.ref f20) = true)
    (a21 : PySem.W.nsIn K mainGlobals "_law_other_way" = some (some (.ref f21)))
    (l21 : K.lookup f21 = some ⟨oc21, od21, .func (PySem.W.fnOf "_law_other_way" "_law_other_way" (defArgs sOther) (defBody sOther) (defScope sOther) .none kV21 dc21 pm21 an21 cd21 ct21), sl21⟩)
    (c21 : PySem.W.codeIn K cd21 "_law_other_way" = true)
    (k21 : PySem.W.keepIn K (.ref f21) = true)
    (a22 : PySem.W.nsIn K mainGlobals "_law_group_right" = some (some (.ref f22)))
    (l22 : K.lookup f22 = some ⟨oc22, od22, .func (PySem.W.fnOf "_law_group_right" "_law_group_right" (defArgs sGroup) (defBody sGroup) (defScope sGroup) .none kV22 dc22 pm22 an22 cd22 ct22), sl22⟩)
    (c22 : PySem.W.codeIn K cd22 "_law_group_right" = true)
    (k22 : PySem.W.keepIn K (.ref f22) = true)
    (a23 : PySem.W.nsIn K mainGlobals "_law_places_refused" = some (some (.ref f23)))
    (l23 : K.lookup f23 = some ⟨oc23, od23, .func (PySem.W.fnOf "_law_places_refused" "_law_places_refused" (defArgs sPlRef) (defBody sPlRef) (defScope sPlRef) .none kV23 dc23 pm23 an23 (.ref co1) ct23), sl23⟩)
    (c23 : PySem.W.codeIn K (.ref co1) "_law_places_refused" = true)
    (k23 : PySem.W.keepIn K (.ref f23) = true)
    (lco1 : K.lookup co1 = some ⟨ok11, ok21, .fields ovs1, ok31⟩)
    (hco1 : (ovs1[11]? : Option Value) = some (.ref Pt1))
    (nPt1 : K.lookup Pt1 = none)
    (a24 : PySem.W.nsIn K mainGlobals "_law_makers_refused" = some (some (.ref f24)))
    (l24 : K.lookup f24 = some ⟨oc24, od24, .func (PySem.W.fnOf "_law_makers_refused" "_law_makers_refused" (defArgs sMkRef) (defBody sMkRef) (defScope sMkRef) .none kV24 dc24 pm24 an24 (.ref co2) ct24), sl24⟩)
    (c24 : PySem.W.codeIn K (.ref co2) "_law_makers_refused" = true)
    (k24 : PySem.W.keepIn K (.ref f24) = true)
    (lco2 : K.lookup co2 = some ⟨ok12, ok22, .fields ovs2, ok32⟩)
    (hco2 : (ovs2[11]? : Option Value) = some (.ref Pt2))
    (nPt2 : K.lookup Pt2 = none)
    (a25 : PySem.W.nsIn K mainGlobals "_law_named_right" = some (some (.ref f25)))
    (l25 : K.lookup f25 = some ⟨oc25, od25, .func (PySem.W.fnOf "_law_named_right" "_law_named_right" (defArgs sNamed) (defBody sNamed) (defScope sNamed) .none kV25 dc25 pm25 an25 cd25 ct25), sl25⟩)
    (c25 : PySem.W.codeIn K cd25 "_law_named_right" = true)
    (k25 : PySem.W.keepIn K (.ref f25) = true)
    (a26 : PySem.W.nsIn K mainGlobals "law" = some (some (.ref f26)))
    (l26 : K.lookup f26 = some ⟨oc26, od26, .func (PySem.W.fnOf "law" "law" (defArgs sLaw) (defBody sLaw) (defScope sLaw) .none kV26 dc26 pm26 an26 (.ref co3) ct26), sl26⟩)
    (c26 : PySem.W.codeIn K (.ref co3) "law" = true)
    (k26 : PySem.W.keepIn K (.ref f26) = true)
    (lco3 : K.lookup co3 = some ⟨ok13, ok23, .fields ovs3, ok33⟩)
    (hco3 : (ovs3[11]? : Option Value) = some (.ref Pt3))
    (nPt3 : K.lookup Pt3 = none)
    (aC : PySem.W.nsIn K mainGlobals "Table" = some (some (.ref C)))
    (am0 : PySem.W.findIn K (.ref C) "slots" = some (some (.ref fm0)))
    (im0 : PySem.W.isFn K (.ref fm0) = true)
    (lm0 : K.lookup fm0 = some ⟨ocm0, odm0, .func (PySem.W.fnOf "slots" "Table.slots" (defArgs sTSlots) (defBody sTSlots) (defScope sTSlots) .none kVm0 dcm0 pmm0 anm0 cdm0 ctm0), slm0⟩)
    (cm0 : PySem.W.codeIn K cdm0 "Table.slots" = true)
    (km0 : PySem.W.keepIn K (.ref fm0) = true)
    (am1 : PySem.W.findIn K (.ref C) "turns" = some (some (.ref fm1)))
    (im1 : PySem.W.isFn K (.ref fm1) = true)
    (lm1 : K.lookup fm1 = some ⟨ocm1, odm1, .func (PySem.W.fnOf "turns" "Table.turns" (defArgs sTTurns) (defBody sTTurns) (defScope sTTurns) .none kVm1 dcm1 pmm1 anm1 cdm1 ctm1), slm1⟩)
    (cm1 : PySem.W.codeIn K cdm1 "Table.turns" = true)
    (km1 : PySem.W.keepIn K (.ref fm1) = true)
    (am2 : PySem.W.findIn K (.ref C) "is_slot_places" = some (some (.ref fm2)))
    (im2 : PySem.W.isFn K (.ref fm2) = true)
    (lm2 : K.lookup fm2 = some ⟨ocm2, odm2, .func (PySem.W.fnOf "is_slot_places" "Table.is_slot_places" (defArgs sTIsPl) (defBody sTIsPl) (defScope sTIsPl) .none kVm2 dcm2 pmm2 anm2 cdm2 ctm2), slm2⟩)
    (cm2 : PySem.W.codeIn K cdm2 "Table.is_slot_places" = true)
    (km2 : PySem.W.keepIn K (.ref fm2) = true)
    (am3 : PySem.W.findIn K (.ref C) "want_places" = some (some (.ref fm3)))
    (im3 : PySem.W.isFn K (.ref fm3) = true)
    (lm3 : K.lookup fm3 = some ⟨ocm3, odm3, .func (PySem.W.fnOf "want_places" "Table.want_places" (defArgs sTWant) (defBody sTWant) (defScope sTWant) .none kVm3 dcm3 pmm3 anm3 cdm3 ctm3), slm3⟩)
    (cm3 : PySem.W.codeIn K cdm3 "Table.want_places" = true)
    (km3 : PySem.W.keepIn K (.ref fm3) = true)
    (am4 : PySem.W.findIn K (.ref C) "least" = some (some (.ref fm4)))
    (im4 : PySem.W.isFn K (.ref fm4) = true)
    (lm4 : K.lookup fm4 = some ⟨ocm4, odm4, .func (PySem.W.fnOf "least" "Table.least" (defArgs sTLeast) (defBody sTLeast) (defScope sTLeast) .none kVm4 dcm4 pmm4 anm4 cdm4 ctm4), slm4⟩)
    (cm4 : PySem.W.codeIn K cdm4 "Table.least" = true)
    (km4 : PySem.W.keepIn K (.ref fm4) = true)
    (am5 : PySem.W.findIn K (.ref C) "class_of" = some (some (.ref fm5)))
    (im5 : PySem.W.isFn K (.ref fm5) = true)
    (lm5 : K.lookup fm5 = some ⟨ocm5, odm5, .func (PySem.W.fnOf "class_of" "Table.class_of" (defArgs sTClass) (defBody sTClass) (defScope sTClass) .none kVm5 dcm5 pmm5 anm5 cdm5 ctm5), slm5⟩)
    (cm5 : PySem.W.codeIn K cdm5 "Table.class_of" = true)
    (km5 : PySem.W.keepIn K (.ref fm5) = true)
    (am6 : PySem.W.findIn K (.ref C) "renamed" = some (some (.ref fm6)))
    (im6 : PySem.W.isFn K (.ref fm6) = true)
    (lm6 : K.lookup fm6 = some ⟨ocm6, odm6, .func (PySem.W.fnOf "renamed" "Table.renamed" (defArgs sTNamed) (defBody sTNamed) (defScope sTNamed) .none kVm6 dcm6 pmm6 anm6 cdm6 ctm6), slm6⟩)
    (cm6 : PySem.W.codeIn K cdm6 "Table.renamed" = true)
    (km6 : PySem.W.keepIn K (.ref fm6) = true)
    (am7 : PySem.W.findIn K (.ref C) "__eq__" = some (some (.ref fm7)))
    (im7 : PySem.W.isFn K (.ref fm7) = true)
    (lm7 : K.lookup fm7 = some ⟨ocm7, odm7, .func (PySem.W.fnOf "__eq__" "Table.__eq__" (defArgs sTEq) (defBody sTEq) (defScope sTEq) .none kVm7 dcm7 pmm7 anm7 cdm7 ctm7), slm7⟩)
    (cm7 : PySem.W.codeIn K cdm7 "Table.__eq__" = true)
    (km7 : PySem.W.keepIn K (.ref fm7) = true)
    (am8 : PySem.W.findIn K (.ref C) "__repr__" = some (some (.ref fm8)))
    (im8 : PySem.W.isFn K (.ref fm8) = true)
    (lm8 : K.lookup fm8 = some ⟨ocm8, odm8, .func (PySem.W.fnOf "__repr__" "Table.__repr__" (defArgs sTRepr) (defBody sTRepr) (defScope sTRepr) .none kVm8 dcm8 pmm8 anm8 cdm8 ctm8), slm8⟩)
    (cm8 : PySem.W.codeIn K cdm8 "Table.__repr__" = true)
    (km8 : PySem.W.keepIn K (.ref fm8) = true)
    (amp0 : PySem.W.findIn K (.ref C) "changes_sign" = some (some (.ref qmp0)))
    (gmp0 : PySem.W.specialIn K (.ref qmp0) "__get__" = some (some (.builtin "property.__get__")))
    (tmp0 : PySem.W.takesIn K (.ref qmp0) = some true)
    (r_mp0 : PySem.W.recIn K qmp0 "property" = some (.ref fmp0 :: rmp0))
    (lmp0 : K.lookup fmp0 = some ⟨ocmp0, odmp0, .func (PySem.W.fnOf "changes_sign" "Table.changes_sign" (defArgs sTSign) (defBody sTSign) (defScope sTSign) .none kVmp0 dcmp0 pmmp0 anmp0 cdmp0 ctmp0), slmp0⟩)
    (cmp0 : PySem.W.codeIn K cdmp0 "Table.changes_sign" = true)
    (kmp0 : PySem.W.keepIn K (.ref fmp0) = true)
    (amin : PySem.W.findIn K (.ref C) "__init__" = some (some (.ref fmin)))
    (imin : PySem.W.isFn K (.ref fmin) = true)
    (lmin : K.lookup fmin = some ⟨ocmin, odmin, .func (PySem.W.fnOf "__init__" "Table.__init__" (defArgs sTInit) (defBody sTInit) (defScope sTInit) .none kVmin dcmin pmmin anmin cdmin ctmin), slmin⟩)
    (cmin : PySem.W.codeIn K cdmin "Table.__init__" = true)
    (kmin : PySem.W.keepIn K (.ref fmin) = true)
    (pgC : PySem.W.plainGet K C Str.empty = true)
    (hdC : PySem.W.hasDictIn K C = true)
    (poC : PySem.W.plainOver K C = true)
    (saC : PySem.W.findIn K (.ref C) "__setattr__" = some (some (.builtin "object.__setattr__")))
    (mkC : PySem.W.makesIn K C = true)
    (kcC : PySem.W.keepIn K (.ref C) = true)
    (icC : PySem.W.findIn K (.ref C) "__class__" = some (some (.builtin "object.__class__")))
    (moC : PySem.W.mroIn K C (.type "object") = some true)
    (jcC : PySem.W.isClsIn K C = true)
    (tcC : PySem.W.typeIn K (.ref C) = some (.type "type"))
    (nC_name : PySem.W.findIn K (.ref C) "name" = some none)
    (nC_own_slots : PySem.W.findIn K (.ref C) "own_slots" = some none)
    (nC_own_turns : PySem.W.findIn K (.ref C) "own_turns" = some none)
    (suC_NoneType : PySem.W.subIn K (.type "NoneType") (.ref C) = some false)
    (suC_str : PySem.W.subIn K (.type "str") (.ref C) = some false)
    (suC_list : PySem.W.subIn K (.type "list") (.ref C) = some false)
    (nneC : PySem.W.findIn K (.ref C) "__ne__" = some (some (.builtin "object.__ne__")))
    (rdC : PySem.W.readsIn K C (.type "type") = true)
    (gaC : PySem.W.specialIn K (.ref C) "__getattribute__" = some (some (.builtin "type.__getattribute__")))
    (attsy : PySem.W.findCls K (.ref C) (.type "type") "symmetric" = some (.get (.builtin "classmethod.__get__") (.ref qsy) .none (.ref C)))
    (rcsy : PySem.W.recIn K qsy "classmethod" = some (.ref fsy :: rsy))
    (fisy : PySem.W.fnIn K fsy = true)
    (lsy : K.lookup fsy = some ⟨ocsy, odsy, .func (PySem.W.fnOf "symmetric" "Table.symmetric" (defArgs sTSym) (defBody sTSym) (defScope sTSym) .none kVsy dcsy pmsy ansy cdsy ctsy), slsy⟩)
    (csy : PySem.W.codeIn K cdsy "Table.symmetric" = true)
    (ksy : PySem.W.keepIn K (.ref fsy) = true)
    (attal : PySem.W.findCls K (.ref C) (.type "type") "alternating" = some (.get (.builtin "classmethod.__get__") (.ref qal) .none (.ref C)))
    (rcal : PySem.W.recIn K qal "classmethod" = some (.ref fal :: ral))
    (fial : PySem.W.fnIn K fal = true)
    (lal : K.lookup fal = some ⟨ocal, odal, .func (PySem.W.fnOf "alternating" "Table.alternating" (defArgs sTAlt) (defBody sTAlt) (defScope sTAlt) .none kVal dcal pmal anal cdal ctal), slal⟩)
    (cal : PySem.W.codeIn K cdal "Table.alternating" = true)
    (kal : PySem.W.keepIn K (.ref fal) = true)
    (attak : PySem.W.findCls K (.ref C) (.type "type") "alike_slots" = some (.get (.builtin "staticmethod.__get__") (.ref qak) .none (.ref C)))
    (rcak : PySem.W.recIn K qak "staticmethod" = some (.ref fak :: rak))
    (lak : K.lookup fak = some ⟨ocak, odak, .func (PySem.W.fnOf "alike_slots" "Table.alike_slots" (defArgs sTAlike) (defBody sTAlike) (defScope sTAlike) .none kVak dcak pmak anak cdak ctak), slak⟩)
    (cak : PySem.W.codeIn K cdak "Table.alike_slots" = true)
    (kak : PySem.W.keepIn K (.ref fak) = true)
    (gt : PySem.W.specialIn K (.builtin "object.__class__") "__get__" = some (some (.builtin "getset_descriptor.__get__")))
    (tk : PySem.W.takesIn K (.builtin "object.__class__") = some true)
    (aXDP : PySem.W.nsIn K mainGlobals "InvalidPlaces" = some (some (.ref DP)))
    (xXDP : K.lookup DP = some (excClassObj znmDP zqDP DP zNDP zbsDP [.ref S2, .type "ValueError", .type "Exception", .type "BaseException", .type "object"] true zsnDP zsubDP zabDP zcolDP zddDP z0DP z1DP z2DP z3DP z5DP "ValueError.__new__"))
    (saXDP : PySem.W.findIn K (.ref DP) "__setattr__" = some (some (.builtin "object.__setattr__")))
    (eXDP : PySem.W.subIn K (.ref DP) (.type "BaseException") = some true)
    (tXDP : PySem.W.typeIn K (.ref DP) = some (.type "type"))
    (kXDP : PySem.W.keepIn K (.ref DP) = true)
    (jXDP : PySem.W.isClsIn K DP = true)
    (ssXDP : PySem.W.subIn K (.ref DP) (.ref DP) = some true)
    (svXDP : PySem.W.subIn K (.ref DP) (.type "ValueError") = some true)
    (adXDP : PySem.W.findIn K (.ref DP) "__init__" = some (some (.ref eDP)))
    (tdXDP : PySem.W.typeIn K (.ref eDP) = some (.type "function"))
    (ldXDP : K.lookup eDP = some ⟨ocXDP, odXDP, .func (fnC "__init__" "InvalidPlaces.__init__" (defArgs sIPInit) (defBody sIPInit) (defScope sIPInit) .none kVXDP dcXDP pmXDP anXDP (.ref cDP) ctXDP xDP), slXDP⟩)
    (cdXDP : PySem.W.codeIn K (.ref cDP) "InvalidPlaces.__init__" = true)
    (lcXDP : K.lookup xDP = some ⟨.type "cell", clXDP, .cell (some (.ref DP)), csXDP⟩)
    (lkXDP : K.lookup cDP = some ⟨ck1DP, ck2DP, .fields vsXDP, ck3DP⟩)
    (hvXDP : vsXDP[2]? = some (.str flXDP tfXDP))
    (hfXDP : ((l.prog.main.file : Str) == flXDP) = true)
    (spXDP : PySem.W.ks_superIn K DP DP "__init__" = some (some (.builtin "ValueError.__init__")))
    (noDP_value : PySem.W.findIn K (.ref DP) "value" = some none)
    (gaXDP : PySem.W.findIn K (.ref DP) "__getattribute__" = some (some (.builtin "BaseException.__getattribute__")))
    (ggXDP : PySem.W.findIn K (.ref DP) "__getattr__" = some none)
    (hdXDP : PySem.W.hasDictIn K DP = true)
    (aXDN : PySem.W.nsIn K mainGlobals "InvalidName" = some (some (.ref DN)))
    (xXDN : K.lookup DN = some (excClassObj znmDN zqDN DN zNDN zbsDN [.ref S2, .type "ValueError", .type "Exception", .type "BaseException", .type "object"] true zsnDN zsubDN zabDN zcolDN zddDN z0DN z1DN z2DN z3DN z5DN "ValueError.__new__"))
    (saXDN : PySem.W.findIn K (.ref DN) "__setattr__" = some (some (.builtin "object.__setattr__")))
    (eXDN : PySem.W.subIn K (.ref DN) (.type "BaseException") = some true)
    (tXDN : PySem.W.typeIn K (.ref DN) = some (.type "type"))
    (kXDN : PySem.W.keepIn K (.ref DN) = true)
    (jXDN : PySem.W.isClsIn K DN = true)
    (ssXDN : PySem.W.subIn K (.ref DN) (.ref DN) = some true)
    (svXDN : PySem.W.subIn K (.ref DN) (.type "ValueError") = some true)
    (adXDN : PySem.W.findIn K (.ref DN) "__init__" = some (some (.ref eDN)))
    (tdXDN : PySem.W.typeIn K (.ref eDN) = some (.type "function"))
    (ldXDN : K.lookup eDN = some ⟨ocXDN, odXDN, .func (fnC "__init__" "InvalidName.__init__" (defArgs sINInit) (defBody sINInit) (defScope sINInit) .none kVXDN dcXDN pmXDN anXDN (.ref cDN) ctXDN xDN), slXDN⟩)
    (cdXDN : PySem.W.codeIn K (.ref cDN) "InvalidName.__init__" = true)
    (lcXDN : K.lookup xDN = some ⟨.type "cell", clXDN, .cell (some (.ref DN)), csXDN⟩)
    (lkXDN : K.lookup cDN = some ⟨ck1DN, ck2DN, .fields vsXDN, ck3DN⟩)
    (hvXDN : vsXDN[2]? = some (.str flXDN tfXDN))
    (hfXDN : ((l.prog.main.file : Str) == flXDN) = true)
    (spXDN : PySem.W.ks_superIn K DN DN "__init__" = some (some (.builtin "ValueError.__init__")))
    (noDN_value : PySem.W.findIn K (.ref DN) "value" = some none)
    (gaXDN : PySem.W.findIn K (.ref DN) "__getattribute__" = some (some (.builtin "BaseException.__getattribute__")))
    (ggXDN : PySem.W.findIn K (.ref DN) "__getattr__" = some none)
    (hdXDN : PySem.W.hasDictIn K DN = true)
    (aXDC : PySem.W.nsIn K mainGlobals "InvalidCount" = some (some (.ref DC)))
    (xXDC : K.lookup DC = some (excClassObj znmDC zqDC DC zNDC zbsDC [.ref S2, .type "ValueError", .type "Exception", .type "BaseException", .type "object"] true zsnDC zsubDC zabDC zcolDC zddDC z0DC z1DC z2DC z3DC z5DC "ValueError.__new__"))
    (saXDC : PySem.W.findIn K (.ref DC) "__setattr__" = some (some (.builtin "object.__setattr__")))
    (eXDC : PySem.W.subIn K (.ref DC) (.type "BaseException") = some true)
    (tXDC : PySem.W.typeIn K (.ref DC) = some (.type "type"))
    (kXDC : PySem.W.keepIn K (.ref DC) = true)
    (jXDC : PySem.W.isClsIn K DC = true)
    (ssXDC : PySem.W.subIn K (.ref DC) (.ref DC) = some true)
    (svXDC : PySem.W.subIn K (.ref DC) (.type "ValueError") = some true)
    (adXDC : PySem.W.findIn K (.ref DC) "__init__" = some (some (.ref eDC)))
    (tdXDC : PySem.W.typeIn K (.ref eDC) = some (.type "function"))
    (ldXDC : K.lookup eDC = some ⟨ocXDC, odXDC, .func (fnC "__init__" "InvalidCount.__init__" (defArgs sICInit) (defBody sICInit) (defScope sICInit) .none kVXDC dcXDC pmXDC anXDC (.ref cDC) ctXDC xDC), slXDC⟩)
    (cdXDC : PySem.W.codeIn K (.ref cDC) "InvalidCount.__init__" = true)
    (lcXDC : K.lookup xDC = some ⟨.type "cell", clXDC, .cell (some (.ref DC)), csXDC⟩)
    (lkXDC : K.lookup cDC = some ⟨ck1DC, ck2DC, .fields vsXDC, ck3DC⟩)
    (hvXDC : vsXDC[2]? = some (.str flXDC tfXDC))
    (hfXDC : ((l.prog.main.file : Str) == flXDC) = true)
    (spXDC : PySem.W.ks_superIn K DC DC "__init__" = some (some (.builtin "ValueError.__init__")))
    (noDC_value : PySem.W.findIn K (.ref DC) "value" = some none)
    (gaXDC : PySem.W.findIn K (.ref DC) "__getattribute__" = some (some (.builtin "BaseException.__getattribute__")))
    (ggXDC : PySem.W.findIn K (.ref DC) "__getattr__" = some none)
    (hdXDC : PySem.W.hasDictIn K DC = true)
    (aXDV : PySem.W.nsIn K mainGlobals "Vanishing" = some (some (.ref DV)))
    (xXDV : K.lookup DV = some (excClassObj znmDV zqDV DV zNDV zbsDV [.ref S2, .type "ValueError", .type "Exception", .type "BaseException", .type "object"] true zsnDV zsubDV zabDV zcolDV zddDV z0DV z1DV z2DV z3DV z5DV "ValueError.__new__"))
    (saXDV : PySem.W.findIn K (.ref DV) "__setattr__" = some (some (.builtin "object.__setattr__")))
    (eXDV : PySem.W.subIn K (.ref DV) (.type "BaseException") = some true)
    (tXDV : PySem.W.typeIn K (.ref DV) = some (.type "type"))
    (kXDV : PySem.W.keepIn K (.ref DV) = true)
    (jXDV : PySem.W.isClsIn K DV = true)
    (ssXDV : PySem.W.subIn K (.ref DV) (.ref DV) = some true)
    (svXDV : PySem.W.subIn K (.ref DV) (.type "ValueError") = some true)
    (adXDV : PySem.W.findIn K (.ref DV) "__init__" = some (some (.ref eDV)))
    (tdXDV : PySem.W.typeIn K (.ref eDV) = some (.type "function"))
    (ldXDV : K.lookup eDV = some ⟨ocXDV, odXDV, .func (fnC "__init__" "Vanishing.__init__" (defArgs sVInit) (defBody sVInit) (defScope sVInit) .none kVXDV dcXDV pmXDV anXDV (.ref cDV) ctXDV xDV), slXDV⟩)
    (cdXDV : PySem.W.codeIn K (.ref cDV) "Vanishing.__init__" = true)
    (lcXDV : K.lookup xDV = some ⟨.type "cell", clXDV, .cell (some (.ref DV)), csXDV⟩)
    (lkXDV : K.lookup cDV = some ⟨ck1DV, ck2DV, .fields vsXDV, ck3DV⟩)
    (hvXDV : vsXDV[2]? = some (.str flXDV tfXDV))
    (hfXDV : ((l.prog.main.file : Str) == flXDV) = true)
    (spXDV : PySem.W.ks_superIn K DV DV "__init__" = some (some (.builtin "ValueError.__init__")))
    (noDV_name : PySem.W.findIn K (.ref DV) "name" = some none)
    (gaXDV : PySem.W.findIn K (.ref DV) "__getattribute__" = some (some (.builtin "BaseException.__getattribute__")))
    (ggXDV : PySem.W.findIn K (.ref DV) "__getattr__" = some none)
    (hdXDV : PySem.W.hasDictIn K DV = true)
    (clXDP : PySem.W.findIn K (.ref DP) "__class__" = some (some (.builtin "object.__class__")))
    (moXDP : PySem.W.mroIn K DP (.type "object") = some true)
    (sISDP : PySem.W.subIn K (.ref DP) (.ref S2) = some true)
    (clXDN : PySem.W.findIn K (.ref DN) "__class__" = some (some (.builtin "object.__class__")))
    (moXDN : PySem.W.mroIn K DN (.type "object") = some true)
    (sISDN : PySem.W.subIn K (.ref DN) (.ref S2) = some true)
    (clXDC : PySem.W.findIn K (.ref DC) "__class__" = some (some (.builtin "object.__class__")))
    (moXDC : PySem.W.mroIn K DC (.type "object") = some true)
    (sISDC : PySem.W.subIn K (.ref DC) (.ref S2) = some true)
    (sNP : PySem.W.subIn K (.ref DN) (.ref DP) = some false)
    (sCP : PySem.W.subIn K (.ref DC) (.ref DP) = some false)
    (sCN : PySem.W.subIn K (.ref DC) (.ref DN) = some false)
    (aS2 : PySem.W.nsIn K mainGlobals "SlotsumsError" = some (some (.ref S2)))
    (jS2 : PySem.W.isClsIn K S2 = true)
    (tS2 : PySem.W.typeIn K (.ref S2) = some (.type "type"))
    (htop : (l.prog.main.scope.names.lookup ("super" : Str)).isSome = false)
    (z_super : PySem.W.nsIn K mainGlobals "super" = some none)
    (opn : PySem.W.nsIn K cStatics "thirdparty.any" = some none)
    (kLt : PySem.W.nsIn K mainGlobals "LETTERS" = some (some (.str letters tkLt)))
    (kLo : PySem.W.nsIn K mainGlobals "LONGEST" = some (some (.int 8 tkLo)))
    (kMo : PySem.W.nsIn K mainGlobals "MOST_SLOTS" = some (some (.int 4 tkMo)))
    (z_isinstance : PySem.W.nsIn K mainGlobals "isinstance" = some none)
    (z_int : PySem.W.nsIn K mainGlobals "int" = some none)
    (z_bool : PySem.W.nsIn K mainGlobals "bool" = some none)
    (z_len : PySem.W.nsIn K mainGlobals "len" = some none)
    (z_list : PySem.W.nsIn K mainGlobals "list" = some none)
    (z_max : PySem.W.nsIn K mainGlobals "max" = some none)
    (z_min : PySem.W.nsIn K mainGlobals "min" = some none)
    (z_sum : PySem.W.nsIn K mainGlobals "sum" = some none)
    (z_zip : PySem.W.nsIn K mainGlobals "zip" = some none)
    (z_range : PySem.W.nsIn K mainGlobals "range" = some none)
    (z_tuple : PySem.W.nsIn K mainGlobals "tuple" = some none)
    (z_enumerate : PySem.W.nsIn K mainGlobals "enumerate" = some none)
    (z_any : PySem.W.nsIn K mainGlobals "any" = some none)
    (z_all : PySem.W.nsIn K mainGlobals "all" = some none)
    (z_abs : PySem.W.nsIn K mainGlobals "abs" = some none)
    (z_divmod : PySem.W.nsIn K mainGlobals "divmod" = some none)
    (z_str : PySem.W.nsIn K mainGlobals "str" = some none)
    (z_repr : PySem.W.nsIn K mainGlobals "repr" = some none)
    (z_set : PySem.W.nsIn K mainGlobals "set" = some none)
    (z_sorted : PySem.W.nsIn K mainGlobals "sorted" = some none)
    (n12 : Pt1 ≠ Pt2)
    (n13 : Pt1 ≠ Pt3)
    (n23 : Pt2 ≠ Pt3)
    : LawT l w K CX0 16 63 "_law_script" mg fa h := by
  have e := hfa.symm.trans (PySem.W.mg_of X G a26)
  cases e
  have T : Bn mg := ⟨PySem.W.mg_none_of X G z_isinstance, PySem.W.mg_none_of X G z_int, PySem.W.mg_none_of X G z_bool, PySem.W.mg_none_of X G z_len, PySem.W.mg_none_of X G z_list, PySem.W.mg_none_of X G z_max, PySem.W.mg_none_of X G z_min, PySem.W.mg_none_of X G z_sum, PySem.W.mg_none_of X G z_zip, PySem.W.mg_none_of X G z_range, PySem.W.mg_none_of X G z_tuple, PySem.W.mg_none_of X G z_enumerate, PySem.W.mg_none_of X G z_any, PySem.W.mg_none_of X G z_all, PySem.W.mg_none_of X G z_abs, PySem.W.mg_none_of X G z_divmod, PySem.W.mg_none_of X G z_str, PySem.W.mg_none_of X G z_repr, PySem.W.mg_none_of X G z_set, PySem.W.mg_none_of X G z_sorted⟩
  have F0 := fun_mk (x := "is_integer") (qual := "is_integer") (st := sIsInt) l0 c0 k0
  have b0 := F0.binds (ps := ["value"]) fun _ _ _ _ _ _ us hl => match us, hl with | [_], _ => rfl
  have g0 := PySem.W.mg_of X G a0
  have F1 := fun_mk (x := "is_count") (qual := "is_count") (st := sIsCount) l1 c1 k1
  have b1 := F1.binds (ps := ["value"]) fun _ _ _ _ _ _ us hl => match us, hl with | [_], _ => rfl
  have g1 := PySem.W.mg_of X G a1
  have F2 := fun_mk (x := "is_name") (qual := "is_name") (st := sIsName) l2 c2 k2
  have b2 := F2.binds (ps := ["value"]) fun _ _ _ _ _ _ us hl => match us, hl with | [_], _ => rfl
  have g2 := PySem.W.mg_of X G a2
  have F3 := fun_mk (x := "is_list") (qual := "is_list") (st := sIsList) l3 c3 k3
  have b3 := F3.binds (ps := ["value"]) fun _ _ _ _ _ _ us hl => match us, hl with | [_], _ => rfl
  have g3 := PySem.W.mg_of X G a3
  have F4 := fun_mk (x := "want_name") (qual := "want_name") (st := sWantName) l4 c4 k4
  have b4 := F4.binds (ps := ["value"]) fun _ _ _ _ _ _ us hl => match us, hl with | [_], _ => rfl
  have g4 := PySem.W.mg_of X G a4
  have F5 := fun_mk (x := "want_slots") (qual := "want_slots") (st := sWantSlots) l5 c5 k5
  have b5 := F5.binds (ps := ["slots"]) fun _ _ _ _ _ _ us hl => match us, hl with | [_], _ => rfl
  have g5 := PySem.W.mg_of X G a5
  have F6 := fun_mk (x := "is_order") (qual := "is_order") (st := sIsOrder) l6 c6 k6
  have b6 := F6.binds (ps := ["value", "slots"]) fun _ _ _ _ _ _ us hl => match us, hl with | [_, _], _ => rfl
  have g6 := PySem.W.mg_of X G a6
  have F7 := fun_mk (x := "is_turn") (qual := "is_turn") (st := sIsTurn) l7 c7 k7
  have b7 := F7.binds (ps := ["value", "slots"]) fun _ _ _ _ _ _ us hl => match us, hl with | [_, _], _ => rfl
  have g7 := PySem.W.mg_of X G a7
  have F8 := fun_mk (x := "moved") (qual := "moved") (st := sMoved) l8 c8 k8
  have b8 := F8.binds (ps := ["places", "order"]) fun _ _ _ _ _ _ us hl => match us, hl with | [_, _], _ => rfl
  have g8 := PySem.W.mg_of X G a8
  have F9 := fun_mk (x := "closed_group") (qual := "closed_group") (st := sClosed) l9 c9 k9
  have b9 := F9.binds (ps := ["name", "many", "turns"]) fun _ _ _ _ _ _ us hl => match us, hl with | [_, _, _], _ => rfl
  have g9 := PySem.W.mg_of X G a9
  have F10 := fun_mk (x := "neighbour_orders") (qual := "neighbour_orders") (st := sNeigh) l10 c10 k10
  have b10 := F10.binds (ps := ["many"]) fun _ _ _ _ _ _ us hl => match us, hl with | [_], _ => rfl
  have g10 := PySem.W.mg_of X G a10
  have F11 := fun_mk (x := "_law_pot") (qual := "_law_pot") (st := sPot) l11 c11 k11
  have b11 := F11.binds (ps := ["_law_script", "_law_k"]) fun _ _ _ _ _ _ us hl => match us, hl with | [_, _], _ => rfl
  have g11 := PySem.W.mg_of X G a11
  have F12 := fun_mk (x := "_law_draw") (qual := "_law_draw") (st := sDraw) l12 c12 k12
  have b12 := F12.binds (ps := ["_law_pot_here", "_law_many"]) fun _ _ _ _ _ _ us hl => match us, hl with | [_, _], _ => rfl
  have g12 := PySem.W.mg_of X G a12
  have F13 := fun_mk (x := "_law_pick") (qual := "_law_pick") (st := sPick) l13 c13 k13
  have b13 := F13.binds (ps := ["_law_pot_here", "_law_some"]) fun _ _ _ _ _ _ us hl => match us, hl with | [_, _], _ => rfl
  have g13 := PySem.W.mg_of X G a13
  have F14 := fun_mk (x := "_law_name") (qual := "_law_name") (st := sLName) l14 c14 k14
  have b14 := F14.binds (ps := ["_law_pot_here"]) fun _ _ _ _ _ _ us hl => match us, hl with | [_], _ => rfl
  have g14 := PySem.W.mg_of X G a14
  have F15 := fun_mk (x := "_law_orders") (qual := "_law_orders") (st := sOrders) l15 c15 k15
  have b15 := F15.binds (ps := ["_law_many"]) fun _ _ _ _ _ _ us hl => match us, hl with | [_], _ => rfl
  have g15 := PySem.W.mg_of X G a15
  have F16 := fun_mk (x := "_law_parity") (qual := "_law_parity") (st := sParity) l16 c16 k16
  have b16 := F16.binds (ps := ["_law_order"]) fun _ _ _ _ _ _ us hl => match us, hl with | [_], _ => rfl
  have g16 := PySem.W.mg_of X G a16
  have F17 := fun_mk (x := "_law_moved") (qual := "_law_moved") (st := sLMoved) l17 c17 k17
  have b17 := F17.binds (ps := ["_law_places_here", "_law_order"]) fun _ _ _ _ _ _ us hl => match us, hl with | [_, _], _ => rfl
  have g17 := PySem.W.mg_of X G a17
  have F18 := fun_mk (x := "_law_least") (qual := "_law_least") (st := sLLeast) l18 c18 k18
  have b18 := F18.binds (ps := ["_law_places_here", "_law_turning"]) fun _ _ _ _ _ _ us hl => match us, hl with | [_, _], _ => rfl
  have g18 := PySem.W.mg_of X G a18
  have F19 := fun_mk (x := "_law_places") (qual := "_law_places") (st := sLPlaces) l19 c19 k19
  have b19 := F19.binds (ps := ["_law_pot_here", "_law_many"]) fun _ _ _ _ _ _ us hl => match us, hl with | [_, _], _ => rfl
  have g19 := PySem.W.mg_of X G a19
  have F20 := fun_mk (x := "_law_is") (qual := "_law_is") (st := sIs) l20 c20 k20
  have b20 := F20.binds (ps := ["_law_call", "_law_value"]) fun _ _ _ _ _ _ us hl => match us, hl with | [_, _], _ => rfl
  have g20 := PySem.W.mg_of X G a20
  have F21 := fun_mk (x := "_law_other_way") (qual := "_law_other_way") (st := sOther) l21 c21 k21
  have b21 := F21.binds (ps := ["_law_name_here", "_law_sort", "_law_many", "_law_turning"]) fun _ _ _ _ _ _ us hl => match us, hl with | [_, _, _, _], _ => rfl
  have g21 := PySem.W.mg_of X G a21
  have F22 := fun_mk (x := "_law_group_right") (qual := "_law_group_right") (st := sGroup) l22 c22 k22
  have b22 := F22.binds (ps := ["_law_pot_here", "_law_table", "_law_many", "_law_turning"]) fun _ _ _ _ _ _ us hl => match us, hl with | [_, _, _, _], _ => rfl
  have g22 := PySem.W.mg_of X G a22
  have F23 := fun_mk (x := "_law_places_refused") (qual := "_law_places_refused") (st := sPlRef) l23 c23 k23
  have b23 := F23.binds (ps := ["_law_pot_here", "_law_table", "_law_many"]) fun _ _ _ _ _ _ us hl => match us, hl with | [_, _, _], _ => rfl
  have g23 := PySem.W.mg_of X G a23
  have F24 := fun_mk (x := "_law_makers_refused") (qual := "_law_makers_refused") (st := sMkRef) l24 c24 k24
  have b24 := F24.binds (ps := ["_law_pot_here", "_law_name_here", "_law_sort"]) fun _ _ _ _ _ _ us hl => match us, hl with | [_, _, _], _ => rfl
  have g24 := PySem.W.mg_of X G a24
  have F25 := fun_mk (x := "_law_named_right") (qual := "_law_named_right") (st := sNamed) l25 c25 k25
  have b25 := F25.binds (ps := ["_law_table", "_law_twin", "_law_name_here", "_law_other", "_law_many", "_law_sort"]) fun _ _ _ _ _ _ us hl => match us, hl with | [_, _, _, _, _, _], _ => rfl
  have g25 := PySem.W.mg_of X G a25
  have F26 := fun_mk (x := "law") (qual := "law") (st := sLaw) l26 c26 k26
  have b26 := F26.binds (ps := ["_law_script"]) fun _ _ _ _ _ _ us hl => match us, hl with | [_], _ => rfl
  have g26 := PySem.W.mg_of X G a26
  have Fm0 := fun_mk (x := "slots") (qual := "Table.slots") (st := sTSlots) lm0 cm0 km0
  have bm0 := Fm0.binds (ps := ["self"]) fun _ _ _ _ _ _ us hl => match us, hl with | [_], _ => rfl
  have Fm1 := fun_mk (x := "turns") (qual := "Table.turns") (st := sTTurns) lm1 cm1 km1
  have bm1 := Fm1.binds (ps := ["self"]) fun _ _ _ _ _ _ us hl => match us, hl with | [_], _ => rfl
  have Fm2 := fun_mk (x := "is_slot_places") (qual := "Table.is_slot_places") (st := sTIsPl) lm2 cm2 km2
  have bm2 := Fm2.binds (ps := ["self", "value"]) fun _ _ _ _ _ _ us hl => match us, hl with | [_, _], _ => rfl
  have Fm3 := fun_mk (x := "want_places") (qual := "Table.want_places") (st := sTWant) lm3 cm3 km3
  have bm3 := Fm3.binds (ps := ["self", "places"]) fun _ _ _ _ _ _ us hl => match us, hl with | [_, _], _ => rfl
  have Fm4 := fun_mk (x := "least") (qual := "Table.least") (st := sTLeast) lm4 cm4 km4
  have bm4 := Fm4.binds (ps := ["self", "places"]) fun _ _ _ _ _ _ us hl => match us, hl with | [_, _], _ => rfl
  have Fm5 := fun_mk (x := "class_of") (qual := "Table.class_of") (st := sTClass) lm5 cm5 km5
  have bm5 := Fm5.binds (ps := ["self", "places"]) fun _ _ _ _ _ _ us hl => match us, hl with | [_, _], _ => rfl
  have Fm6 := fun_mk (x := "renamed") (qual := "Table.renamed") (st := sTNamed) lm6 cm6 km6
  have bm6 := Fm6.binds (ps := ["self", "name"]) fun _ _ _ _ _ _ us hl => match us, hl with | [_, _], _ => rfl
  have Fm7 := fun_mk (x := "__eq__") (qual := "Table.__eq__") (st := sTEq) lm7 cm7 km7
  have bm7 := Fm7.binds (ps := ["self", "other"]) fun _ _ _ _ _ _ us hl => match us, hl with | [_, _], _ => rfl
  have Fm8 := fun_mk (x := "__repr__") (qual := "Table.__repr__") (st := sTRepr) lm8 cm8 km8
  have bm8 := Fm8.binds (ps := ["self"]) fun _ _ _ _ _ _ us hl => match us, hl with | [_], _ => rfl
  have Fmp0 := fun_mk (x := "changes_sign") (qual := "Table.changes_sign") (st := sTSign) lmp0 cmp0 kmp0
  have bmp0 := Fmp0.binds (ps := ["self"]) fun _ _ _ _ _ _ us hl => match us, hl with | [_], _ => rfl
  have Fmin := fun_mk (x := "__init__") (qual := "Table.__init__") (st := sTInit) lmin cmin kmin
  have Fsy := fun_mk (x := "symmetric") (qual := "Table.symmetric") (st := sTSym) lsy csy ksy
  have bsy := Fsy.binds (ps := ["cls", "name", "sort", "many"]) fun _ _ _ _ _ _ us hl => match us, hl with | [_, _, _, _], _ => rfl
  have Fal := fun_mk (x := "alternating") (qual := "Table.alternating") (st := sTAlt) lal cal kal
  have bal := Fal.binds (ps := ["cls", "name", "sort", "many"]) fun _ _ _ _ _ _ us hl => match us, hl with | [_, _, _, _], _ => rfl
  have Fak := fun_mk (x := "alike_slots") (qual := "Table.alike_slots") (st := sTAlike) lak cak kak
  have bak := Fak.binds (ps := ["name", "sort", "many"]) fun _ _ _ _ _ _ us hl => match us, hl with | [_, _, _], _ => rfl
  have hti1 : PySem.W.tabIn K "_law_places_refused" = some (co1, Pt1) := by
    unfold PySem.W.tabIn
    rw [a23]; dsimp only; rw [l23]; dsimp only; rw [lco1]; dsimp only; rw [hco1]
  obtain ⟨d1', hd1'⟩ := Option.isSome_iff_exists.mp hrec1
  obtain ⟨hcode1, htab1⟩ := TT d1' _ _ _ hd1' hti1
  have hti2 : PySem.W.tabIn K "_law_makers_refused" = some (co2, Pt2) := by
    unfold PySem.W.tabIn
    rw [a24]; dsimp only; rw [l24]; dsimp only; rw [lco2]; dsimp only; rw [hco2]
  obtain ⟨d2', hd2'⟩ := Option.isSome_iff_exists.mp hrec2
  obtain ⟨hcode2, htab2⟩ := TT d2' _ _ _ hd2' hti2
  have hti3 : PySem.W.tabIn K "law" = some (co3, Pt3) := by
    unfold PySem.W.tabIn
    rw [a26]; dsimp only; rw [l26]; dsimp only; rw [lco3]; dsimp only; rw [hco3]
  obtain ⟨d3', hd3'⟩ := Option.isSome_iff_exists.mp hrec3
  obtain ⟨hcode3, htab3⟩ := TT d3' _ _ _ hd3' hti3
  refine ⟨PySem.W.fnOf "law" "law" (defArgs sLaw) (defBody sLaw) (defScope sLaw) .none kV26 dc26 pm26 an26 (.ref co3) ct26, [(co1, Pt1), (co2, Pt2), (co3, Pt3)], spLaw K [(Pt1, qPl), (Pt2, qMk), (Pt3, qLw)], all3 (R := fun p : Addr × Addr => h.get? p.2 = some emptyTab) htab1 htab2 htab3, all3 (R := fun p : Addr × Addr => K.lookup p.2 = none) nPt1 nPt2 nPt3, all3 (R := fun p : Addr × Addr => PySem.W.CodeHd h p.1 p.2) hcode1 hcode2 hcode3, fun s v => .of_eq rfl, (fun H a ns hl hH hS => ⟨a, ns, rfl, hS, hl, all3 (R := fun p : Addr × Str => LamX.TabS H p.1 p.2) (LamX.TabS.nil (hH (co1, Pt1) (by simp))) (LamX.TabS.nil (hH (co2, Pt2) (by simp))) (LamX.TabS.nil (hH (co3, Pt3) (by simp))), fun _ => rfl⟩), fun base _ _ hTB => ?_⟩
  have TB1 := hTB (co1, Pt1) (by simp)
  have TB2 := hTB (co2, Pt2) (by simp)
  have TB3 := hTB (co3, Pt3) (by simp)
  have in1 : (Pt1, qPl) ∈ [(Pt1, qPl), (Pt2, qMk), (Pt3, qLw)] := by simp
  have in2 : (Pt2, qMk) ∈ [(Pt1, qPl), (Pt2, qMk), (Pt3, qLw)] := by simp
  have in3 : (Pt3, qLw) ∈ [(Pt1, qPl), (Pt2, qMk), (Pt3, qLw)] := by simp
  have one1 := all3 (R := fun p : Addr × Str => p.1 = Pt1 → p.2 = qPl) (a := (Pt1, qPl)) (b := (Pt2, qMk)) (c := (Pt3, qLw)) (fun _ => rfl) (fun e => absurd e.symm n12) (fun e => absurd e.symm n13)
  have one2 := all3 (R := fun p : Addr × Str => p.1 = Pt2 → p.2 = qMk) (a := (Pt1, qPl)) (b := (Pt2, qMk)) (c := (Pt3, qLw)) (fun e => absurd e n12) (fun _ => rfl) (fun e => absurd e.symm n23)
  have one3 := all3 (R := fun p : Addr × Str => p.1 = Pt3 → p.2 = qLw) (a := (Pt1, qPl)) (b := (Pt2, qMk)) (c := (Pt3, qLw)) (fun e => absurd e n13) (fun e => absurd e n23) (fun _ => rfl)
  have CN : Cn mg := ⟨⟨_, PySem.W.mg_of X G kLt⟩, ⟨_, PySem.W.mg_of X G kLo⟩, ⟨_, PySem.W.mg_of X G kMo⟩⟩
  have N : Tc K mg C := ⟨⟨pgC, hdC, poC, saC⟩, nC_name, nC_own_slots, nC_own_turns, PySem.W.mg_of X G aC, icC, gt, tk, moC⟩
  have D0 := df_of (P := l.prog) (w := w) (base := base) F0 g0 b0 (ok_isInt F0 T)
  have D1 := df_of (P := l.prog) (w := w) (base := base) F1 g1 b1 (ok_isCount F1 D0)
  have D2 := df_of (P := l.prog) (w := w) (base := base) F2 g2 b2 (ok_isName F2 T CN)
  have D3 := df_of (P := l.prog) (w := w) (base := base) F3 g3 b3 (ok_isList F3 T)
  have D4 := df_of (P := l.prog) (w := w) (base := base) F4 g4 b4 (ok_wantName F4 D2)
  have D5 := df_of (P := l.prog) (w := w) (base := base) F5 g5 b5 (ok_wantSlots F5 T CN D3 D2)
  have D6 := df_of (P := l.prog) (w := w) (base := base) F6 g6 b6 (ok_isOrder F6 T D0)
  have D7 := df_of (P := l.prog) (w := w) (base := base) F7 g7 b7 (ok_isTurn F7 T D0 D6)
  have D8 := df_of (P := l.prog) (w := w) (base := base) F8 g8 b8 (ok_moved F8 T)
  have D10 := df_of (P := l.prog) (w := w) (base := base) F10 g10 b10 (ok_neigh F10 T)
  have D0O := df_of (P := l.prog) (w := w) (base := base) F0 g0 b0 (ok_isIntO F0 T)
  have D1O := df_of (P := l.prog) (w := w) (base := base) F1 g1 b1 (ok_isCountO F1 D0O)
  have D2O := df_of (P := l.prog) (w := w) (base := base) F2 g2 b2 (ok_isNameO F2 T CN)
  have OEDP : OexC K DP := ⟨⟨_, _, _, _, _, _, _, _, _, _, _, _, _, _, _, xXDP, by show PySem.HandSPX.refsVE veTail = true; decide +kernel⟩, saXDP, eXDP, tXDP, kXDP⟩
  have SIDP : SupK "ValueError" "ValueError.__new__" "ValueError.__init__" veTail l.prog K mg DP eDP (fnC "__init__" "InvalidPlaces.__init__" (defArgs sIPInit) (defBody sIPInit) (defScope sIPInit) .none kVXDP dcXDP pmXDP anXDP (.ref cDP) ctXDP xDP) piArg := ⟨⟨_, _, _, ldXDP⟩, by rfl, by show (defScope sIPInit).names.lookup piArg.arg = some NameKind.local; decide +kernel, ⟨cDP, _, _, vsXDP, _, flXDP, tfXDP, rfl, lkXDP, hvXDP, hfXDP⟩, htop, PySem.W.mg_none_of X G z_super, ⟨_, _, _, _, _, _, _, _, _, _, _, _, _, _, _, xXDP, by show decide (veTail = veTail) = true; decide +kernel⟩, spXDP, svXDP, ssXDP, opn⟩
  have ZDP : Ive l.prog w K mg base "InvalidPlaces" DP S2 := ⟨OEDP, PySem.W.mg_of X G aXDP, ⟨eDP, _, adXDP, tdXDP, .all (fun us hl => match us, hl with | [_, _], _ => rfl), ok_pi cdXDP lcXDP SIDP OEDP noDP_value⟩, exm_self eXDP jXDP tXDP ssXDP, ⟨gaXDP, ggXDP, eXDP, hdXDP⟩, noDP_value, ⟨gaXDP, ggXDP, eXDP, hdXDP, clXDP, gt, tk, moXDP⟩, PySem.W.mg_of X G aS2, kit_rr jS2 tS2 sISDP⟩
  have OEDN : OexC K DN := ⟨⟨_, _, _, _, _, _, _, _, _, _, _, _, _, _, _, xXDN, by show PySem.HandSPX.refsVE veTail = true; decide +kernel⟩, saXDN, eXDN, tXDN, kXDN⟩
  have SIDN : SupK "ValueError" "ValueError.__new__" "ValueError.__init__" veTail l.prog K mg DN eDN (fnC "__init__" "InvalidName.__init__" (defArgs sINInit) (defBody sINInit) (defScope sINInit) .none kVXDN dcXDN pmXDN anXDN (.ref cDN) ctXDN xDN) niArg := ⟨⟨_, _, _, ldXDN⟩, by rfl, by show (defScope sINInit).names.lookup niArg.arg = some NameKind.local; decide +kernel, ⟨cDN, _, _, vsXDN, _, flXDN, tfXDN, rfl, lkXDN, hvXDN, hfXDN⟩, htop, PySem.W.mg_none_of X G z_super, ⟨_, _, _, _, _, _, _, _, _, _, _, _, _, _, _, xXDN, by show decide (veTail = veTail) = true; decide +kernel⟩, spXDN, svXDN, ssXDN, opn⟩
  have ZDN : Ive l.prog w K mg base "InvalidName" DN S2 := ⟨OEDN, PySem.W.mg_of X G aXDN, ⟨eDN, _, adXDN, tdXDN, .all (fun us hl => match us, hl with | [_, _], _ => rfl), ok_ni cdXDN lcXDN SIDN OEDN noDN_value⟩, exm_self eXDN jXDN tXDN ssXDN, ⟨gaXDN, ggXDN, eXDN, hdXDN⟩, noDN_value, ⟨gaXDN, ggXDN, eXDN, hdXDN, clXDN, gt, tk, moXDN⟩, PySem.W.mg_of X G aS2, kit_rr jS2 tS2 sISDN⟩
  have OEDC : OexC K DC := ⟨⟨_, _, _, _, _, _, _, _, _, _, _, _, _, _, _, xXDC, by show PySem.HandSPX.refsVE veTail = true; decide +kernel⟩, saXDC, eXDC, tXDC, kXDC⟩
  have SIDC : SupK "ValueError" "ValueError.__new__" "ValueError.__init__" veTail l.prog K mg DC eDC (fnC "__init__" "InvalidCount.__init__" (defArgs sICInit) (defBody sICInit) (defScope sICInit) .none kVXDC dcXDC pmXDC anXDC (.ref cDC) ctXDC xDC) ciArg := ⟨⟨_, _, _, ldXDC⟩, by rfl, by show (defScope sICInit).names.lookup ciArg.arg = some NameKind.local; decide +kernel, ⟨cDC, _, _, vsXDC, _, flXDC, tfXDC, rfl, lkXDC, hvXDC, hfXDC⟩, htop, PySem.W.mg_none_of X G z_super, ⟨_, _, _, _, _, _, _, _, _, _, _, _, _, _, _, xXDC, by show decide (veTail = veTail) = true; decide +kernel⟩, spXDC, svXDC, ssXDC, opn⟩
  have ZDC : Ive l.prog w K mg base "InvalidCount" DC S2 := ⟨OEDC, PySem.W.mg_of X G aXDC, ⟨eDC, _, adXDC, tdXDC, .all (fun us hl => match us, hl with | [_, _], _ => rfl), ok_ci cdXDC lcXDC SIDC OEDC noDC_value⟩, exm_self eXDC jXDC tXDC ssXDC, ⟨gaXDC, ggXDC, eXDC, hdXDC⟩, noDC_value, ⟨gaXDC, ggXDC, eXDC, hdXDC, clXDC, gt, tk, moXDC⟩, PySem.W.mg_of X G aS2, kit_rr jS2 tS2 sISDC⟩
  have OEDV : OexC K DV := ⟨⟨_, _, _, _, _, _, _, _, _, _, _, _, _, _, _, xXDV, by show PySem.HandSPX.refsVE veTail = true; decide +kernel⟩, saXDV, eXDV, tXDV, kXDV⟩
  have SIDV : SupK "ValueError" "ValueError.__new__" "ValueError.__init__" veTail l.prog K mg DV eDV (fnC "__init__" "Vanishing.__init__" (defArgs sVInit) (defBody sVInit) (defScope sVInit) .none kVXDV dcXDV pmXDV anXDV (.ref cDV) ctXDV xDV) vnArg := ⟨⟨_, _, _, ldXDV⟩, by rfl, by show (defScope sVInit).names.lookup vnArg.arg = some NameKind.local; decide +kernel, ⟨cDV, _, _, vsXDV, _, flXDV, tfXDV, rfl, lkXDV, hvXDV, hfXDV⟩, htop, PySem.W.mg_none_of X G z_super, ⟨_, _, _, _, _, _, _, _, _, _, _, _, _, _, _, xXDV, by show decide (veTail = veTail) = true; decide +kernel⟩, spXDV, svXDV, ssXDV, opn⟩
  have ZDV : Vn l.prog w K mg base DV := ⟨OEDV, PySem.W.mg_of X G aXDV, ⟨eDV, _, adXDV, tdXDV, .all (fun us hl => match us, hl with | [_, _], _ => rfl), ok_vn cdXDV lcXDV SIDV OEDV noDV_name⟩, exm_self eXDV jXDV tXDV ssXDV, ⟨gaXDV, ggXDV, eXDV, hdXDV⟩, noDV_name⟩
  have ZZ : Three3 l.prog w K mg base DP DN DC S2 := ⟨ZDP, ZDN, ZDC, exm_no eXDP jXDP tXDP sNP, exm_no eXDP jXDP tXDP sCP, exm_no eXDN jXDN tXDN sCN⟩
  have TD : TDs l.prog w K mg base DV := ⟨D4, D5, D7, D8, ⟨f9, _, g9, F9.kp, b9, ok_closed F9 T ZDV D8⟩⟩
  have TM : TMk l.prog w K mg base C DV := ⟨N, fmin, ⟨mkC, amin, imin, kcC⟩, ok_tinit Fmin T N TD⟩
  have D4E := dfE_of (P := l.prog) (w := w) (base := base) F4 g4 b4 (ok_wantNameB F4 ZDN D2O)
  have TMX : TMkX l.prog w K mg base C DN := ⟨fmin, ⟨mkC, amin, imin, kcC⟩, ok_tinitX Fmin D4E⟩
  have MS : Mt l.prog w K mg base C "slots" ["self"] 1 (spTSlots C) := ⟨fm0, _, ⟨am0, im0, km0⟩, bm0, ok_tslots Fm0 N⟩
  have MT : Mt l.prog w K mg base C "turns" ["self"] 1 (spTTurns C) := ⟨fm1, _, ⟨am1, im1, km1⟩, bm1, ok_tturns Fm1 T N⟩
  have MI : Mt l.prog w K mg base C "is_slot_places" ["self", "value"] 3 (spTIsPl K C) := ⟨fm2, _, ⟨am2, im2, km2⟩, bm2, ok_tispl Fm2 T N D1⟩
  have MIO : Mt l.prog w K mg base C "is_slot_places" ["self", "value"] 3 (spTIsPlO C) := ⟨fm2, _, ⟨am2, im2, km2⟩, bm2, ok_tisplO Fm2 T N D1O⟩
  have MW : Mt l.prog w K mg base C "want_places" ["self", "places"] 4 (spTWant K C) := ⟨fm3, _, ⟨am3, im3, km3⟩, bm3, ok_twant Fm3 N MI⟩
  have MWX : MtE l.prog w K mg base C "want_places" ["self", "places"] 5 (spPlX C DP) := ⟨fm3, _, ⟨am3, im3, km3⟩, bm3, ok_twantX Fm3 N ZDP MIO⟩
  have ML : Mt l.prog w K mg base C "least" ["self", "places"] 5 (spTLeast K C) := ⟨fm4, _, ⟨am4, im4, km4⟩, bm4, ok_tleast Fm4 T N D8 MW⟩
  have MLX : MtE l.prog w K mg base C "least" ["self", "places"] 6 (spPlX C DP) := ⟨fm4, _, ⟨am4, im4, km4⟩, bm4, ok_tleastX Fm4 N MWX⟩
  have MC : Mt l.prog w K mg base C "class_of" ["self", "places"] 5 (spTClass K C) := ⟨fm5, _, ⟨am5, im5, km5⟩, bm5, ok_tclass Fm5 T N D8 MW⟩
  have MCX : MtE l.prog w K mg base C "class_of" ["self", "places"] 6 (spPlX C DP) := ⟨fm5, _, ⟨am5, im5, km5⟩, bm5, ok_tclassX Fm5 N MWX⟩
  have MN : ∃ f fd, Meth K C "renamed" f ∧ Binds K fd ["self", "name"] [] ∧ FnG l.prog w K mg base CX0 8 f fd ["self", "name"] (spTNamed C) := ⟨fm6, _, ⟨am6, im6, km6⟩, bm6, ok_tnamed Fm6 N TM⟩
  have MNX : MtE l.prog w K mg base C "renamed" ["self", "name"] 8 (spTNamedX C DN) := ⟨fm6, _, ⟨am6, im6, km6⟩, bm6, ok_tnamedX Fm6 N TMX⟩
  have TO : TOp l.prog w K mg base C := ⟨N, ⟨fm7, am7, im7, raw0 (ok_teq Fm7 T N) bm7 (by decide)⟩, nneC, ⟨fm8, _, am8, im8, bm8, ok_trepr Fm8 N⟩⟩
  have OT : OffT K C := ⟨kit_tr jcC tcC suC_NoneType, suC_NoneType, kit_tr jcC tcC suC_str, suC_str, kit_tr jcC tcC suC_list, suC_list⟩
  have MG : ∃ q g fd, PropOf K C "changes_sign" q g ∧ Binds K fd ["self"] [] ∧ FnOk l.prog w K mg base CX0 1 g fd ["self"] (spTSign C) := ⟨qmp0, fmp0, _, ⟨amp0, gmp0, tmp0, ⟨_, r_mp0⟩⟩, bmp0, ok_tsign Fmp0 T N⟩
  have AK : AlK l.prog w K mg base C DN DC := ⟨.type "type", qak, fak, _, ⟨rdC, gaC⟩, ⟨attak, ⟨_, rcak⟩, kak⟩, bak, ok_alike Fak CN ZDC D4E D0O⟩
  have SY : SyK l.prog w K mg base C DN DC "symmetric" false := ⟨.type "type", qsy, fsy, _, ⟨rdC, gaC⟩, ⟨attsy, ⟨_, rcsy⟩, fisy⟩, bsy, ok_sym Fsy T TM AK D10⟩
  have AL : SyK l.prog w K mg base C DN DC "alternating" true := ⟨.type "type", qal, fal, _, ⟨rdC, gaC⟩, ⟨attal, ⟨_, rcal⟩, fial⟩, bal, ok_alt Fal T TM AK D10⟩
  have IS : IsD K mg := ⟨f20, _, F20, g20, F20.kp, b20⟩
  have D11 := df_of (P := l.prog) (w := w) (base := base) F11 g11 b11 (ok_pot F11 T)
  have D12 := df_of (P := l.prog) (w := w) (base := base) F12 g12 b12 (ok_draw F12 T)
  have D13 := df_of (P := l.prog) (w := w) (base := base) F13 g13 b13 (ok_pick F13 T D12)
  have D14 := df_of (P := l.prog) (w := w) (base := base) F14 g14 b14 (ok_lname F14 T D12 D13)
  have D15 := df_of (P := l.prog) (w := w) (base := base) F15 g15 b15 (ok_orders F15 T)
  have D16 := df_of (P := l.prog) (w := w) (base := base) F16 g16 b16 (ok_parity F16 T)
  have D17 := df_of (P := l.prog) (w := w) (base := base) F17 g17 b17 (ok_lmoved F17 T)
  have D18 := df_of (P := l.prog) (w := w) (base := base) F18 g18 b18 (ok_lleast F18 T D15 D16 D17)
  have D19 := df_of (P := l.prog) (w := w) (base := base) F19 g19 b19 (ok_lplaces F19 T D12 D13)
  have D21 := dfE_of (P := l.prog) (w := w) (base := base) F21 g21 b21 (ok_other F21 T TM D16)
  have D22 := dfG_of (P := l.prog) (w := w) (base := base) F22 g22 b22 (ok_group F22 T N D15 D16 D17 D18 D19 MT MG ML MC MIO)
  have D23 := dfG_of (P := l.prog) (w := w) (base := base) F23 g23 b23 (ok_plref in1 one1 F23 rfl TB1 T N ZZ IS D12 D13 D19 MIO MLX MCX)
  have D24 := dfG_of (P := l.prog) (w := w) (base := base) F24 g24 b24 (ok_mkref in2 one2 F24 rfl TB2 T N ZZ IS D13 SY AL)
  have D25 := dfG_of (P := l.prog) (w := w) (base := base) F25 g25 b25 (ok_named F25 T TO OT MN MT MS)
  exact ok_law in3 one3 F26 rfl TB3 T TO TM ZZ IS D11 D14 D12 SY AL D24 D21 D22 D23 D25 MS MNX
theorem walk {l : PySem.W.OpenLaw} {q : Program} {loose : List Str} {XP : (Str → Option Value) → Heap → Prop} {YP : World → Heap → Prop} {d : DefRec} {K : Params → PySem.W.Frag} (hn : l.most = some 63) (hdf : d.params.defaults = [])
    (hY : ∀ (w : World) (h : Heap), YP w h → (K w.params).In h)
    (F : ∀ (w : World) (mg : Str → Option Value) (fa : Addr) (h : Heap), YP w h → (K w.params).In h → h.Ns mainGlobals mg → (∀ (d' : DefRec) (x : Str) (c P : Addr), (recsOf q).find? (fun e => e.name == x) = some d' → PySem.W.tabIn (K w.params) x = some (c, P) → PySem.W.CodeHd h c P ∧ h.get? P = some emptyTab) → mg d.name = some (.ref fa) → LawT l w (K w.params) CX0 16 63 "_law_script" mg fa h) :
    PySem.W.WalkO q loose XP YP l.row.toRowW d [] (fun f vs => PySem.call f vs) :=
  L2.walk_ofT (n := 63) (k := 16) (x := "_law_script") (CX := fun _ => CX0) hn (by decide) hdf ⟨rfl, by decide, by decide⟩ hY F fun _ _ _ _ _ z => z
end S11

open PySem PySem.W PyProof.Rows in
set_option maxRecDepth 100000 in
set_option maxHeartbeats 0 in
theorem PySem.Challenge.cw_slotsums_k11_symmetric_and_alternating_holds : PySem.Challenge.rw_slotsums_k11_symmetric_and_alternating.Holds := by
  w_on; o_law; k_head; (case hw => w_witness2)
  k_fill
  refine S11.walk (l := PySem.Challenge.rw_slotsums_k11_symmetric_and_alternating) rfl rfl (fun w h Y => PySem.W.km_in_of Y) ?F
  case F =>
    intro w mg fa h Y KX G TT hmg
    refine' S11.all_mk KX G TT ?hrec1 ?hrec2 ?hrec3 hmg ?a0 ?l0 ?c0 ?k0 ?a1 ?l1 ?c1 ?k1 ?a2 ?l2 ?c2 ?k2 ?a3 ?l3 ?c3 ?k3 ?a4 ?l4 ?c4 ?k4 ?a5 ?l5 ?c5 ?k5 ?a6 ?l6 ?c6 ?k6 ?a7 ?l7 ?c7 ?k7 ?a8 ?l8 ?c8 ?k8 ?a9 ?l9 ?c9 ?k9 ?a10 ?l10 ?c10 ?k10 ?a11 ?l11 ?c11 ?k11 ?a12 ?l12 ?c12 ?k12 ?a13 ?l13 ?c13 ?k13 ?a14 ?l14 ?c14 ?k14 ?a15 ?l15 ?c15 ?k15 ?a16 ?l16 ?c16 ?k16 ?a17 ?l17 ?c17 ?k17 ?a18 ?l18 ?c18 ?k18 ?a19 ?l19 ?c19 ?k19 ?a20 ?l20 ?c20 ?k20 ?a21 ?l21 ?c21 ?k21 ?a22 ?l22 ?c22 ?k22 ?a23 ?l23 ?c23 ?k23 ?lco1 ?hco1 ?nPt1 ?a24 ?l24 ?c24 ?k24 ?lco2 ?hco2 ?nPt2 ?a25 ?l25 ?c25 ?k25 ?a26 ?l26 ?c26 ?k26 ?lco3 ?hco3 ?nPt3 ?aC ?am0 ?im0 ?lm0 ?cm0 ?km0 ?am1 ?im1 ?lm1 ?cm1 ?km1 ?am2 ?im2 ?lm2 ?cm2 ?km2 ?am3 ?im3 ?lm3 ?cm3 ?km3 ?am4 ?im4 ?lm4 ?cm4 ?km4 ?am5 ?im5 ?lm5 ?cm5 ?km5 ?am6 ?im6 ?lm6 ?cm6 ?km6 ?am7 ?im7 ?lm7 ?cm7 ?km7 ?am8 ?im8 ?lm8 ?cm8 ?km8 ?amp0 ?gmp0 ?tmp0 ?r_mp0 ?lmp0 ?cmp0 ?kmp0 ?amin ?imin ?lmin ?cmin ?kmin ?pgC ?hdC ?poC ?saC ?mkC ?kcC ?icC ?moC ?jcC ?tcC ?nC_name ?nC_own_slots ?nC_own_turns ?suC_NoneType ?suC_str ?suC_list ?nneC ?rdC ?gaC ?attsy ?rcsy ?fisy ?lsy ?csy ?ksy ?attal ?rcal ?fial ?lal ?cal ?kal ?attak ?rcak ?lak ?cak ?kak ?gt ?tk ?aXDP ?xXDP ?saXDP ?eXDP ?tXDP ?kXDP ?jXDP ?ssXDP ?svXDP ?adXDP ?tdXDP ?ldXDP ?cdXDP ?lcXDP ?lkXDP ?hvXDP ?hfXDP ?spXDP ?noDP_value ?gaXDP ?ggXDP ?hdXDP ?aXDN ?xXDN ?saXDN ?eXDN ?tXDN ?kXDN ?jXDN ?ssXDN ?svXDN ?adXDN ?tdXDN ?ldXDN ?cdXDN ?lcXDN ?lkXDN ?hvXDN ?hfXDN ?spXDN ?noDN_value ?gaXDN ?ggXDN ?hdXDN ?aXDC ?xXDC ?saXDC ?eXDC ?tXDC ?kXDC ?jXDC ?ssXDC ?svXDC ?adXDC ?tdXDC ?ldXDC ?cdXDC ?lcXDC ?lkXDC ?hvXDC ?hfXDC ?spXDC ?noDC_value ?gaXDC ?ggXDC ?hdXDC ?aXDV ?xXDV ?saXDV ?eXDV ?tXDV ?kXDV ?jXDV ?ssXDV ?svXDV ?adXDV ?tdXDV ?ldXDV ?cdXDV ?lcXDV ?lkXDV ?hvXDV ?hfXDV ?spXDV ?noDV_name ?gaXDV ?ggXDV ?hdXDV ?clXDP ?moXDP ?sISDP ?clXDN ?moXDN ?sISDN ?clXDC ?moXDC ?sISDC ?sNP ?sCP ?sCN ?aS2 ?jS2 ?tS2 ?htop ?z_super ?opn ?kLt ?kLo ?kMo ?z_isinstance ?z_int ?z_bool ?z_len ?z_list ?z_max ?z_min ?z_sum ?z_zip ?z_range ?z_tuple ?z_enumerate ?z_any ?z_all ?z_abs ?z_divmod ?z_str ?z_repr ?z_set ?z_sorted ?n12 ?n13 ?n23
    (case hrec1 => first | rfl | kernel_rfl)
    (case hrec2 => first | rfl | kernel_rfl)
    (case hrec3 => first | rfl | kernel_rfl)
    (case a0 => k_is)
    (case l0 => k_is)
    (case c0 => k_is)
    (case k0 => k_is)
    (case a1 => k_is)
    (case l1 => k_is)
    (case c1 => k_is)
    (case k1 => k_is)
    (case a2 => k_is)
    (case l2 => k_is)
    (case c2 => k_is)
    (case k2 => k_is)
    (case a3 => k_is)
    (case l3 => k_is)
    (case c3 => k_is)
    (case k3 => k_is)
    (case a4 => k_is)
    (case l4 => k_is)
    (case c4 => k_is)
    (case k4 => k_is)
    (case a5 => k_is)
    (case l5 => k_is)
    (case c5 => k_is)
    (case k5 => k_is)
    (case a6 => k_is)
    (case l6 => k_is)
    (case c6 => k_is)
    (case k6 => k_is)
    (case a7 => k_is)
    (case l7 => k_is)
    (case c7 => k_is)
    (case k7 => k_is)
    (case a8 => k_is)
    (case l8 => k_is)
    (case c8 => k_is)
    (case k8 => k_is)
    (case a9 => k_is)
    (case l9 => k_is)
    (case c9 => k_is)
    (case k9 => k_is)
    (case a10 => k_is)
    (case l10 => k_is)
    (case c10 => k_is)
    (case k10 => k_is)
    (case a11 => k_is)
    (case l11 => k_is)
    (case c11 => k_is)
    (case k11 => k_is)
    (case a12 => k_is)
    (case l12 => k_is)
    (case c12 => k_is)
    (case k12 => k_is)
    (case a13 => k_is)
    (case l13 => k_is)
    (case c13 => k_is)
    (case k13 => k_is)
    (case a14 => k_is)
    (case l14 => k_is)
    (case c14 => k_is)
    (case k14 => k_is)
    (case a15 => k_is)
    (case l15 => k_is)
    (case c15 => k_is)
    (case k15 => k_is)
    (case a16 => k_is)
    (case l16 => k_is)
    (case c16 => k_is)
    (case k16 => k_is)
    (case a17 => k_is)
    (case l17 => k_is)
    (case c17 => k_is)
    (case k17 => k_is)
    (case a18 => k_is)
    (case l18 => k_is)
    (case c18 => k_is)
    (case k18 => k_is)
    (case a19 => k_is)
    (case l19 => k_is)
    (case c19 => k_is)
    (case k19 => k_is)
    (case a20 => k_is)
    (case l20 => k_is)
    (case c20 => k_is)
    (case k20 => k_is)
    (case a21 => k_is)
    (case l21 => k_is)
    (case c21 => k_is)
    (case k21 => k_is)
    (case a22 => k_is)
    (case l22 => k_is)
    (case c22 => k_is)
    (case k22 => k_is)
    (case a23 => k_is)
    (case l23 => k_is)
    (case c23 => k_is)
    (case k23 => k_is)
    (case lco1 => k_is)
    (case hco1 => rfl)
    (case nPt1 => first | rfl | k_is | kernel_rfl)
    (case a24 => k_is)
    (case l24 => k_is)
    (case c24 => k_is)
    (case k24 => k_is)
    (case lco2 => k_is)
    (case hco2 => rfl)
    (case nPt2 => first | rfl | k_is | kernel_rfl)
    (case a25 => k_is)
    (case l25 => k_is)
    (case c25 => k_is)
    (case k25 => k_is)
    (case a26 => k_is)
    (case l26 => k_is)
    (case c26 => k_is)
    (case k26 => k_is)
    (case lco3 => k_is)
    (case hco3 => rfl)
    (case nPt3 => first | rfl | k_is | kernel_rfl)
    (case aC => k_is)
    (case am0 => k_is)
    (case im0 => k_is)
    (case lm0 => k_is)
    (case cm0 => k_is)
    (case km0 => k_is)
    (case am1 => k_is)
    (case im1 => k_is)
    (case lm1 => k_is)
    (case cm1 => k_is)
    (case km1 => k_is)
    (case am2 => k_is)
    (case im2 => k_is)
    (case lm2 => k_is)
    (case cm2 => k_is)
    (case km2 => k_is)
    (case am3 => k_is)
    (case im3 => k_is)
    (case lm3 => k_is)
    (case cm3 => k_is)
    (case km3 => k_is)
    (case am4 => k_is)
    (case im4 => k_is)
    (case lm4 => k_is)
    (case cm4 => k_is)
    (case km4 => k_is)
    (case am5 => k_is)
    (case im5 => k_is)
    (case lm5 => k_is)
    (case cm5 => k_is)
    (case km5 => k_is)
    (case am6 => k_is)
    (case im6 => k_is)
    (case lm6 => k_is)
    (case cm6 => k_is)
    (case km6 => k_is)
    (case am7 => k_is)
    (case im7 => k_is)
    (case lm7 => k_is)
    (case cm7 => k_is)
    (case km7 => k_is)
    (case am8 => k_is)
    (case im8 => k_is)
    (case lm8 => k_is)
    (case cm8 => k_is)
    (case km8 => k_is)
    (case amp0 => k_is)
    (case gmp0 => k_is)
    (case tmp0 => k_is)
    (case r_mp0 => k_is)
    (case lmp0 => k_is)
    (case cmp0 => k_is)
    (case kmp0 => k_is)
    (case amin => k_is)
    (case imin => k_is)
    (case lmin => k_is)
    (case cmin => k_is)
    (case kmin => k_is)
    (case pgC => k_is)
    (case hdC => k_is)
    (case poC => k_is)
    (case saC => k_is)
    (case mkC => k_is)
    (case kcC => k_is)
    (case icC => k_is)
    (case moC => k_is)
    (case jcC => k_is)
    (case tcC => k_is)
    (case nC_name => k_is)
    (case nC_own_slots => k_is)
    (case nC_own_turns => k_is)
    (case suC_NoneType => k_is)
    (case suC_str => k_is)
    (case suC_list => k_is)
    (case nneC => k_is)
    (case rdC => k_is)
    (case gaC => k_is)
    (case attsy => k_is)
    (case rcsy => k_is)
    (case fisy => k_is)
    (case lsy => k_is)
    (case csy => k_is)
    (case ksy => k_is)
    (case attal => k_is)
    (case rcal => k_is)
    (case fial => k_is)
    (case lal => k_is)
    (case cal => k_is)
    (case kal => k_is)
    (case attak => k_is)
    (case rcak => k_is)
    (case lak => k_is)
    (case cak => k_is)
    (case kak => k_is)
    (case gt => k_is)
    (case tk => k_is)
    (case aXDP => k_is)
    (case xXDP => k_is)
    (case saXDP => k_is)
    (case eXDP => k_is)
    (case tXDP => k_is)
    (case kXDP => k_is)
    (case jXDP => k_is)
    (case ssXDP => first | k_is | rfl)
    (case svXDP => k_is)
    (case adXDP => k_is)
    (case tdXDP => k_is)
    (case ldXDP => k_is)
    (case cdXDP => k_is)
    (case lcXDP => k_is)
    (case lkXDP => k_is)
    (case hvXDP => rfl)
    (case hfXDP => first | rfl | kernel_rfl)
    (case spXDP => ks_is)
    (case noDP_value => k_is)
    (case gaXDP => k_is)
    (case ggXDP => k_is)
    (case hdXDP => k_is)
    (case aXDN => k_is)
    (case xXDN => k_is)
    (case saXDN => k_is)
    (case eXDN => k_is)
    (case tXDN => k_is)
    (case kXDN => k_is)
    (case jXDN => k_is)
    (case ssXDN => first | k_is | rfl)
    (case svXDN => k_is)
    (case adXDN => k_is)
    (case tdXDN => k_is)
    (case ldXDN => k_is)
    (case cdXDN => k_is)
    (case lcXDN => k_is)
    (case lkXDN => k_is)
    (case hvXDN => rfl)
    (case hfXDN => first | rfl | kernel_rfl)
    (case spXDN => ks_is)
    (case noDN_value => k_is)
    (case gaXDN => k_is)
    (case ggXDN => k_is)
    (case hdXDN => k_is)
    (case aXDC => k_is)
    (case xXDC => k_is)
    (case saXDC => k_is)
    (case eXDC => k_is)
    (case tXDC => k_is)
    (case kXDC => k_is)
    (case jXDC => k_is)
    (case ssXDC => first | k_is | rfl)
    (case svXDC => k_is)
    (case adXDC => k_is)
    (case tdXDC => k_is)
    (case ldXDC => k_is)
    (case cdXDC => k_is)
    (case lcXDC => k_is)
    (case lkXDC => k_is)
    (case hvXDC => rfl)
    (case hfXDC => first | rfl | kernel_rfl)
    (case spXDC => ks_is)
    (case noDC_value => k_is)
    (case gaXDC => k_is)
    (case ggXDC => k_is)
    (case hdXDC => k_is)
    (case aXDV => k_is)
    (case xXDV => k_is)
    (case saXDV => k_is)
    (case eXDV => k_is)
    (case tXDV => k_is)
    (case kXDV => k_is)
    (case jXDV => k_is)
    (case ssXDV => first | k_is | rfl)
    (case svXDV => k_is)
    (case adXDV => k_is)
    (case tdXDV => k_is)
    (case ldXDV => k_is)
    (case cdXDV => k_is)
    (case lcXDV => k_is)
    (case lkXDV => k_is)
    (case hvXDV => rfl)
    (case hfXDV => first | rfl | kernel_rfl)
    (case spXDV => ks_is)
    (case noDV_name => k_is)
    (case gaXDV => k_is)
    (case ggXDV => k_is)
    (case hdXDV => k_is)
    (case clXDP => k_is)
    (case moXDP => k_is)
    (case sISDP => k_is)
    (case clXDN => k_is)
    (case moXDN => k_is)
    (case sISDN => k_is)
    (case clXDC => k_is)
    (case moXDC => k_is)
    (case sISDC => k_is)
    (case sNP => k_is)
    (case sCP => k_is)
    (case sCN => k_is)
    (case aS2 => k_is)
    (case jS2 => k_is)
    (case tS2 => k_is)
    (case htop => first | rfl | kernel_rfl)
    (case z_super => k_is)
    (case opn => k_is)
    (case kLt => k_is)
    (case kLo => k_is)
    (case kMo => k_is)
    (case z_isinstance => k_is)
    (case z_int => k_is)
    (case z_bool => k_is)
    (case z_len => k_is)
    (case z_list => k_is)
    (case z_max => k_is)
    (case z_min => k_is)
    (case z_sum => k_is)
    (case z_zip => k_is)
    (case z_range => k_is)
    (case z_tuple => k_is)
    (case z_enumerate => k_is)
    (case z_any => k_is)
    (case z_all => k_is)
    (case z_abs => k_is)
    (case z_divmod => k_is)
    (case z_str => k_is)
    (case z_repr => k_is)
    (case z_set => k_is)
    (case z_sorted => k_is)
    (case n12 => decide +kernel)
    (case n13 => decide +kernel)
    (case n23 => decide +kernel)
