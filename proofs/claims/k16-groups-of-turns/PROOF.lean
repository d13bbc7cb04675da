import PyProof.Rows.All
import Wide.All
import OpenK.AllK
import Wide.FinOn
import HandS.ForMost
import HandS.More
import PyProof.ReprRoads
import HandS.EndTab
import KE.KNest
import PyProof.ReprDict
import HandS.FStr
import KE.KExcIs
import HandS.ExcIs
import HandS.ExcField
import KE.KExcSuper
import HandS.ExcInit
import HandS.Nested
import HandS.Lambda
import HandS.ExcOwn
import KE.KOpsOwn
import KE.KCallOwn
import PyProof.InstEq
import HandS.SlotsOwn
import HandS.IsInst
import HandS.Star
import HandS.ClsMeth
import HandS.Property
import HandS.Style
import HandS.Wide
import HandS.WideBits
import HandS.TupAny
import HandS.Conv
import KE.KUnpack
import KE.KRevSl
import HandS.TryMany
import KE.SortData
import KE.KDictDisplayH
import HandS.Dict
import HandS.List
import HandS.Sort
import PyProof.Rows.ReprOcc
import PyProof.StrLawsRepr
import KE.KxStill
import HandS.Walk
import HandS.Deep
import HandS.TupSets
import KE.GoesEnum
import KE.GoesMore
import KE.GoesZip
import HandS.Iter
import HandS.Zip
import HandS.Exc
import PyProof.ReprLen
import HandS.HotCalls
import PyProof.TupleIter
import HandS.SetKeys
import HandS.SetFor
import KE.DataMinMax
import KE.DataCmp
import HandS.Strs
import KE.RegKSuper
import PySem.Challenge.RW_slotsums_k16_whole_groups_of_turns
set_option Elab.async false
set_option linter.all false
set_option maxRecDepth 100000
set_option maxHeartbeats 8000000
/-! Defs that ask what is being shown around them: FnOk where no repr is under way (guards = some []). -/
namespace L2
open PySem PySem.Spec PyProof.Rows
/-- the def keeps its promise wherever no repr is under way -/
structure FnG (P : Program) (w : World) (K : PySem.W.Frag) (mg : Str → Option Value) (base : Heap) (CX : CXT) (k : Nat) (f : Addr) (fd : FuncData) (ps : List Str) (sp : Sp) : Prop where
  len : ∀ vs H Q E, sp vs H Q E → vs.length = ps.length
  run : ∀ (A : Around) (outer : List Env) (s : Shared) (H : Hp) (args : Args) (us : List Value) (vs : List V) (Q : VK) (E : XK), A.guards = some [] → Room k A → Env0 P w K mg base A outer s H → BindsTo s fd args (ps.zip us) → Vals vs us → sp vs H Q E →
    codeAny (model P w) A (.call (.ref f) args) (CR CX outer P w H s Q E) s
section
variable {CX : CXT} {P : Program} {w : World} {K : PySem.W.Frag} {mg : Str → Option Value} {base : Heap} {k : Nat} {f : Addr} {fd : FuncData} {N ps : List Str} {sp : Sp}
theorem FnOk.gd (F : FnOk P w K mg base CX k f fd ps sp) : FnG P w K mg base CX k f fd ps sp := ⟨F.len, fun A outer s H args us vs Q E _ => F.run A outer s H args us vs Q E⟩
theorem FnG.mono {j : Nat} (F : FnG P w K mg base CX j f fd ps sp) (h : j ≤ k) : FnG P w K mg base CX k f fd ps sp := ⟨F.len, fun A outer s H args us vs Q E hg hr => F.run A outer s H args us vs Q E hg (hr.mono h)⟩
/-- a body walked where no repr is under way -/
theorem fn_ofG {name qual : Str} {params : Arguments} {body : List Stmt} {scope : Scope} {dV kV doc pm cdv ct oc : Value} {an od : Option Addr} {osl : Array (Option Value)}
    (lk : K.lookup f = some ⟨oc, od, .func (PySem.W.fnOf name qual params body scope dV kV doc pm an cdv ct), osl⟩) (hcd : PySem.W.codeIn K cdv qual = true) (S : FnScope N ps scope) (len : ∀ vs H Q E, sp vs H Q E → vs.length = ps.length)
    (hbody : ∀ (A : Around) (outer : List Env) (s : Shared) (H : Hp) (vs : List V) (Q : VK) (E : XK), A.guards = some [] → Room k (A.deeper (envOfC qual scope s.heap.objs.size f cdv)) → sp vs H Q E →
      ∃ t, PSs (cxOf CX P w K mg base N qual scope f cdv A outer s H E) body t ∧ t { nx := fun _ H' => Q .non H', rt := Q } (start N vs) H) :
    FnG P w K mg base CX (k + 1) f (PySem.W.fnOf name qual params body scope dV kV doc pm an cdv ct) ps sp := by
  refine ⟨len, fun A outer s H args us vs Q E gd hr e0 hb r hsp => ?_⟩
  have KX : K.In s.heap := e0.mod.kin.keeps fun b o e => (e0.bs b o e).1
  refine codeAny_call_function hr.depth (KX _ _ lk) rfl S.co S.gen rfl (PySem.W.codeRec_of KX hcd) (hb _ _ _ _ ?_)
  refine wpAny_newFunctionEnv_cells S.kind (fun ⟨n, v⟩ hy => (S.par n (List.of_mem_zip hy).1).imp id fun q => ⟨q, PySem.W.cellsFrom_some _ _ _ (.inl q)⟩) fun env he s1 x => ?_
  subst he
  refine ⟨(e0.mod.nolimit.keeps fun b o e => (e0.bs b o e).1).keeps x.toInCall.keep, codeAny_func ?_⟩
  obtain ⟨t, ht, hq⟩ := hbody A outer s H vs Q E gd (hr.deeper _) hsp
  refine wpAny_mono (ht.run [] s1 (start N vs) H _ (inv_start S hr.hd e0 (len _ _ _ _ hsp) r x) hq) (fun fl s' hs => ?_) fun e s' hs => hs
  cases fl with
  | ret u => obtain ⟨v, σ', H', J, rv, q⟩ := hs; exact ⟨v, H', J.os, J.bare, J.base, J.hok, rv, q⟩
  | next => obtain ⟨σ', H', J, q⟩ := hs; exact ⟨V.non, H', J.os, J.bare, J.base, J.hok, rfl, q⟩
  | brk => obtain ⟨_, _, _, q⟩ := hs; exact False.elim q
  | cont => obtain ⟨_, _, _, q⟩ := hs; exact False.elim q
theorem Fun.okG {x qual : Str} {st : Stmt} (F : Fun K x qual st f fd) (S : FnScope N ps (defScope st)) (len : ∀ vs H Q E, sp vs H Q E → vs.length = ps.length)
    (hbody : ∀ (cdv : Value) (A : Around) (outer : List Env) (s : Shared) (H : Hp) (vs : List V) (Q : VK) (E : XK), A.guards = some [] → Room k (A.deeper (envOfC qual (defScope st) s.heap.objs.size f cdv)) → sp vs H Q E →
      ∃ t, PSs (cxOf CX0 P w K mg base N qual (defScope st) f cdv A outer s H E).nox (defBody st) t ∧ t { nx := fun _ H' => Q .non H', rt := Q } (start N vs) H) : FnG P w K mg base CX0 (k + 1) f fd ps sp := by
  obtain ⟨oc, od, kV, doc, pm, an, cdv, ct, osl, rfl, lk, hcd⟩ := F.ex
  refine fn_ofG lk hcd S len fun A outer s H vs Q E gd hr hsp => ?_
  obtain ⟨t, h, q⟩ := hbody cdv A outer s H vs Q E gd hr hsp
  exact ⟨t, h.nox, q⟩
end
section
variable {X : Cx} {CX : CXT} {k : Nat} {f C : Addr} {fd : FuncData} {ps : List Str} {sp : Sp} {dvs : List V} {ds : List Value} {E : XK} {x m : Str} {p pos apos : Pos} {e o : Expr} {es : List Expr} {ta : TE} {t : TA}
theorem run_fnG {pins : List (Addr × Obj)} {σ : St} {H : Hp} {s : Shared} {Q : VK} {us : List Value} {vs : List V} (F : FnG X.prog X.w X.K X.mg X.base CX k f fd ps sp) (gd : X.A.guards = some []) (hr : Room k X.A) (hb : Binds X.K fd ps ds) (hd : Vals dvs ds) (hx : Passes CX X E)
    (I : Inv X pins σ H s) (r : Vals vs us) (h : sp (vs ++ dvs) H Q E) : wpAny (model X.prog X.w) X.A (call (.ref f) us) (EP X pins σ Q) X.xe s := by
  have r2 : Vals (vs ++ dvs) (us ++ ds) := r.append hd
  refine wpAny_call (codeAny_mono (F.run X.A X.stack s H ⟨us, []⟩ (us ++ ds) (vs ++ dvs) Q E gd hr I.env0 (hb s us I.kIn (by rw [← r2.length]; exact F.len _ _ _ _ h)) r2 h) fun r s' hq => ?_)
  cases r with
  | error e => exact hx pins σ H s e s' I hq
  | ok fl =>
    cases fl with
    | ret u => exact I.after hq
    | next => exact False.elim hq
    | brk => exact False.elim hq
    | cont => exact False.elim hq
theorem pe_callG (F : FnG X.prog X.w X.K X.mg X.base CX k f fd ps sp) (gd : X.A.guards = some []) (hr : Room k X.A) (hg : Gl X x) (hm : X.mg x = some (.ref f)) (hk : PySem.W.keepIn X.K (.ref f) = true) (hb : Binds X.K fd ps ds) (hd : Vals dvs ds) (hx : Passes CX X E)
    (ha : PA X (e :: es) t) (hdb : (x == ("__debug__" : Str)) = false := by decide) (he : starEach (e :: es) X.env = (false, eval e X.env) :: starEach es X.env := by rfl) (hpl : (backTo pos (starEach es X.env)).any (·.1) = false := by rfl) :
    PE X (.Call (.Name x p) (e :: es) [] pos) (tCall sp dvs E t) :=
  ⟨fun pins s σ H Q I h => wpAny_Call_Name_kw (ld_glob I hg hm (PySem.W.callWith_K (h₀ := X.base) I.ok.mod.kin hk (thn (ha.run pos pins s σ H _ I h) fun us s1 ⟨vs, H1, I1, r, q⟩ => ⟨I1.kIn, run_fnG F gd hr hb hd hx I1 r q⟩) he hpl) hdb)⟩
/-! ### repr of data -/
theorem call_reprD (gd : X.A.guards = some []) (hu : X.A.units + 70 < cLine) : CallR X (.builtin "repr") (fun xs H Q => ∃ a d, xs = [V.ref a] ∧ Dp X.K H (.ref a) d ∧ d.showable = true ∧ d.hasDict = false ∧ d.depth ≤ 64 ∧ d.shown.length ≤ sizeLine ∧ Q (.str d.shown) H) := by
  intro pins s σ H xs us Q I r h
  obtain ⟨a, d, rfl, hd, hs, hnd, hdp, hz, q⟩ := h
  obtain ⟨u, rfl, ru⟩ := vals1 r
  obtain rfl : u = Value.ref a := ru
  obtain ⟨as, rd⟩ := Dp.reads I d _ _ hd rfl
  refine PySem.repr_of_reads' rd hs (fun z => by rw [hnd] at z; cases z) gd (by omega) (fun _ _ e => e) (fun h' u tk kp => ?_) hz
  exact ⟨.str d.shown, H, I.kept (t' := tk) kp, ⟨_, rfl⟩, q⟩
end
end L2

/-! The end of a law row with lambdas whose defs are told by FnG. -/
namespace L2
open PySem PySem.Spec PyProof.Rows LamX
section
variable {P : Program} {w : World} {K : PySem.W.Frag} {mg mb : Str → Option Value} {CX : CXT} {k : Nat} {fa a : Addr} {fd : FuncData} {x : Str} {sp : Sp} {s₁ : Shared} {vs : List Value} {ns : List Int} {cs : List (Addr × Addr)}
abbrev emptyTab : Obj := { cls := .none, data := .fields #[] }
/-- the call from an abstract heap that tracks at most the script and the tables -/
theorem law_coreT (KX : K.In s₁.heap) (gl : s₁.heap.Ns mainGlobals mg) (bl : s₁.heap.Ns builtinsNs mb) (boot : ∀ x : Str, x ≠ "__name__" → mb x = bootBuiltins x) (lim : s₁.heap.NoLimit) (gens : s₁.gens = #[])
    (tabs : ∀ p ∈ cs, s₁.heap.get? p.2 = some emptyTab) (notK : ∀ p ∈ cs, K.lookup p.2 = none) (code : ∀ p ∈ cs, PySem.W.CodeHd s₁.heap p.1 p.2)
    (main : ∃ (bm : Addr) (ob : Obj), mg "__builtins__" = some (.ref bm) ∧ bm ≠ builtinsNs ∧ s₁.heap.get? bm = some ob ∧ ob.cls = .type "module" ∧ ob.dict = some builtinsNs ∧ ob.data = .plain)
    (ha : s₁.heap.get? a = some { cls := .type "list", data := .seq vs.toArray }) (room : Room k callerA)
    (F : ∀ base : Heap, K.In base → base.Ns mainGlobals mg → (∀ p ∈ cs, TabB base mg p.1 p.2) → FnG P w K mg base CX k fa fd [x] sp) (bind : ∀ (s : Shared) (u : Value), BindsTo s fd ⟨[u], []⟩ [(x, u)]) (noX : ∀ H e s', CX [] H s₁ (fun _ _ _ => False) e s' → False)
    (H : Hp) (atT : ∀ p ∈ cs, H p.2 = some (.tbl #[])) (frozen : ∀ b, (∀ p ∈ cs, b ≠ p.2) → H b = none ∨ ∃ o xs, H b = some (.frz o (.lst xs))) (wish : sp [.ref a] H (fun v _ => v = .bl true) fun _ _ _ => False) (hok : HOk P w H s₁.heap)
    (only : ∀ b, H b ≠ none → b = a ∨ ∃ p ∈ cs, b = p.2) (free : H a ≠ none → K.lookup a = none) :
    codeAny (model P w) callerA (.call (.ref fa) ⟨[.ref a], []⟩) (fun r s' => r = .ok (.ret (.bool true)) ∧ OldK s₁.heap s'.heap ∧ s'.os = s₁.os ∧ AllBare s'.gens) s₁ := by
  have untracked : ∀ {b : Addr} {o : Obj}, s₁.heap.get? b = some o → (∀ vs n, o.data ≠ .seq vs n) → o.data ≠ .fields #[] → H b = none := fun {b o} e q1 q2 => by
    refine Classical.byContradiction fun hb => ?_
    rcases only b hb with rfl | ⟨p, hp, rfl⟩
    · rw [ha] at e
      exact q1 _ _ (by rw [← Option.some.inj e])
    · rw [tabs p hp] at e
      exact q2 (by rw [← Option.some.inj e])
  have dicts : ∀ {b : Addr} {m : Str → Option Value}, s₁.heap.Ns b m → (hidT s₁.heap H).Ns b m := fun {b m} ⟨o, es, ep, e, d, r⟩ =>
    ⟨o, es, ep, hidT_get e (untracked e (fun _ _ z => nomatch d.symm.trans z) fun z => nomatch d.symm.trans z), d, r⟩
  have KB : K.In (hidT s₁.heap H) := fun b o e => hidT_get (KX b o e) (by
    refine Classical.byContradiction fun hb => ?_
    rcases only b hb with rfl | ⟨p, hp, rfl⟩
    · rw [free hb] at e
      cases e
    · rw [notK p hp] at e
      cases e)
  have mod : L2.Mod K mg (hidT s₁.heap H) := ⟨KB, dicts gl, ⟨mb, dicts bl, boot⟩, let ⟨mc, l1, l2⟩ := lim; ⟨mc, dicts l1, l2⟩⟩
  have TB : ∀ p ∈ cs, TabB (hidT s₁.heap H) mg p.1 p.2 := fun p hp => by
    have tp := tabs p hp
    constructor
    · obtain ⟨o, us, file, tf, flags, tg, inF, text, tt, c1, c2, c3, c4, c5, c6, c7, c8, c9, c10⟩ := code p hp
      refine ⟨o, us, file, tf, flags, tg, inF, text, tt, hidT_get c1 (untracked c1 (fun _ _ z => nomatch c3.symm.trans z) fun z => ?_), c2, c3, c4, c5, c6, c7, c8, c9, c10⟩
      have z2 : us = #[] := by
        have := c3.symm.trans z
        injection this
      subst z2
      simp at c4
    · obtain ⟨bm, ob, b1, b2, b3, b4, b5, b6⟩ := main
      refine ⟨bm, ob, b1, b2, fun z => ?_, fun z => ?_, hidT_get b3 (untracked b3 (fun _ _ z => nomatch b6.symm.trans z) fun z => nomatch b6.symm.trans z), b4, b5, b6⟩
      · obtain ⟨o, es, ep, e, d, _⟩ := gl
        rw [z, e] at b3
        cases b3
        exact nomatch d.symm.trans b6
      · rw [z, tp] at b3
        cases b3
        exact nomatch b6
    · intro z
      obtain ⟨o, es, ep, e, d, _⟩ := gl
      rw [z, tp] at e
      cases e
      exact nomatch d
  have start : Env0 P w K mg (hidT s₁.heap H) callerA [] s₁ H := ⟨rfl, mod, fun b o e => of_hidT e, Nat.le_of_eq (hidT_size _ _), trivial, (fun b hb => by cases hb), hok, .of_eq gens⟩
  refine codeAny_mono ((F _ KB (dicts gl) TB).run callerA [] s₁ H ⟨[.ref a], []⟩ [.ref a] [.ref a] _ _ rfl room start (bind s₁ (.ref a)) (.cons rfl .nil) wish) fun r s' h => ?_
  cases r with
  | error e => exact (noX H e s' h).elim
  | ok fl =>
    cases fl with
    | next => exact False.elim h
    | brk => exact False.elim h
    | cont => exact False.elim h
    | ret u =>
      obtain ⟨v, H', os, bare, un, after, r', q⟩ := h
      obtain rfl : v = .bl true := q
      obtain rfl : u = Value.bool true := r'
      have stays : ∀ b o, (∀ p ∈ cs, b ≠ p.2) → s₁.heap.get? b = some o → s'.heap.get? b = some o := fun b o nb e => by
        rcases frozen b nb with z | ⟨ob, xs, z⟩
        · exact un.keep b o e z (fun y => by cases y) (fun y => by cases y)
        · obtain ⟨e1, _⟩ := hok b _ z
          obtain ⟨e2, _⟩ := after b _ (un.frzs b ob _ z)
          rw [e] at e1
          cases e1
          exact e2
      have grows : ∀ p ∈ cs, ∃ more : Array Value, s'.heap.get? p.2 = some { cls := .none, data := .fields more } := fun p hp => by
        obtain ⟨more, z⟩ := un.tbls p.2 #[] (atT p hp)
        exact ⟨_, after p.2 _ z⟩
      have split : ∀ b : Addr, (∃ p ∈ cs, b = p.2) ∨ ∀ p ∈ cs, b ≠ p.2 := fun b => Classical.byCases .inl fun z => .inr fun p hp e => z ⟨p, hp, e⟩
      refine ⟨rfl, ⟨fun b o e => ?_, fun b o e => ?_⟩, os, bare⟩
      · rcases split b with ⟨p, hp, rfl⟩ | nb
        · obtain ⟨more, hm⟩ := grows p hp
          have e' := (tabs p hp).symm.trans e
          cases e'
          exact .inr (.inl ⟨((code p hp).tab (tabs p hp)).isCodeTable, rfl, #[], more, rfl, by rw [Array.empty_append]; exact hm⟩)
        · exact .inl (stays b o nb e)
      · rcases split b with ⟨p, hp, rfl⟩ | nb
        · obtain ⟨more, hm⟩ := grows p hp
          exact ⟨_, hm⟩
        · exact ⟨o, stays b o nb e⟩
open Classical in
/-- the script, if the text does not keep it, and the tables -/
noncomputable def startT (K : PySem.W.Frag) (a : Addr) (vs : List Value) (ns : List Int) (cs : List (Addr × Addr)) : Hp := fun b =>
  if b = a then (if K.lookup a = none then some (.frz { cls := .type "list", data := .seq vs.toArray } (.lst (ns.map V.int))) else none) else if ∃ p ∈ cs, b = p.2 then some (.tbl #[]) else none
theorem law_callT (KX : K.In s₁.heap) (gl : s₁.heap.Ns mainGlobals mg) (bl : s₁.heap.Ns builtinsNs mb) (boot : ∀ x : Str, x ≠ "__name__" → mb x = bootBuiltins x) (lim : s₁.heap.NoLimit) (gens : s₁.gens = #[])
    (tabs : ∀ p ∈ cs, s₁.heap.get? p.2 = some emptyTab) (notK : ∀ p ∈ cs, K.lookup p.2 = none) (code : ∀ p ∈ cs, PySem.W.CodeHd s₁.heap p.1 p.2)
    (main : ∃ (bm : Addr) (ob : Obj), mg "__builtins__" = some (.ref bm) ∧ bm ≠ builtinsNs ∧ s₁.heap.get? bm = some ob ∧ ob.cls = .type "module" ∧ ob.dict = some builtinsNs ∧ ob.data = .plain)
    (ha : s₁.heap.get? a = some { cls := .type "list", data := .seq vs.toArray }) (hi : IntsAre vs ns) (hl : ns.length ≤ sizeLine) (room : Room k callerA)
    (F : ∀ base : Heap, K.In base → base.Ns mainGlobals mg → (∀ p ∈ cs, TabB base mg p.1 p.2) → FnG P w K mg base CX k fa fd [x] sp) (bind : ∀ (s : Shared) (u : Value), BindsTo s fd ⟨[u], []⟩ [(x, u)]) (noX : ∀ H e s', CX [] H s₁ (fun _ _ _ => False) e s' → False)
    (hsp : ∀ H : Hp, (∀ p ∈ cs, H p.2 = some (.tbl #[])) → SqL K H a (ns.map V.int) → sp [.ref a] H (fun v _ => v = .bl true) fun _ _ _ => False) :
    codeAny (model P w) callerA (.call (.ref fa) ⟨[.ref a], []⟩) (fun r s' => r = .ok (.ret (.bool true)) ∧ OldK s₁.heap s'.heap ∧ s'.os = s₁.os ∧ AllBare s'.gens) s₁ := by
  have rv := vals_ints hi
  have apart : ∀ p ∈ cs, p.2 ≠ a := fun p hp z => by
    have e := tabs p hp
    rw [z, ha] at e
    cases e
  have atT : ∀ p ∈ cs, startT K a vs ns cs p.2 = some (.tbl #[]) := fun p hp => by
    unfold startT
    rw [if_neg (apart p hp), if_pos ⟨p, hp, rfl⟩]
  have atA : startT K a vs ns cs a = if K.lookup a = none then some (.frz { cls := .type "list", data := .seq vs.toArray } (.lst (ns.map V.int))) else none := by
    unfold startT
    rw [if_pos rfl]
  have list : SqL K (startT K a vs ns cs) a (ns.map V.int) := by
    cases hk : K.lookup a with
    | none => exact .inl (.inr ⟨_, by rw [atA, if_pos hk]⟩)
    | some o =>
      have e := KX a o hk
      rw [ha] at e
      cases e
      exact .inr ⟨_, vs.toArray, _, hk, rfl, rfl, rfl, by rw [List.size_toArray, hi.length]; exact hl, by simpa using rv⟩
  refine law_coreT KX gl bl boot lim gens tabs notK code main ha room F bind noX (startT K a vs ns cs) atT (fun b nb => ?_) (hsp _ atT list) (fun b u z => ?_) (fun b hb => ?_) fun z => ?_
  · by_cases hba : b = a
    · subst hba
      by_cases hk : K.lookup b = none
      · exact .inr ⟨_, _, by rw [atA, if_pos hk]⟩
      · exact .inl (by rw [atA, if_neg hk])
    · refine .inl ?_
      unfold startT
      rw [if_neg hba, if_neg fun ⟨p, hp, e⟩ => nb p hp e]
  · by_cases hba : b = a
    · subst hba
      rw [atA] at z
      by_cases hk : K.lookup b = none
      · rw [if_pos hk] at z
        cases z
        exact ⟨ha, by rw [List.length_map]; exact hl, vs, _, rv, ha⟩
      · rw [if_neg hk] at z
        cases z
    · unfold startT at z
      rw [if_neg hba] at z
      by_cases hp : ∃ p ∈ cs, b = p.2
      · rw [if_pos hp] at z
        cases z
        obtain ⟨p, h1, rfl⟩ := hp
        exact tabs p h1
      · rw [if_neg hp] at z
        cases z
  · by_cases hba : b = a
    · exact .inl hba
    · refine .inr (Classical.byContradiction fun hp => hb ?_)
      unfold startT
      rw [if_neg hba, if_neg hp]
  · refine Classical.byContradiction fun hk => z ?_
    rw [atA, if_neg hk]
end
/-- what is known of the law's promise at the head's heap -/
def LawT (l : PySem.W.OpenLaw) (w : World) (K : PySem.W.Frag) (CX : CXT) (k n : Nat) (x : Str) (mg : Str → Option Value) (fa : Addr) (h : Heap) : Prop :=
  ∃ (fd : FuncData) (cs : List (Addr × Addr)) (sp : Sp), (∀ p ∈ cs, h.get? p.2 = some emptyTab) ∧ (∀ p ∈ cs, K.lookup p.2 = none) ∧ (∀ p ∈ cs, PySem.W.CodeHd h p.1 p.2) ∧ (∀ (s : Shared) (u : Value), BindsTo s fd ⟨[u], []⟩ [(x, u)]) ∧
    (∀ (H : Hp) (a : Addr) (ns : List Int), ns.length ≤ n → (∀ p ∈ cs, H p.2 = some (.tbl #[])) → SqL K H a (ns.map V.int) → sp [.ref a] H (fun v _ => v = .bl true) fun _ _ _ => False) ∧
    ∀ base : Heap, K.In base → base.Ns mainGlobals mg → (∀ p ∈ cs, TabB base mg p.1 p.2) → FnG l.prog w K mg base CX k fa fd [x] sp
theorem walk_ofT {l : PySem.W.OpenLaw} {n k : Nat} {q : Program} {loose : List Str} {XP : (Str → Option Value) → Heap → Prop} {YP : World → Heap → Prop} {d : DefRec} {K : Params → PySem.W.Frag} {CX : World → CXT} {x : Str}
    (hn : l.most = some n) (hn2 : n ≤ sizeLine) (hdf : d.params.defaults = []) (hr : Room k callerA) (hY : ∀ (w : World) (h : Heap), YP w h → (K w.params).In h)
    (F : ∀ (w : World) (mg : Str → Option Value) (fa : Addr) (h : Heap), YP w h → (K w.params).In h → h.Ns mainGlobals mg → (∀ (d' : DefRec) (x : Str) (c P : Addr), (recsOf q).find? (fun e => e.name == x) = some d' → PySem.W.tabIn (K w.params) x = some (c, P) → PySem.W.CodeHd h c P ∧ h.get? P = some emptyTab) → mg d.name = some (.ref fa) → LawT l w (K w.params) (CX w) k n x mg fa h)
    (hCX : ∀ (w : World) (G : Hp) (s0 : Shared) (er : Value) (s1 : Shared), CX w [] G s0 (fun _ _ _ => False) er s1 → False) : PySem.W.WalkO q loose XP YP l.row.toRowW d [] (fun f vs => PySem.call f vs) := by
  refine Att.attach_call hn hdf ?_
  intro w s₀ s₁ mg mb fa _ _ _ _ a vs ns G Y _ _ _ hmg hobj hints hlen hg
  obtain ⟨fd, cs, sp, t1, t2, t3, hb, hsp, hF⟩ := F w mg fa _ Y (hY w _ Y) G.T.g (fun d' x c P h1 h2 => PySem.W.tab_of G.T (hY w _ Y) h1 h2) hmg
  exact law_callT (hY w _ Y) G.T.g G.T.b G.T.builtins G.T.nolimit hg t1 t2 t3 G.T.bmain hobj hints (Nat.le_trans hlen hn2) hr hF hb (fun H e s' => hCX w H s₁ e s') fun H hH hS => hsp H a ns hlen hH hS
end L2

/-! repr of lists whose elements have a __repr__ of their own. -/
namespace L2
open PySem PySem.Spec PyProof.Rows
theorem rl_depth {A : Around} {args : Args} : (A.under (.builtin "list.__repr__.loop" args)).depth ≤ A.depth + 1 := by
  first | exact Nat.le_of_eq rfl | simp [Around.under, Code.weight, Code.isCreation, Code.isGuard, Code.isCaller, Code.frames, Code.isFrame, guardIds]
theorem rl_units {A : Around} {args : Args} : (A.under (.builtin "list.__repr__.loop" args)).units ≤ A.units + 1 := by
  first | exact Nat.le_of_eq rfl | simp [Around.under, Code.cUnits, Code.frames, Code.isFrame]
theorem rl_frames {A : Around} {args : Args} : (A.under (.builtin "list.__repr__.loop" args)).frames = A.frames := by
  first | rfl | simp [Around.under, Code.envs, Code.isFrame, pushEnvs]
theorem rl_handled {A : Around} {args : Args} : (A.under (.builtin "list.__repr__.loop" args)).handled = A.handled := by
  first | rfl | simp [Around.under]
theorem Room.rl {k : Nat} {A : Around} (r : Room (k + 1) A) (args : Args) : Room k (A.under (.builtin "list.__repr__.loop" args)) :=
  ⟨by rw [rl_handled]; exact r.hd, by have := r.dp; have := @rl_depth A args; omega, by have := r.un; have := @rl_units A args; omega⟩
/-- v is shown as t, wherever there is room; J holds of the heap before and behind -/
def Sh (X : Cx) (k : Nat) (J : Hp → Prop) (v : V) (t : Str) : Prop :=
  ∀ (A' : Around) (pins : List (Addr × Obj)) (s : Shared) (σ : St) (H : Hp) (u : Value) (b : Nat) (E : Value → Shared → Prop) (Q : Str → Shared → Prop), A'.frames = some X.stack → Room k A' → Inv X pins σ H s → J H → RelV v u → b + t.length ≤ sizeLine →
    (∀ s' H', Inv X pins σ H' s' → J H' → Q t s') → wpAny (model X.prog X.w) A' (pyReprUnder b u) Q E s
theorem Sh.mono {X : Cx} {j k : Nat} {J : Hp → Prop} {v : V} {t : Str} (S : Sh X j J v t) (h : j ≤ k) : Sh X k J v t := fun A' pins s σ H u b E Q hf hr => S A' pins s σ H u b E Q hf (hr.mono h)
section
variable {X : Cx} {k : Nat} {J : Hp → Prop}
theorem sh_int {i : Int} (hi : i.natAbs.log2 < 1920) : Sh X k J (.int i) (toString i) := by
  intro A' pins s σ H u b E Q hf hr I j r hb q
  obtain ⟨t, rfl⟩ := r
  exact ReprIs.int t hi b hb A' E s Q fun tk => q _ H (I.tok tk) j
/-- an instance that has its own __repr__ -/
theorem sh_own {C g a : Addr} {sp : Sp} {t : Str} (hs : PySem.W.findIn X.K (.ref C) "__repr__" = some (some (.ref g))) (hf : PySem.W.isFn X.K (.ref g) = true) (F : FnR X.prog X.w X.K X.mg X.base CX0 k g sp)
    (hi : ∀ H, J H → ∃ dx fs, H a = some (.ins C dx fs)) (hsp : ∀ H, J H → sp [.ref a] H (fun r H' => r = .str t ∧ J H') E0) : Sh X k J (.ref a) t := by
  intro A' pins s σ H u b E Q hfr hr I j r hb q
  obtain rfl : u = Value.ref a := r
  obtain ⟨dx, fs, ha⟩ := hi H j
  obtain ⟨mA, M, _⟩ := ins_get I.hok ha
  obtain ⟨od, It, _⟩ := M.look
  refine wpAny_pyReprUnder_ref (by omega) ?_
  unfold pyReprObjUnder pyReprObjBy
  refine wpAny_bind (wpAny_cRoomFor hr.units0 ?_)
  refine wpAny_bind (wpAny_bind (It.type.here ((PySem.W.looks_findIn I.kIn hs).here ?_)))
  show wpAny _ _ (if (some (Value.ref g)).isNone = true then _ else _) _ _ _
  rw [if_neg (by simp)]
  have hcall : wpAny (model X.prog X.w) A' (call (.ref g) [.ref a]) (fun v s' => ∃ y tk, v = .str y tk ∧ Q y s') E s := by
    refine wpAny_call (codeAny_mono (F A' X.stack s H [.ref a] [.ref a] _ E0 hr ⟨hfr, I.env0.mod, I.env0.bs, I.env0.bsz, I.env0.funs, I.env0.frf, I.env0.hok, I.env0.bare⟩ (.cons rfl .nil) (hsp H j)) fun r s' hq => ?_)
    cases r with
    | error e => exact False.elim hq
    | ok fl =>
      cases fl with
      | ret u =>
        obtain ⟨v, H', I', rv, ev, j'⟩ := I.after hq
        subst ev
        obtain ⟨tk, rfl⟩ := rv
        exact ⟨t, tk, rfl, q _ _ I' j'⟩
      | next => exact False.elim hq
      | brk => exact False.elim hq
      | cont => exact False.elim hq
  refine wpAny_bind (m := callSpecialIfBoundBy? _ (.ref a) (Str.ofString "__repr__")) ?_
  simp only [callSpecialIfBoundBy?, bindSpecialIfBound?]
  refine wpAny_holding (wpAny_bind (wpAny_bind (wpAny_bind (It.type.here ((PySem.W.looks_findIn I.kIn hs).here ?_)))))
  refine wpAny_bind (wpAny_askSetting (wpAny_ite ?_))
  have fin : ∀ {Q' : Option Value → Shared → Prop}, (∀ y tk s', Q y s' → Q' (some (.str y tk)) s') → wpAny (model X.prog X.w) A' (call (.ref g) ([.ref a] ++ []) >>= fun v => pure (some v)) Q' E s := fun {Q'} hq => wpAny_bind (wpAny_mono hcall (fun v s' ⟨y, tk, e, h'⟩ => by subst e; exact wpAny_pure (hq y tk s' h')) fun _ _ h' => h')
  have fin2 : ∀ y tk s', Q y s' → wpAny (model X.prog X.w) A' (do if ← isInstance (.str y tk) (.type "str") then pure (Value.str y tk) else raiseError "TypeError" s!"__repr__ returned non-string (type {← typeNameOf (.str y tk)})") (fun v s' => ∃ x u, v = .str x u ∧ Q x s') E s' := fun y tk s' h => by
    refine wpAny_bind (wpAny_isInstance (T := "str") (b := true) rfl isSubtype_str_str ?_)
    exact wpAny_pure ⟨y, tk, rfl, h⟩
  split
  · exact wpAny_bind ((PySem.W.bind_fn I.kIn _ (beq_iff_eq.mp hf)).here (wpAny_pure (fin fin2)))
  · exact wpAny_tryCatch (wpAny_bind ((PySem.W.bind_fn I.kIn _ (beq_iff_eq.mp hf)).here (wpAny_pure (fin fin2))))
end
end L2

namespace L2
open PySem PySem.Spec PyProof.Rows
theorem in1_depth {A : Around} : A.in1.depth ≤ A.depth + 1 := by
  first | exact Nat.le_of_eq rfl | exact Nat.le_succ _ | simp [Around.in1]
theorem Room.in1' {k : Nat} {A : Around} (r : Room (k + 1) A) : Room k A.in1 :=
  ⟨r.hd, by have := r.dp; have := @in1_depth A; omega, by have := r.un; have e : A.in1.units = A.units + 1 := rfl; omega⟩
section
variable {X : Cx} {k : Nat} {J : Hp → Prop}
/-- repr(x), x an instance with its own __repr__ -/
theorem call_reprO {C g : Addr} {sp : Sp} {E : XK} (hs : PySem.W.findIn X.K (.ref C) "__repr__" = some (some (.ref g))) (hf : PySem.W.isFn X.K (.ref g) = true) (F : FnR X.prog X.w X.K X.mg X.base CX0 k g sp) (hr : Room (k + 1) X.A) :
    CallR X (.builtin "repr") (fun us H Q => ∃ a dx fs, us = [.ref a] ∧ H a = some (.ins C dx fs) ∧ sp [.ref a] H (fun v H' => ∃ t, v = .str t ∧ Q (.str t) H') E0) := by
  rintro pins s σ H _ us Q I r ⟨a, dx, fs, rfl, ha, q⟩
  rcases vals1 r with ⟨_, rfl, rfl⟩
  have M := (ins_get I.hok ha).choose_spec.1
  obtain ⟨od, It, _⟩ := M.look
  obtain ⟨m, hF⟩ := I.fr
  refine PySem.W.repr_K (by have := hr.un; show X.A.units + 1 < cLine; omega) hF I.ok.mod.kin It hs hf ?_
  have run := F X.A.in1 X.stack s H [.ref a] [.ref a] _ E0 hr.in1' I.env0.in1 (show Vals [V.ref a] [Value.ref a] from .cons rfl .nil) q
  refine wpAny_call (codeAny_mono run ?_)
  rintro (er | fl) s1 z
  · exact False.elim z
  · cases fl with
    | ret u =>
      obtain ⟨_, H1, J1, rv, t, rfl, w⟩ := I.after z
      obtain ⟨tk, rfl⟩ := rv
      exact ⟨.str t, H1, J1, ⟨tk, rfl⟩, w⟩
    | _ => exact False.elim z
end
end L2

/-! How values are shown, wherever a repr may be under way: B, the containers that must not be under way. -/
namespace L2
open PySem PySem.Spec PyProof.Rows
def Clr (g : List Code) (B : Addr → Prop) : Prop := ∀ c, B c → Clear g c
theorem Clr.nil (B : Addr → Prop) : Clr [] B := fun c _ => Clear.nil c
/-- v is shown as t: within a container, by !r, by repr(..); J holds of the heap before and behind -/
structure Sg (X : Cx) (k : Nat) (J : Hp → Prop) (B : Addr → Prop) (v : V) (t : Str) : Prop where
  under : ∀ (A' : Around) (g : List Code) (pins : List (Addr × Obj)) (s : Shared) (σ : St) (H : Hp) (u : Value) (b : Nat) (E : Value → Shared → Prop) (Q : Str → Shared → Prop), A'.frames = some X.stack → A'.guards = some g → Clr g B → Room k A' → Inv X pins σ H s → J H → RelV v u → b + t.length ≤ sizeLine →
    (∀ s' H', Inv X pins σ H' s' → J H' → Q t s') → wpAny (model X.prog X.w) A' (pyReprUnder b u) Q E s
  obj : ∀ (A' : Around) (g : List Code) (pins : List (Addr × Obj)) (s : Shared) (σ : St) (H : Hp) (u : Value) (E : Value → Shared → Prop) (Q : Value → Shared → Prop), A'.frames = some X.stack → A'.guards = some g → Clr g B → Room k A' → Inv X pins σ H s → J H → RelV v u → t.length ≤ sizeLine →
    (∀ s' H' tk, Inv X pins σ H' s' → J H' → Q (.str t tk) s') → wpAny (model X.prog X.w) A' (pyReprObj u) Q E s
  call : ∀ (A' : Around) (g : List Code) (pins : List (Addr × Obj)) (s : Shared) (σ : St) (H : Hp) (u : Value) (E : Value → Shared → Prop) (Q : Value → Shared → Prop), A'.frames = some X.stack → A'.guards = some g → Clr g B → Room (k + 1) A' → Inv X pins σ H s → J H → RelV v u → t.length ≤ sizeLine →
    (∀ s' H' tk, Inv X pins σ H' s' → J H' → Q (.str t tk) s') → wpAny (model X.prog X.w) A' (PySem.call (.builtin "repr") [u]) Q E s
theorem Sg.mono {X : Cx} {j k : Nat} {J : Hp → Prop} {B B' : Addr → Prop} {v : V} {t : Str} (S : Sg X j J B v t) (h : j ≤ k) (hB : ∀ b, B b → B' b) : Sg X k J B' v t :=
  ⟨fun A' g pins s σ H u b E Q hf hg hc hr => S.under A' g pins s σ H u b E Q hf hg (fun c hc' => hc c (hB c hc')) (hr.mono h), fun A' g pins s σ H u E Q hf hg hc hr => S.obj A' g pins s σ H u E Q hf hg (fun c hc' => hc c (hB c hc')) (hr.mono h),
   fun A' g pins s σ H u E Q hf hg hc hr => S.call A' g pins s σ H u E Q hf hg (fun c hc' => hc c (hB c hc')) (hr.mono (Nat.succ_le_succ h))⟩
section
variable {X : Cx} {k : Nat} {J : Hp → Prop} {B : Addr → Prop}
theorem sg_int {i : Int} (hi : i.natAbs.log2 < 1920) : Sg X k J B (.int i) (toString i) :=
  ⟨fun A' g pins s σ H u b E Q hf hg hc hr I j r hb q => by
    obtain ⟨t, rfl⟩ := r
    exact ReprIs.int t hi b hb A' E s Q fun tk => q _ H (I.tok tk) j,
  fun A' g pins s σ H u E Q hf hg hc hr I j r hb q => by
    obtain ⟨t, rfl⟩ := r
    exact pyReprObj_int hi (q _ H _ (I.tok _) j),
  fun A' g pins s σ H u E Q hf hg hc hr I j r hb q => by
    obtain ⟨t, rfl⟩ := r
    exact PySem.P.repr_of_int hi (q _ H _ (I.tok _) j)⟩
theorem sg_str {x : Str} (hx : (reprText x).length ≤ sizeLine) : Sg X k J B (.str x) (reprText x) :=
  ⟨fun A' g pins s σ H u b E Q hf hg hc hr I j r hb q => by
    obtain ⟨t, rfl⟩ := r
    exact ReprIs.str x t hx b hb A' E s Q fun tk => q _ H (I.tok tk) j,
  fun A' g pins s σ H u E Q hf hg hc hr I j r hb q => by
    obtain ⟨t, rfl⟩ := r
    exact pyReprObj_str (q _ H _ (I.tok _) j) hx,
  fun A' g pins s σ H u E Q hf hg hc hr I j r hb q => by
    obtain ⟨t, rfl⟩ := r
    exact PySem.P.repr_of_str (q _ H _ (I.tok _) j) hx⟩
theorem sg_bl {x : Bool} : Sg X k J B (.bl x) (if x then "True" else "False") :=
  ⟨fun A' g pins s σ H u b E Q hf hg hc hr I j r hb q => by
    obtain rfl : u = Value.bool x := r
    exact ReprIs.bool x b hb A' E s Q fun tk => q _ H (I.tok tk) j,
  fun A' g pins s σ H u E Q hf hg hc hr I j r hb q => by
    obtain rfl : u = Value.bool x := r
    exact pyReprObj_bool (q _ H _ (I.tok _) j),
  fun A' g pins s σ H u E Q hf hg hc hr I j r hb q => by
    obtain rfl : u = Value.bool x := r
    exact PySem.P.repr_of_bool (q _ H _ (I.tok _) j)⟩
theorem sg_non : Sg X k J B .non "None" :=
  ⟨fun A' g pins s σ H u b E Q hf hg hc hr I j r hb q => by
    obtain rfl : u = Value.none := r
    exact ReprIs.none b hb A' E s Q fun tk => q _ H (I.tok tk) j,
  fun A' g pins s σ H u E Q hf hg hc hr I j r hb q => by
    obtain rfl : u = Value.none := r
    exact pyReprObj_none (q _ H _ (I.tok _) j),
  fun A' g pins s σ H u E Q hf hg hc hr I j r hb q => by
    obtain rfl : u = Value.none := r
    exact PySem.P.repr_of_none (q _ H _ (I.tok _) j)⟩
/-- the empty list -/
theorem sg_nil {a : Addr} (hJ : ∀ H, J H → H a = some (.lst [])) : Sg X k J B (.ref a) "[]" :=
  ⟨fun A' g pins s σ H u b E Q hf hg hc hr I j r hb q => by
    obtain rfl : u = Value.ref a := r
    obtain ⟨_, its, nn, rv, ha⟩ := (show ObjOk X.prog X.w H s.heap a (.lst []) from I.hok a _ (hJ H j))
    cases rv
    exact wpAny_pyReprUnder_ref (by omega) (wpAny_pyReprObjUnder_list_empty ⟨_, ha, rfl⟩ hr.units0 ha rfl ⟨_, _, rfl, q _ H (I.tok _) j⟩),
  fun A' g pins s σ H u E Q hf hg hc hr I j r hb q => by
    obtain rfl : u = Value.ref a := r
    obtain ⟨_, its, nn, rv, ha⟩ := (show ObjOk X.prog X.w H s.heap a (.lst []) from I.hok a _ (hJ H j))
    cases rv
    exact wpAny_pyReprObj_list_empty ⟨_, ha, rfl⟩ hr.units0 ha rfl (q _ H _ (I.tok _) j),
  fun A' g pins s σ H u E Q hf hg hc hr I j r hb q => by
    obtain rfl : u = Value.ref a := r
    obtain ⟨_, its, nn, rv, ha⟩ := (show ObjOk X.prog X.w H s.heap a (.lst []) from I.hok a _ (hJ H j))
    cases rv
    exact call_repr_slot (by have := hr.un; omega) ⟨_, ha, rfl⟩ F.slot_list_repr.toG (call_list_repr_empty ⟨_, ha, rfl⟩ ha rfl ⟨_, _, rfl, q _ H _ (I.tok _) j⟩)⟩
end
end L2

namespace L2
open PySem PySem.Spec PyProof.Rows
abbrev lobj (acc : Array Value) (c : Nat) : Obj := { cls := .type "list", dict := none, data := .seq acc c, slots := #[] }
/-- a shown list bounds its length and its items' texts -/
theorem shown_in_line {xs : List V} {ts : List Str} (same : ts.length = xs.length) (fits : (listText ts).length ≤ sizeLine) : xs.length ≤ sizeLine ∧ ∀ t ∈ ts, t.length ≤ sizeLine := by
  obtain ⟨all, each, _⟩ := textFrom_len ts 0 "["
  have whole : (listText ts).length = (textFrom 0 "[" ts).length + 1 := strLen_append _ _
  have none_ : ¬ (0 : Nat) > 0 := by decide
  simp only [none_, if_false] at all
  exact ⟨by omega, fun t ht => Nat.le_trans (each t ht) (by omega)⟩
section
variable {X : Cx} {k : Nat} {J : Hp → Prop} {B : Addr → Prop}
theorem rg_run {A : Around} {g : List Code} {R : Result → Shared → Prop} {a P : Addr} {xs : List V} {ts : List Str} {b : Nat} {pins : List (Addr × Obj)} {σ : St} (hfr : A.frames = some X.stack) (hg : A.guards = some g) (hcl : Clr g B) (hna : ¬ B a) (hr : Room (k + 1) A) (hJ : ∀ H, J H → H a = some (.lst xs))
    (hlen : ts.length = xs.length) (hT : ∀ (i : Nat) (v : V), xs[i]? = some v → ∃ t, ts[i]? = some t ∧ Sg X k J B v t) (hsz : b + (listText ts).length ≤ sizeLine)
    (hP1 : X.s_0.heap.objs.size ≤ P) (hP2 : ∀ p ∈ X.pn ++ pins, p.1 ≠ P)
    (hR : ∀ s' H' u, Inv X pins σ H' s' → J H' → R (.ok (.ret (.str (listText ts) u))) s') :
    ∀ (n i : Nat) (s : Shared) (H : Hp) (acc : Array Value) (c : Nat) (done : List (Str × Tok)), xs.length - i = n → i ≤ xs.length → Inv X ((P, lobj acc c) :: pins) σ H s → J H → acc.toList = strValues done → done.map (·.1) = ts.take i →
    codeAny (model X.prog X.w) A (.builtin "list.__repr__.loop" ⟨[.ref a, rawInt i, .ref P, rawInt ((b + piled (ts.take i) : Nat) : Int)], []⟩) R s := by
  obtain ⟨hsz1, hsz2⟩ := shown_in_line hlen (Nat.le_trans (Nat.le_add_left _ _) hsz)
  have hsz3 : (listText ts).length ≤ sizeLine := by omega
  have hp3 := piled_le_listText ts
  have drop : ∀ {acc : Array Value} {c : Nat} {H : Hp} {s : Shared}, Inv X ((P, lobj acc c) :: pins) σ H s → Inv X pins σ H s := fun I => I.pins_of fun p hp => I.pin p (List.mem_append_right _ (List.mem_cons_of_mem _ hp))
  intro n
  induction n with
  | zero =>
    intro i s H acc c done hk hi I j hacc hdone
    have hin : i = xs.length := by omega
    obtain ⟨_, its, nn, rv, ha⟩ := (show ObjOk X.prog X.w H s.heap a (.lst xs) from I.hok a _ (hJ H j))
    have hlv := rv.length
    obtain ⟨hPo, hPn, hPl, hPf, _⟩ := I.pin (P, lobj acc c) (List.mem_append_right _ List.mem_cons_self)
    refine codeAny_builtin F.entry_list_repr_loop ?_
    show wpAny _ _ (Builtin.«list.__repr__.loop» ⟨[.ref a, .int i 0, .ref P, .int ((b + piled (ts.take i) : Nat) : Int) 0], []⟩) _ _ s
    rw [repr_loop_tree]
    refine wpAny_bind (wpAny_listItems ha rfl ?_)
    have over : its.toArray[(i : Int).toNat]? = none := by simp [hin, hlv]
    have whole : done.map (·.1) = ts := by simpa [hin, ← hlen] using hdone
    rw [over]
    dsimp only
    unfold reprEnd
    exact wpAny_bind (wpAny_listItems hPo rfl (by rw [hacc, repr_fold, whole]; exact wpAny_bind (wpAny_pure (wpAny_bind (wpAny_mkStr (wpAny_pure (hR _ H _ ((drop I).tok _) j)) hsz3)))))
  | succ n ih =>
    intro i s H acc c done hk hi I j hacc hdone
    have hlt : i < xs.length := by omega
    obtain ⟨_, its, nn, rv, ha⟩ := (show ObjOk X.prog X.w H s.heap a (.lst xs) from I.hok a _ (hJ H j))
    have hlv := rv.length
    obtain ⟨t, ht, hrep⟩ := hT i xs[i] (by simp [hlt])
    obtain ⟨u, hu, ru⟩ := rv.get (show xs[i]? = some xs[i] by simp [hlt])
    have grown := And.intro (piled_take_succ ht) (piled_take_le ts (i + 1))
    obtain ⟨hp1, hp2⟩ := grown
    have here : its.toArray[(i : Int).toNat]? = some u := by simpa using hu
    refine codeAny_builtin F.entry_list_repr_loop ?_
    change wpAny _ _ (Builtin.«list.__repr__.loop» ⟨[.ref a, .int i 0, .ref P, .int ((b + piled (ts.take i) : Nat) : Int) 0], []⟩) _ _ s
    rw [repr_loop_tree]
    refine wpAny_bind (wpAny_listItems ha rfl ?_)
    rw [here, Int.toNat_natCast]
    dsimp only
    refine wpAny_bind (wpAny_holding (hrep.under _ _ ((P, lobj acc c) :: pins) s σ H u (b + piled (ts.take i) + 1) _ _ (by rw [rl_frames]; exact hfr) (guards_under_guard (isGuard_list_loop _) hg) (fun c hc => (hcl c hc).cons (a := a) fun e => hna (e ▸ hc)) (hr.rl _) I j ru (by omega) fun s1 H1 I1 j1 => ?_))
    have short := hsz2 t (List.mem_of_getElem? ht)
    refine wpAny_bind (wpAny_mkStr (wpAny_bind ?_) short)
    change wpAny _ _ (updateSeq P _) _ _ _
    have hasz : acc.size ≤ sizeLine := by
      have gathered := congrArg List.length hacc
      have told := congrArg List.length hdone
      simp only [strValues, List.length_map, List.length_take, Array.length_toList] at gathered told
      omega
    obtain ⟨hPo, hPn, hPl, hPf, _⟩ := I1.pin (P, lobj acc c) (List.mem_append_right _ List.mem_cons_self)
    refine wpAny_updateSeq hPo rfl (wpAny_pure ⟨F.quiet_list_repr_loop _, ?_⟩) hasz
    rw [show ((i : Int) + 1) = ((i + 1 : Nat) : Int) by omega, show b + piled (ts.take i) + (t.length + 2) = b + piled (ts.take (i + 1)) by omega]
    obtain ⟨c', hself⟩ : ∃ c', (s1.heap.update P (Obj.mapSeq (·.push (.str t s1.toks)))).get? P = some (lobj (acc.push (.str t s1.toks)) c') := ⟨_, Heap.get?_update_self _ hPo rfl⟩
    refine ih (i + 1) _ H1 (acc.push (.str t s1.toks)) c' (done ++ [(t, s1.toks)]) (by omega) hlt ?_ j1 (by simp [hacc, strValues]) (by simp [List.take_add_one, ht, hdone])
    refine Inv.pins_of (pins := pins) ?_ fun p hp => ?_
    · refine ((drop I1).tok (s1.toks + 1)).turned (it := P) (t' := s1.toks + 1) (fun b o hb e => (Heap.get?_update_other _ _ (fun h : P = b => hb h.symm)).trans e) hPn hPl (.inr hP1) (fun x c' hc z => ?_) hP2
      obtain ⟨v, o, ho, hd⟩ := I1.cell x c' hc
      rw [z, hPo] at ho
      cases ho
      cases hd
    · rcases List.mem_cons.mp hp with rfl | hp
      · exact ⟨hself, hPn, hPl, hPf, fun v z => by cases z⟩
      · obtain ⟨q1, q2, q3, q4, q5⟩ := I1.pin p (List.mem_append_right _ (List.mem_cons_of_mem _ hp))
        exact ⟨(Heap.get?_update_other _ _ (fun h : P = p.1 => hP2 p (List.mem_append_right _ hp) h.symm)).trans q1, q2, q3, q4, q5⟩
/-- what listReprAt does -/
theorem rg_at {A : Around} {g : List Code} {R : Result → Shared → Prop} {a : Addr} {xs : List V} {ts : List Str} {b : Nat} {pins : List (Addr × Obj)} {σ : St} {s : Shared} {H : Hp} (hfr : A.frames = some X.stack) (hg : A.guards = some g) (hcl : Clr g fun c => c = a ∨ B c) (hna : ¬ B a) (hr : Room (k + 1) A) (I : Inv X pins σ H s) (j : J H) (hJ : ∀ H, J H → H a = some (.lst xs)) (hne : xs ≠ [])
    (hlen : ts.length = xs.length) (hT : ∀ (i : Nat) (v : V), xs[i]? = some v → ∃ t, ts[i]? = some t ∧ Sg X k J B v t) (hsz : b + (listText ts).length ≤ sizeLine)
    (hR : ∀ s' H' u, Inv X pins σ H' s' → J H' → R (.ok (.ret (.str (listText ts) u))) s') :
    wpAny (model X.prog X.w) A.in1 (Builtin.listReprAt b ⟨[.ref a], []⟩) (fun fin s' => match fin with | .done f => R (.ok f) s' | .again c' => c'.quiet = true ∧ codeAny (model X.prog X.w) A c' R s') (fun e s' => R (.error e) s') s := by
  obtain ⟨_, its, nn, rv, ha⟩ := (show ObjOk X.prog X.w H s.heap a (.lst xs) from I.hok a _ (hJ H j))
  cases its with
  | nil =>
    cases rv
    exact absurd rfl hne
  | cons x l =>
    have hca : Clear g a := hcl a (.inl rfl)
    refine wpAny_list_repr_head (A := A.in1) (g := g) hg (fun v rest kw hm => listSameRef_of_ne (hca _ _ _ _ hm)) ha rfl ?_
    refine wpAny_bind (m := newList []) (wpAny_newObj_type ?_)
    refine wpAny_pure ⟨F.quiet_list_repr_loop _, ?_⟩
    have kk : ∀ b o, s.heap.get? b = some o → (s.heap.push (lobj #[] 0)).get? b = some o := fun b o e => Heap.get?_push_of_some _ e
    have I1 : Inv X pins σ H { s with heap := s.heap.push (lobj #[] 0), toks := s.toks } := I.kept (t' := s.toks) kk
    have hget : (s.heap.push (lobj #[] 0)).get? s.heap.objs.size = some (lobj #[] 0) := Heap.get?_push_size _ rfl
    have nP : ∀ p ∈ X.pn ++ pins, p.1 ≠ s.heap.objs.size := fun p hp => Nat.ne_of_lt (Heap.lt_size (I.pin p hp).1)
    have I2 : Inv X ((s.heap.objs.size, lobj #[] 0) :: pins) σ H { s with heap := s.heap.push (lobj #[] 0), toks := s.toks } := I1.pins_of fun p hp => by
      rcases List.mem_cons.mp hp with rfl | hp
      · exact ⟨hget, I.hok.fresh (Nat.le_refl _), Nat.ne_of_gt I.lt, I.nofs (Nat.le_refl _), fun v z => by cases z⟩
      · exact I1.pin p (List.mem_append_right _ hp)
    exact rg_run (A := A) (R := R) (b := b) (σ := σ) (pins := pins) hfr hg (fun c hc => hcl c (.inr hc)) hna hr hJ hlen hT hsz I.sz nP hR xs.length 0 _ H #[] 0 [] (by omega) (Nat.zero_le _) I2 j rfl rfl
theorem rg_call {A : Around} {g : List Code} {E : Value → Shared → Prop} {Q : Value → Shared → Prop} {a : Addr} {xs : List V} {ts : List Str} {pins : List (Addr × Obj)} {σ : St} {s : Shared} {H : Hp} (hfr : A.frames = some X.stack) (hg : A.guards = some g) (hcl : Clr g fun c => c = a ∨ B c) (hna : ¬ B a) (hr : Room (k + 1) A) (I : Inv X pins σ H s) (j : J H) (hJ : ∀ H, J H → H a = some (.lst xs)) (hne : xs ≠ [])
    (hlen : ts.length = xs.length) (hT : ∀ (i : Nat) (v : V), xs[i]? = some v → ∃ t, ts[i]? = some t ∧ Sg X k J B v t) (hsz : (listText ts).length ≤ sizeLine)
    (hR : ∀ s' H' u, Inv X pins σ H' s' → J H' → Q (.str (listText ts) u) s') : wpAny (model X.prog X.w) A (call (.builtin "list.__repr__") [.ref a]) Q E s := by
  obtain ⟨_, its, nn, rv, ha⟩ := (show ObjOk X.prog X.w H s.heap a (.lst xs) from I.hok a _ (hJ H j))
  exact wpAny_call (codeAny_call_builtin F.slot_list_repr.plain F.entry_list_repr (F.slot_list_repr.check _ _ _ _ _ _ _ _ ⟨_, ha, rfl⟩ (F.args_list_repr_1 _)
    (rg_at (R := callEnd Q E) (b := 0) hfr hg hcl hna hr I j hJ hne hlen hT (by omega) hR)))
/-- a list -/
theorem sg_list {a : Addr} {xs : List V} {ts : List Str} (hJ : ∀ H, J H → H a = some (.lst xs)) (hne : xs ≠ []) (hna : ¬ B a) (hlen : ts.length = xs.length) (hT : ∀ (i : Nat) (v : V), xs[i]? = some v → ∃ t, ts[i]? = some t ∧ Sg X k J B v t) :
    Sg X (k + 1) J (fun c => c = a ∨ B c) (.ref a) (listText ts) :=
  ⟨fun A' g pins s σ H u b E Q hf hg hc hr I j r hb q => by
    obtain rfl : u = Value.ref a := r
    obtain ⟨_, its, nn, rv, ha⟩ := (show ObjOk X.prog X.w H s.heap a (.lst xs) from I.hok a _ (hJ H j))
    refine wpAny_pyReprUnder_ref (by omega) (wpAny_pyReprObjUnder_twin (twin := "list.__repr__.under") ⟨_, ha, rfl⟩ F.slot_list_repr.toG rfl hr.units0 ?_)
    exact call_twin_plain F.plain_list_repr_under F.entry_list_repr_under F.check_list_repr_under ⟨_, ha, rfl⟩ F.slot_list_repr.toG (F.args_list_repr_1 _)
      (rg_at (R := callEnd _ E) (b := b) hf hg hc hna hr I j hJ hne hlen hT hb fun s' H' u I' j' => ⟨⟨_, _, rfl⟩, _, _, rfl, q s' H' I' j'⟩),
  fun A' g pins s σ H u E Q hf hg hc hr I j r hb q => by
    obtain rfl : u = Value.ref a := r
    obtain ⟨_, its, nn, rv, ha⟩ := (show ObjOk X.prog X.w H s.heap a (.lst xs) from I.hok a _ (hJ H j))
    have hTy : s.TypeIs (.ref a) "list" := ⟨_, ha, rfl⟩
    unfold pyReprObj
    refine wpAny_bind (wpAny_cRoomFor hr.units0 ?_)
    refine wpAny_bind (wpAny_specialOf (name := Str.ofString "__repr__") hTy F.slot_list_repr.lookup ?_)
    refine wpAny_bind (m := callSpecialIfBound? (.ref a) (Str.ofString "__repr__")) (wpAny_callSpecialIfBound?_slot (name := Str.ofString "__repr__") hTy F.slot_list_repr ?_)
    refine rg_call hf hg hc hna hr I j hJ hne hlen hT hb fun s' H' u I' j' => ?_
    exact wpAny_bind (wpAny_isInstance (T := "str") (b := true) rfl isSubtype_str_str (wpAny_pure (q s' H' u I' j'))),
  fun A' g pins s σ H u E Q hf hg hc hr I j r hb q => by
    obtain rfl : u = Value.ref a := r
    obtain ⟨_, its, nn, rv, ha⟩ := (show ObjOk X.prog X.w H s.heap a (.lst xs) from I.hok a _ (hJ H j))
    refine call_repr_slot (by have := hr.un; omega) ⟨_, ha, rfl⟩ F.slot_list_repr.toG ?_
    exact rg_call (A := A'.in1) hf hg hc hna hr.in1' I j hJ hne hlen hT hb fun s' H' u I' j' => ⟨_, _, rfl, q s' H' u I' j'⟩⟩
end
end L2

namespace L2
open PySem PySem.Spec PyProof.Rows PySem.Builtin
inductive SgAll (X : Cx) (k : Nat) (J : Hp → Prop) (B : Addr → Prop) : List V → List Str → Prop
  | nil : SgAll X k J B [] []
  | cons {v : V} {t : Str} {vs : List V} {ts : List Str} : Sg X k J B v t → SgAll X k J B vs ts → SgAll X k J B (v :: vs) (t :: ts)
theorem SgAll.length {X : Cx} {k : Nat} {J : Hp → Prop} {B : Addr → Prop} : ∀ {vs : List V} {ts : List Str}, SgAll X k J B vs ts → ts.length = vs.length
  | _, _, .nil => rfl
  | _, _, .cons _ h => by simp [h.length]
theorem SgAll.at_ {X : Cx} {k : Nat} {J : Hp → Prop} {B : Addr → Prop} : ∀ {vs : List V} {ts : List Str}, SgAll X k J B vs ts → ∀ (i : Nat) (v : V), vs[i]? = some v → ∃ t, ts[i]? = some t ∧ Sg X k J B v t
  | _, _, .nil, i, v, h => by simp at h
  | _, _, .cons h r, 0, v, e => by
    obtain rfl := Option.some.inj e
    exact ⟨_, rfl, h⟩
  | _, _, .cons h r, i + 1, v, e => r.at_ i v (by simpa using e)
theorem SgAll.mono {X : Cx} {j k : Nat} {J : Hp → Prop} {B B' : Addr → Prop} (h : j ≤ k) (hB : ∀ b, B b → B' b) : ∀ {vs : List V} {ts : List Str}, SgAll X j J B vs ts → SgAll X k J B' vs ts
  | _, _, .nil => .nil
  | _, _, .cons a r => .cons (a.mono h hB) (r.mono h hB)
theorem tr_depth {A : Around} {args : Args} : (A.under (.builtin "tuple.__repr__" args)).depth ≤ A.depth + 1 := by
  first | exact Nat.le_of_eq rfl | simp [Around.under, Code.weight, Code.isCreation, Code.isGuard, Code.isCaller, Code.frames, Code.isFrame, guardIds]
theorem tr_frames {A : Around} {args : Args} : (A.under (.builtin "tuple.__repr__" args)).frames = A.frames := by
  first | rfl | simp [Around.under, Code.envs, Code.isFrame, pushEnvs]
theorem tr_handled {A : Around} {args : Args} : (A.under (.builtin "tuple.__repr__" args)).handled = A.handled := by
  first | rfl | simp [Around.under]
theorem tu_depth {A : Around} {args : Args} : (A.under (.builtin "tuple.__repr__.under" args)).depth ≤ A.depth + 1 := by
  first | exact Nat.le_of_eq rfl | simp [Around.under, Code.weight, Code.isCreation, Code.isGuard, Code.isCaller, Code.frames, Code.isFrame, guardIds]
theorem tu_frames {A : Around} {args : Args} : (A.under (.builtin "tuple.__repr__.under" args)).frames = A.frames := by
  first | rfl | simp [Around.under, Code.envs, Code.isFrame, pushEnvs]
theorem tu_handled {A : Around} {args : Args} : (A.under (.builtin "tuple.__repr__.under" args)).handled = A.handled := by
  first | rfl | simp [Around.under]
theorem Room.tr {k : Nat} {A : Around} (r : Room (k + 1) A) (args : Args) : Room k (A.under (.builtin "tuple.__repr__" args)) :=
  ⟨by rw [tr_handled]; exact r.hd, by have := r.dp; have := @tr_depth A args; omega, by have := r.un; have := units_under_tuple_repr A args; omega⟩
theorem Room.tu {k : Nat} {A : Around} (r : Room (k + 1) A) (args : Args) : Room k (A.under (.builtin "tuple.__repr__.under" args)) :=
  ⟨by rw [tu_handled]; exact r.hd, by have := r.dp; have := @tu_depth A args; omega, by have := r.un; have := units_under_tuple_repr_under A args; omega⟩
section
variable {X : Cx} {k : Nat} {J : Hp → Prop} {B : Addr → Prop}
theorem tg_fold {A : Around} {g : List Code} {E : Value → Shared → Prop} {pins : List (Addr × Obj)} {σ : St} (hfr : A.frames = some X.stack) (hg : A.guards = some g) (hcl : Clr g B) (hr : Room k A) :
    ∀ (vs : List V) (us : List Value) (ts : List Str) (acc : Array Str) (n : Nat) (s : Shared) (H : Hp) (Q : (Array Str × Nat) → Shared → Prop), Vals vs us → SgAll X k J B vs ts → n + piled ts ≤ sizeLine → Inv X pins σ H s → J H →
    (∀ s' H', Inv X pins σ H' s' → J H' → Q ⟨acc ++ ts.toArray, n + piled ts⟩ s') → wpAny (model X.prog X.w) A (forIn us (⟨acc, n⟩ : (Array Str × Nat)) tupBody) Q E s := by
  intro vs
  induction vs with
  | nil =>
    intro us ts acc n s H Q rv hT _ I j h
    cases rv
    cases hT
    have h0 := h s H I j
    simp only [List.forIn_nil]
    exact wpAny_pure (by simpa [piled] using h0)
  | cons x l ih =>
    intro us ts acc n s H Q rv hT hn I j h
    cases rv with
    | cons r rr =>
      cases hT with
      | cons hx hl =>
        rename_i t ts'
        rw [piled_cons] at hn
        rw [List.forIn_cons]
        refine wpAny_bind (wpAny_bind (hx.under _ _ pins s σ H _ (n + 1) _ _ hfr hg hcl hr I j r (by omega) fun s1 H1 I1 j1 => wpAny_pure ?_))
        refine ih _ ts' (acc.push t) (n + (t.length + 2)) _ H1 Q rr hl (by omega) I1 j1 fun s2 H2 I2 j2 => ?_
        have h1 := h s2 H2 I2 j2
        have e : n + piled (t :: ts') = n + (t.length + 2) + piled ts' := by rw [piled_cons]; omega
        rw [e] at h1
        simpa using h1
theorem tg_at {A : Around} {g : List Code} {R : Result → Shared → Prop} {a : Addr} {xs : List V} {ts : List Str} {b : Nat} {pins : List (Addr × Obj)} {σ : St} {s : Shared} {H : Hp} {id : String} {rest : List Value}
    (hcg : (Code.builtin id ⟨.ref a :: rest, []⟩).isGuard = true) (hru : Room k (A.under (.builtin id ⟨.ref a :: rest, []⟩))) (hfu : (A.under (.builtin id ⟨.ref a :: rest, []⟩)).frames = some X.stack) (hg : A.guards = some g) (hcl : Clr g fun c => c = a ∨ B c) (hna : ¬ B a) (I : Inv X pins σ H s) (j : J H) (hJ : ∀ H, J H → H a = some (.tup xs))
    (hT : SgAll X k J B xs ts) (hsz : b + (tupleText ts).length ≤ sizeLine) (hR : ∀ s' H' u, Inv X pins σ H' s' → J H' → R (.ok (.ret (.str (tupleText ts) u))) s') :
    wpOwn (model X.prog X.w) A (.builtin id ⟨.ref a :: rest, []⟩) (Builtin.tupleReprAt b ⟨[.ref a], []⟩) (fun fin s' => match fin with | .done f => R (.ok f) s' | .again c' => c'.quiet = true ∧ codeAny (model X.prog X.w) A c' R s') (fun e s' => R (.error e) s') s := by
  obtain ⟨_, its, rv, ob, ha, hc, hd⟩ := (show ObjOk X.prog X.w H s.heap a (.tup xs) from I.hok a _ (hJ H j))
  obtain ⟨n, hd⟩ := hd
  have hca : Clear g a := hcl a (.inl rfl)
  have hlen : ts.length = its.toArray.size := by rw [hT.length, rv.length]; simp
  have hp := piled_le_tupleText ts
  have hsz0 := Nat.le_trans (Nat.le_add_left (tupleText ts).length b) hsz
  rw [tuple_repr_tree, tupleReprUnderWay_eq]
  refine wpOwn_bind (wpOwn_stackTailAny hg (tupGuardF_off _) (tupGuardF_pos _) ?_)
  have away : (g.any fun c => tupGuardF (.ref a) (c, default)) = false := List.any_eq_false.mpr fun c hcm => by simp [tupGuardF_of_clear hca c hcm]
  rw [away]
  refine wpOwn_of_wpAny ?_
  show wpAny _ _ (tupleReprRest b (.ref a)) _ _ s
  unfold tupleReprRest Builtin.Tuple.tupleItemsOf
  refine wpAny_bind (wpAny_bind (wpAny_seqItems ha hd (wpAny_pure ?_)))
  rw [← Array.forIn_toList]
  refine wpAny_bind (tg_fold (pins := pins) (σ := σ) hfu (guards_under_guard hcg hg) (fun c hc => (hcl c (.inr hc)).cons (a := a) fun e => hna (e ▸ hc)) hru xs _ ts _ _ _ H _ rv hT (by omega) I j fun s1 H1 I1 j1 => ?_)
  refine wpAny_bind (wpAny_mkStr (wpAny_pure ?_) (by simpa [tupleText, hlen] using hsz0))
  have h1 := hR { s1 with toks := s1.toks + 1 } H1 s1.toks (I1.tok _) j1
  simpa [tupleText, hlen] using h1
end
end L2

namespace L2
open PySem PySem.Spec PyProof.Rows PySem.Builtin
section
variable {X : Cx} {k : Nat} {J : Hp → Prop} {B : Addr → Prop}
/-- a tuple -/
theorem sg_tup {a : Addr} {xs : List V} {ts : List Str} (hJ : ∀ H, J H → H a = some (.tup xs)) (hna : ¬ B a) (hT : SgAll X k J B xs ts) : Sg X (k + 1) J (fun c => c = a ∨ B c) (.ref a) (tupleText ts) :=
  ⟨fun A' g pins s σ H u b E Q hf hg hc hr I j r hb q => by
    obtain rfl : u = Value.ref a := r
    obtain ⟨_, its, rv, ob, ha, hcl, hd⟩ := (show ObjOk X.prog X.w H s.heap a (.tup xs) from I.hok a _ (hJ H j))
    refine wpAny_pyReprUnder_ref (by omega) (wpAny_pyReprObjUnder_twin (twin := "tuple.__repr__.under") ⟨_, ha, hcl⟩ F.slot_tuple_repr rfl hr.units0 ?_)
    exact call_twin_own (F.quiet_tuple_repr_under _) F.entry_tuple_repr_under F.check_tuple_repr_under ⟨_, ha, hcl⟩ F.slot_tuple_repr (F.args_tuple_repr_1 _)
      (tg_at (R := callEnd _ E) (b := b) (isGuard_tuple_repr_under _) (hr.tu _) (by rw [tu_frames]; exact hf) hg hc hna I j hJ hT hb fun s' H' u I' j' => ⟨⟨_, _, rfl⟩, _, _, rfl, q s' H' I' j'⟩),
  fun A' g pins s σ H u E Q hf hg hc hr I j r hb q => by
    obtain rfl : u = Value.ref a := r
    obtain ⟨_, its, rv, ob, ha, hcl, hd⟩ := (show ObjOk X.prog X.w H s.heap a (.tup xs) from I.hok a _ (hJ H j))
    have hTy : s.TypeIs (.ref a) "tuple" := ⟨_, ha, hcl⟩
    unfold pyReprObj
    refine wpAny_bind (wpAny_cRoomFor hr.units0 ?_)
    refine wpAny_bind (wpAny_specialOf (name := Str.ofString "__repr__") hTy F.slot_tuple_repr.lookup ?_)
    refine wpAny_bind (m := callSpecialIfBound? (.ref a) (Str.ofString "__repr__")) (wpAny_callSpecialIfBound?_slotG (name := Str.ofString "__repr__") hTy F.slot_tuple_repr ?_)
    refine wpAny_call (codeAny_call_builtin_own (Code.quiet_builtin _ (by decide +kernel)) F.entry_tuple_repr (F.slot_tuple_repr.check _ _ _ _ _ _ _ _ hTy (F.args_tuple_repr_1 _)
      (tg_at (R := callEnd _ E) (b := 0) (isGuard_tuple_repr _) (hr.tr _) (by rw [tr_frames]; exact hf) hg hc hna I j hJ hT (by omega) fun s' H' u I' j' => ?_)))
    exact wpAny_bind (wpAny_isInstance (T := "str") (b := true) rfl isSubtype_str_str (wpAny_pure (q s' H' u I' j'))),
  fun A' g pins s σ H u E Q hf hg hc hr I j r hb q => by
    obtain rfl : u = Value.ref a := r
    obtain ⟨_, its, rv, ob, ha, hcl, hd⟩ := (show ObjOk X.prog X.w H s.heap a (.tup xs) from I.hok a _ (hJ H j))
    have hTy : s.TypeIs (.ref a) "tuple" := ⟨_, ha, hcl⟩
    refine call_repr_slot (by have := hr.un; omega) hTy F.slot_tuple_repr ?_
    exact wpAny_call (codeAny_call_builtin_own (Code.quiet_builtin _ (by decide +kernel)) F.entry_tuple_repr (F.slot_tuple_repr.check _ _ _ _ _ _ _ _ hTy (F.args_tuple_repr_1 _)
      (tg_at (A := A'.in1) (R := callEnd _ E) (b := 0) (isGuard_tuple_repr _) (hr.in1'.tr _) (by rw [tr_frames]; exact hf) hg hc hna I j hJ hT (by omega) fun s' H' u I' j' => ⟨_, _, rfl, q s' H' u I' j'⟩)))⟩
/-- the empty dict -/
theorem sg_d0 {a : Addr} (hJ : ∀ H, J H → H a = some (.dK [])) (hB : B a) : Sg X (k + 1) J B (.ref a) (dictText []) :=
  ⟨fun A' g pins s σ H u b E Q hf hg hc hr I j r hb q => by
    obtain rfl : u = Value.ref a := r
    obtain ⟨_, hS, vs, rv, ob, es, ep, ha, hx, hd, hk, hp, hnd⟩ := (show ObjOk X.prog X.w H s.heap a (.dK []) from I.hok a _ (hJ H j))
    cases rv
    have he : es.toList = [] := by cases hes : es.toList with | nil => rfl | cons a b => rw [hes] at hp; cases hp
    refine (ReprK.dict (as := []) (h₀ := s.heap) (d := 0) ha hx.1 hd hS (by simp) (by rw [he]; exact .nil)) b hb A' g E s Q hg (fun c hc' => hc c (by rw [List.mem_singleton.mp hc']; exact hB)) (by have := hr.un; omega) (fun _ _ e => e) fun h' tk hkp => ?_
    exact q _ H (I.kept hkp) j,
  fun A' g pins s σ H u E Q hf hg hc hr I j r hb q => by
    obtain rfl : u = Value.ref a := r
    obtain ⟨_, hS, vs, rv, ob, es, ep, ha, hx, hd, hk, hp, hnd⟩ := (show ObjOk X.prog X.w H s.heap a (.dK []) from I.hok a _ (hJ H j))
    cases rv
    have he : es.toList = [] := by cases hes : es.toList with | nil => rfl | cons a b => rw [hes] at hp; cases hp
    refine wpAny_pyReprObj_dictK (as := []) (h₀ := s.heap) (d := 0) ha hx.1 hd hS (by simp) (by rw [he]; exact .nil) hg (fun c hc' => hc c (by rw [List.mem_singleton.mp hc']; exact hB)) (by have := hr.un; omega) (fun _ _ e => e) (fun h' u tk hkp => ?_) hb
    exact q _ H _ (I.kept hkp) j,
  fun A' g pins s σ H u E Q hf hg hc hr I j r hb q => by
    obtain rfl : u = Value.ref a := r
    obtain ⟨_, hS, vs, rv, ob, es, ep, ha, hx, hd, hk, hp, hnd⟩ := (show ObjOk X.prog X.w H s.heap a (.dK []) from I.hok a _ (hJ H j))
    cases rv
    have he : es.toList = [] := by cases hes : es.toList with | nil => rfl | cons a b => rw [hes] at hp; cases hp
    refine call_repr_slot (by have := hr.un; omega) ⟨_, ha, hx.1⟩ F.slot_dict_repr ?_
    refine call_dict_reprK (A := A'.in1) (as := []) (h₀ := s.heap) (d := 0) ha hx.1 hd hS (by simp) (by rw [he]; exact .nil) hg (fun c hc' => hc c (by rw [List.mem_singleton.mp hc']; exact hB)) (by have := hr.un; show A'.units + 1 + 1 < cLine; omega) (fun _ _ e => e) (fun h' u tk hkp => ?_) hb
    exact ⟨_, _, rfl, q _ H _ (I.kept hkp) j⟩⟩
/-- repr(v) -/
theorem call_sg (gd : X.A.guards = some []) (hr : Room (k + 1) X.A) : CallR X (.builtin "repr") (fun us H Q => ∃ (v : V) (t : Str) (J : Hp → Prop) (B : Addr → Prop), us = [v] ∧ J H ∧ Sg X k J B v t ∧ t.length ≤ sizeLine ∧ ∀ H', J H' → Q (.str t) H') := by
  intro pins s σ H xs us Q I r h
  obtain ⟨v, t, J, B, rfl, j, S, hz, q⟩ := h
  obtain ⟨u, rfl, ru⟩ := vals1 r
  exact S.call X.A [] pins s σ H u _ _ I.ok.frames gd (Clr.nil _) hr I j ru hz fun s' H' tk I' j' => ⟨.str t, H', I', ⟨tk, rfl⟩, q H' j'⟩
/-- {e!r} -/
def tFmtG (X : Cx) (k : Nat) (te : TE) : TE := fun σ H Q => te σ H fun v H1 => ∃ (t : Str) (J : Hp → Prop) (B : Addr → Prop), J H1 ∧ Sg X k J B v t ∧ t.length ≤ sizeLine ∧ ∀ H', J H' → Q (.str t) H'
theorem pe_fmtG {e : Expr} {te : TE} {pos : Pos} (gd : X.A.guards = some []) (hr : Room k X.A) (he : PE X e te) : PE X (.FormattedValue e 114 none pos) (tFmtG X k te) := by
  refine ⟨fun pins s σ H Q I h => ?_⟩
  refine wpAny_FormattedValue_repr (thn (he.run pins s σ H _ I h) fun u s1 ⟨v, H1, I1, rv, t, J, B, j, S, hz, q⟩ => ?_)
  refine S.obj X.A [] pins s1 σ H1 u _ _ I.ok.frames gd (Clr.nil _) hr I1 j rv hz fun s' H' tk I' j' => ?_
  exact wpAny_formatField_str ⟨.str t, H', I'.tok _, ⟨_, rfl⟩, q H' j'⟩ ⟨.str t, H', I'.tok _, ⟨_, rfl⟩, q H' j'⟩ hz
end
end L2

namespace L2
open PySem PySem.Spec PyProof.Rows
section
variable {X : Cx} {k : Nat} {J : Hp → Prop} {B : Addr → Prop}
theorem obj_own {C g a : Addr} {sp : Sp} {t : Str} (hs : PySem.W.findIn X.K (.ref C) "__repr__" = some (some (.ref g))) (hf : PySem.W.isFn X.K (.ref g) = true) (F : FnR X.prog X.w X.K X.mg X.base CX0 k g sp)
    (hi : ∀ H, J H → ∃ dx fs, H a = some (.ins C dx fs)) (hsp : ∀ H, J H → sp [.ref a] H (fun r H' => r = .str t ∧ J H') E0) :
    ∀ (A' : Around) (g : List Code) (pins : List (Addr × Obj)) (s : Shared) (σ : St) (H : Hp) (u : Value) (E : Value → Shared → Prop) (Q : Value → Shared → Prop), A'.frames = some X.stack → A'.guards = some g → Clr g B → Room k A' → Inv X pins σ H s → J H → RelV (.ref a) u → t.length ≤ sizeLine →
    (∀ s' H' tk, Inv X pins σ H' s' → J H' → Q (.str t tk) s') → wpAny (model X.prog X.w) A' (pyReprObj u) Q E s := by
  intro A' g' pins s σ H u E Q hfr _ _ hr I j r hb q
  obtain rfl : u = Value.ref a := r
  obtain ⟨dx, fs, ha⟩ := hi H j
  obtain ⟨mA, M, _⟩ := ins_get I.hok ha
  obtain ⟨od, It, _⟩ := M.look
  rw [pyReprObj_eq_pyReprObjBy]
  unfold pyReprObjBy
  refine wpAny_bind (wpAny_cRoomFor hr.units0 ?_)
  refine wpAny_bind (wpAny_bind (It.type.here ((PySem.W.looks_findIn I.kIn hs).here ?_)))
  show wpAny _ _ (if (some (Value.ref g)).isNone = true then _ else _) _ _ _
  rw [if_neg (by simp)]
  have hcall : wpAny (model X.prog X.w) A' (call (.ref g) [.ref a]) (fun v s' => ∃ y tk, v = .str y tk ∧ Q (.str y tk) s') E s := by
    refine wpAny_call (codeAny_mono (F A' X.stack s H [.ref a] [.ref a] _ E0 hr ⟨hfr, I.env0.mod, I.env0.bs, I.env0.bsz, I.env0.funs, I.env0.frf, I.env0.hok, I.env0.bare⟩ (.cons rfl .nil) (hsp H j)) fun r s' hq => ?_)
    cases r with
    | error e => exact False.elim hq
    | ok fl =>
      cases fl with
      | ret u =>
        obtain ⟨v, H', I', rv, ev, j'⟩ := I.after hq
        subst ev
        obtain ⟨tk, rfl⟩ := rv
        exact ⟨t, tk, rfl, q _ _ tk I' j'⟩
      | next => exact False.elim hq
      | brk => exact False.elim hq
      | cont => exact False.elim hq
  refine wpAny_bind (m := callSpecialIfBoundBy? _ (.ref a) (Str.ofString "__repr__")) ?_
  simp only [callSpecialIfBoundBy?, bindSpecialIfBound?]
  refine wpAny_holding (wpAny_bind (wpAny_bind (wpAny_bind (It.type.here ((PySem.W.looks_findIn I.kIn hs).here ?_)))))
  refine wpAny_bind (wpAny_askSetting (wpAny_ite ?_))
  have fin : ∀ {Q' : Option Value → Shared → Prop}, (∀ y tk s', Q (.str y tk) s' → Q' (some (.str y tk)) s') → wpAny (model X.prog X.w) A' (call (.ref g) ([.ref a] ++ []) >>= fun v => pure (some v)) Q' E s := fun {Q'} hq => wpAny_bind (wpAny_mono hcall (fun v s' ⟨y, tk, e, h'⟩ => by subst e; exact wpAny_pure (hq y tk s' h')) fun _ _ h' => h')
  have fin2 : ∀ y tk s', Q (.str y tk) s' → wpAny (model X.prog X.w) A' (do if ← isInstance (.str y tk) (.type "str") then pure (Value.str y tk) else raiseError "TypeError" s!"__repr__ returned non-string (type {← typeNameOf (.str y tk)})") Q E s' := fun y tk s' h => by
    refine wpAny_bind (wpAny_isInstance (T := "str") (b := true) rfl isSubtype_str_str ?_)
    exact wpAny_pure h
  split
  · exact wpAny_bind ((PySem.W.bind_fn I.kIn _ (beq_iff_eq.mp hf)).here (wpAny_pure (fin fin2)))
  · exact wpAny_tryCatch (wpAny_bind ((PySem.W.bind_fn I.kIn _ (beq_iff_eq.mp hf)).here (wpAny_pure (fin fin2))))
/-- an instance that has its own __repr__ -/
theorem sg_own {C g a : Addr} {sp : Sp} {t : Str} (hs : PySem.W.findIn X.K (.ref C) "__repr__" = some (some (.ref g))) (hf : PySem.W.isFn X.K (.ref g) = true) (F : FnR X.prog X.w X.K X.mg X.base CX0 k g sp)
    (hi : ∀ H, J H → ∃ dx fs, H a = some (.ins C dx fs)) (hsp : ∀ H, J H → sp [.ref a] H (fun r H' => r = .str t ∧ J H') E0) : Sg X k J B (.ref a) t :=
  ⟨fun A' g' pins s σ H u b E Q hfr _ _ hr I j r hb q => sh_own hs hf F hi hsp A' pins s σ H u b E Q hfr hr I j r hb q, obj_own hs hf F hi hsp,
  fun A' g' pins s σ H u E Q hfr _ _ hr I j r hb q => by
    obtain rfl : u = Value.ref a := r
    obtain ⟨dx, fs, ha⟩ := hi H j
    obtain ⟨mA, M, _⟩ := ins_get I.hok ha
    obtain ⟨od, It, _⟩ := M.look
    obtain ⟨m, hF⟩ := I.fr
    refine PySem.W.repr_K (by have := hr.un; show A'.units + 1 < cLine; omega) hF I.ok.mod.kin It hs hf ?_
    refine wpAny_call (codeAny_mono (F A'.in1 X.stack s H [.ref a] [.ref a] _ E0 hr.in1' ⟨hfr, I.env0.mod, I.env0.bs, I.env0.bsz, I.env0.funs, I.env0.frf, I.env0.hok, I.env0.bare⟩ (.cons rfl .nil) (hsp H j)) fun r s' hq => ?_)
    cases r with
    | error e => exact False.elim hq
    | ok fl =>
      cases fl with
      | ret u =>
        obtain ⟨v, H', I', rv, ev, j'⟩ := I.after hq
        subst ev
        obtain ⟨tk, rfl⟩ := rv
        exact q _ _ tk I' j'
      | next => exact False.elim hq
      | brk => exact False.elim hq
      | cont => exact False.elim hq⟩
end
end L2

namespace L2
open PySem PySem.Spec PyProof.Rows
/-- isinstance(e, c), e the exception that the suite holds, with attributes or without -/
theorem call_isEF {X : Cx} {a D : Addr} {oe : Obj} {d : Option Addr} {pn : List (Addr × Obj)} (C : ExcC X.K D) (hz : Zc (.ref D) d oe) (hf : ∃ vs, oe.data = .fields vs) :
    CallR (X.suite a ((a, oe) :: pn)) (.builtin "isinstance") (fun xs H Q => (d = none ∨ ∃ dd fs, d = some dd ∧ H dd = some (.xd fs)) ∧ rIsE X.K D a xs H Q) := by
  intro pins s σ H xs us Q I r h
  obtain ⟨hdd, c, cv, b, rfl, hcv, e, q⟩ := h
  cases r with
  | cons rx rr =>
    cases rr with
    | cons rt rr =>
      cases rr
      cases rx
      have ec := hcv _ rt
      subst ec
      obtain ⟨hget, _⟩ := I.pin (a, oe) (List.mem_append.mpr (.inl List.mem_cons_self))
      obtain ⟨vs, hv⟩ := hf
      have J : ∃ od, PySem.W.InstAt s.heap a oe D od := by
        obtain ⟨oc, od, oda, osl⟩ := oe
        obtain ⟨h1, h2⟩ := hz
        dsimp only at h1 h2 hv
        subst h1 h2 hv
        rcases hdd with rfl | ⟨dd, fs, rfl, ho⟩
        · exact ⟨none, hget, rfl, rfl, trivial⟩
        · obtain ⟨mA, hns, hr⟩ := (show ObjOk X.prog X.w H s.heap dd (.xd fs) from I.hok dd _ ho)
          obtain ⟨od, ho, hl⟩ := lookIn_ns hns
          exact ⟨some od, hget, rfl, rfl, ho⟩
      obtain ⟨od, J⟩ := J
      exact PySem.W.kia_one (PySem.W.kitx_exc (by obtain ⟨cd, hc, _⟩ := PySem.W.any_some C.hd; rw [hc]; rfl) C.hg C.hk C.hs C.ha C.hn C.ht C.hm) I.kIn J e (fun z => nomatch z) fun tk => ⟨.bl b, H, I.kept (t' := tk) fun _ _ z => z, rfl, q⟩
end L2

/-! An own exception's __init__ that begins with super().__init__(e): the def is walked by the layer, its first statement by the library's words for super(). -/
namespace L2
theorem List.getElem?_append_or {α : Type} {l r : List α} {i : Nat} {a : α} (h : (l ++ r)[i]? = some a) : l[i]? = some a ∨ r[i - l.length]? = some a := by
  by_cases z : i < l.length
  · exact .inl (by rw [← List.getElem?_append_left z]; exact h)
  · exact .inr (by rw [← List.getElem?_append_right (Nat.le_of_not_lt z)]; exact h)
open PySem PySem.Spec PyProof.Rows
/-- the context of a def with a captured __class__ -/
def cxS (CX : CXT) (P : Program) (w : World) (K : PySem.W.Frag) (mg : Str → Option Value) (base : Heap) (N : List Str) (fd : FuncData) (f : Addr) (A : Around) (outer : List Env) (s : Shared) (H : Hp) (E : XK) : Cx where
  prog := P
  w := w
  K := K
  mg := mg
  base := base
  A := A.deeper (callEnv fd s.heap.objs.size f)
  N := N
  s_0 := s
  H_0 := H
  env := callEnv fd s.heap.objs.size f
  outer := outer
  stack := callEnv fd s.heap.objs.size f :: outer
  ex := []
  calm := true
  fn := fun _ => false
  pn := []
  xe := fun e s' => wpAny (model P w) (A.deeper (callEnv fd s.heap.objs.size f)) (leaving (callEnv fd s.heap.objs.size f) e) (fun _ s'' => CX outer H s E e s'') (fun e' s'' => CX outer H s E e' s'') s'
/-- what the text says of such a def -/
structure SupScope (N ps : List Str) (fd : FuncData) (cc : Addr) : Prop where
  kind : fd.scope.kind = .function
  co : fd.scope.isCoroutine = false
  gen : fd.scope.isGenerator = false
  nd : N.Nodup
  pre : N.take ps.length = ps
  par : ∀ x ∈ ps, fd.scope.names.lookup x = some .local
  nocell : ∀ y ∈ fd.scope.names, y.2 ≠ .cell
  free : ∀ y ∈ fd.scope.names, y.2 = .free → y.1 = ("__class__" : Str)
  sup : fd.scope.names.lookup ("super" : Str) = some .globalImplicit
  cls : fd.scope.names.lookup ("__class__" : Str) = some .free
  glob : fd.globals = mainGlobals
  blt : fd.builtins = builtinsNs
  clo : fd.closure = [(("__class__" : Str), cc)]
section
variable {CX : CXT} {P : Program} {w : World} {K : PySem.W.Frag} {mg : Str → Option Value} {base : Heap} {N ps : List Str} {fd : FuncData} {f cc C : Addr} {A : Around} {outer : List Env} {s : Shared} {H : Hp} {E : XK} {us : List Value} {vs : List V} {cd1 : Option Addr} {sl1 : Array (Option Value)}
theorem invS_start (S : SupScope N ps fd cc) (hcc : K.lookup cc = some ⟨.type "cell", cd1, .cell (some (.ref C)), sl1⟩) (hd : A.handled = none) (e0 : Env0 P w K mg base A outer s H) (hl : vs.length = ps.length) (r : Vals vs us) {h0 : Heap} {tk : Nat}
    (hns : h0.Ns s.heap.objs.size (fun x => (ps.zip us).reverse.lookup x)) (hk : ∀ b o, s.heap.get? b = some o → h0.get? b = some o) :
    Inv (cxS CX P w K mg base N fd f A outer s H E) [] (start N vs) H { s with heap := h0, toks := tk } := by
  have hpl : ps.length ≤ N.length := by have := congrArg List.length S.pre; rw [List.length_take] at this; omega
  have noA : ∀ b : Addr, b ∉ (cxS CX P w K mg base N fd f A outer s H E).ex := fun b z => by cases z
  have ecl : (cxS CX P w K mg base N fd f A outer s H E).env.cells = [(("__class__" : Str), cc)] := S.clo
  have one : ∀ {x : Str} {c : Addr}, (cxS CX P w K mg base N fd f A outer s H E).env.cells.lookup x = some c → x = ("__class__" : Str) ∧ c = cc := fun {x c} h => by
    rw [ecl, List.lookup_cons] at h
    cases hb : x == ("__class__" : Str) with
    | true => rw [hb] at h; exact ⟨beq_iff_eq.mp hb, (Option.some.inj h).symm⟩
    | false => rw [hb] at h; cases h
  have hb0 := e0.bs cc _ (e0.mod.kin _ _ hcc)
  refine ⟨⟨e0.mod, S.kind, S.glob, S.blt, Nat.le_refl _, fun y z c h1 h2 => (one h1).1.trans (one h2).1.symm, fun y hy => ?_, (fun y c z _ => by cases z), fun _ => hd, Around.frames_deeper e0.frames, .inr ⟨rfl, rfl⟩, fun b z => absurd z (noA b), e0.bs, e0.bsz, fun b _ _ => noA b, fun b z => absurd z (noA b), e0.funs, e0.frf⟩,
    rfl, e0.bare, Un.kept hk, ⟨_, hns, fun i y v h1 h2 h3 => ?_⟩, fun y c h => ?_, e0.hok.fresh (Nat.le_refl _), fun y c h => ?_, (fun p hp => by cases hp), e0.hok.kept hk, ?_⟩
  · rcases hy with hy | hy
    · exact absurd rfl (S.nocell _ (PySem.mem_of_lookup hy))
    · have e : y = ("__class__" : Str) := S.free _ (PySem.mem_of_lookup hy) rfl
      exact ⟨cc, by rw [ecl, e]; rfl⟩
  · have given : vs[i]? = some v := by
      have z : (vs.map some ++ List.replicate (N.length - vs.length) none)[i]? = some (some v) := h2
      rcases List.getElem?_append_or z with z | z
      · simpa using z
      · exact absurd (List.eq_of_mem_replicate (List.mem_of_getElem? z)) (by simp)
    have par : ps[i]? = some y := by
      have lt : i < ps.length := hl ▸ (List.getElem?_eq_some_iff.mp given).1
      have z : N[i]? = some y := h1
      rw [← List.getElem?_take_of_lt lt, S.pre] at z
      exact z
    obtain ⟨u, hu, rv⟩ := r.get given
    exact ⟨u, rv, .inl ⟨S.par y (List.mem_of_getElem? par), NdefX.zip_look (S.pre ▸ S.nd.sublist (List.take_sublist ps.length N)) par hu⟩⟩
  · obtain ⟨_, rfl⟩ := one h
    exact ⟨_, _, hk _ _ hb0.1, rfl⟩
  · obtain ⟨_, rfl⟩ := one h
    exact hb0.2
  · show (start N vs).length = N.length
    unfold start
    rw [List.length_append, List.length_map, List.length_replicate]
    omega
end
end L2

namespace L2
open PySem PySem.Spec PyProof.Rows
/-- own classes, then the tail t -/
def refsTo (t : List Value) : List Value → Bool
  | .ref _ :: r => refsTo t r
  | l => decide (l = t)
theorem refsTo_contains {t : List Value} (Y : String) : ∀ l : List Value, refsTo t l = true → l.contains (.type Y) = t.contains (.type Y)
  | [], h => by
    have e : ([] : List Value) = t := of_decide_eq_true h
    rw [← e]
  | v :: r, h => by
    cases v with
    | ref c =>
      rw [List.contains_cons, refsTo_contains Y r h]
      rfl
    | _ =>
      have e := of_decide_eq_true h
      rw [← e]
/-- what the written part says of the def's surroundings -/
structure SupK (B newId initId : String) (bmB : List Value) (P : Program) (K : PySem.W.Frag) (mg : Str → Option Value) (C f : Addr) (fd : FuncData) (ar : Arg) : Prop where
  fn : ∃ oc od osl, K.lookup f = some ⟨oc, od, .func fd, osl⟩
  hp : (fd.params.posonlyargs ++ fd.params.args).head? = some ar
  loc : fd.scope.names.lookup ar.arg = some .local
  code : ∃ cda k1 k2 vsc k3 file tf, fd.code = .ref cda ∧ K.lookup cda = some ⟨k1, k2, .fields vsc, k3⟩ ∧ vsc[2]? = some (.str file tf) ∧ ((P.main.file : Str) == file) = true
  top : (P.main.scope.names.lookup ("super" : Str)).isSome = false
  ms : mg "super" = none
  cls : ∃ nm q N bs bm sn sub ab col dd k0 k1 k2 k3 k5, K.lookup C = some (excClassObj nm q C N bs bm true sn sub ab col dd k0 k1 k2 k3 k5 newId) ∧ refsTo bmB bm = true
  sup : PySem.W.ks_superIn K C C "__init__" = some (some (.builtin initId))
  sB : PySem.W.subIn K (.ref C) (.type B) = some true
  sC : PySem.W.subIn K (.ref C) (.ref C) = some true
  op : PySem.W.nsIn K cStatics "thirdparty.any" = some none
section
variable {CX : CXT} {P : Program} {w : World} {K : PySem.W.Frag} {mg : Str → Option Value} {base : Heap} {N ps : List Str} {fd : FuncData} {f cc C a : Addr} {A : Around} {outer : List Env} {s0 s : Shared} {H0 H : Hp} {E : XK} {σ : St} {cd1 : Option Addr} {sl1 : Array (Option Value)} {ar : Arg}
  {e : Expr} {ta : TA} {p0 p1 p2 p3 p4 : Pos} {body : List Stmt} {R : Hp → Prop} {B newId initId : String} {bmB : List Value}
theorem boot_super : bootBuiltins ("super" : Str) = some (.type "super") := by decide +kernel
theorem sup_run (S : SupScope N ps fd cc) (hcc : K.lookup cc = some ⟨.type "cell", cd1, .cell (some (.ref C)), sl1⟩) (FB : ExcBaseFacts B newId initId bmB) (KF : PySem.W.KxsFacts B initId) (T : SupK B newId initId bmB P K mg C f fd ar) (h0 : N[0]? = some ar.arg)
    (I : Inv (cxS CX P w K mg base N fd f A outer s0 H0 E) [] σ H s) (hσ : σ[0]? = some (some (.ref a))) (ea : H a = some (exo a C none)) (ha : PA (cxS CX P w K mg base N fd f A outer s0 H0 E) [e] ta)
    (h : ta σ H fun vs H1 => vs.length ≤ 1000 ∧ H1 a = some (exo a C none) ∧ R H1)
    (hst : starEach [e] (callEnv fd s0.heap.objs.size f) = [(false, eval e (callEnv fd s0.heap.objs.size f))] := by rfl)
    {pl : Sem Bool}
    (hcall : eval (.Call (.Attribute (.Call (.Name "super" p0) [] [] p1) "__init__" p2) [e] [] p3) (callEnv fd s0.heap.objs.size f) = (do
      let ov ← attributeBase (.Call (.Name "super" p0) [] [] p1) "__init__" (callEnv fd s0.heap.objs.size f) (eval (.Call (.Name "super" p0) [] [] p1) (callEnv fd s0.heap.objs.size f))
      standAt p2.atName
      let (f', first) ← holding [ov] (getMethod ov "__init__" pl)
      callWith p3 f' first (backTo p3 (starEach [e] (callEnv fd s0.heap.objs.size f))) []) := by rfl) :
    PySem.wpAt (model P w) (A.deeper (callEnv fd s0.heap.objs.size f)) (.func body (callEnv fd s0.heap.objs.size f)) (eval (.Call (.Attribute (.Call (.Name "super" p0) [] [] p1) "__init__" p2) [e] [] p3) (callEnv fd s0.heap.objs.size f))
      (fun _ s' => ∃ H', Inv (cxS CX P w K mg base N fd f A outer s0 H0 E) [] σ H' s' ∧ R H') (cxS CX P w K mg base N fd f A outer s0 H0 E).xe s := by
  obtain ⟨oc, od, osl, lkf⟩ := T.fn
  obtain ⟨cda, k1, k2, vsc, k3, file, tf, hco, hcda, hvs, hfile⟩ := T.code
  have KX : K.In s.heap := I.kIn
  refine ks_wpAt_MethodCall (pl := pl) ?_ hcall
  refine ks_wpAt_super_base (f := f) (cc := cda) S.sup S.cls (by decide) rfl (KX _ _ lkf) rfl T.hp hco (KX _ _ hcda) rfl hvs hfile T.top ?_
  -- super
  obtain ⟨mb, b1, b2⟩ := I.mod.blt
  have hkind : (callEnv fd s0.heap.objs.size f).scope.kind = .function := S.kind
  have hsup : (callEnv fd s0.heap.objs.size f).kindOf "super" = some .globalImplicit := S.sup
  have ldS : ∀ Q : Value → Shared → Prop, Q (.type "super") s → wpAny (model P w) (A.deeper (callEnv fd s0.heap.objs.size f)) (loadName (callEnv fd s0.heap.objs.size f) "super") Q (cxS CX P w K mg base N fd f A outer s0 H0 E).xe s := fun Q hq => by
    unfold loadName
    simp only [Env.blockKind, hkind, hsup, ScopeKind.isAnnotationScope, Bool.false_and, Bool.false_eq_true, if_false]
    exact Calls.loadGlobal_builtin (by show s.heap.Ns fd.globals mg; rw [S.glob]; exact I.mod.glob.keeps I.bk) T.ms (by show s.heap.Ns fd.builtins mb; rw [S.blt]; exact b1.keeps I.bk) ((b2 _ (by decide)).trans boot_super) hq
  refine ldS _ ⟨rfl, ?_⟩
  -- __class__
  have hcell : s.heap.IsCell cc (some (.ref C)) := ⟨_, KX _ _ hcc, rfl⟩
  refine wpAny_loadName_free hkind S.cls (by show fd.closure.lookup _ = _; rw [S.clo]; rfl) hcell ?_
  -- self
  obtain ⟨m, hns, hl⟩ := I.loc
  obtain ⟨u, ru, hlook⟩ := hl 0 ar.arg (.ref a) h0 hσ (.inl T.loc)
  obtain rfl : u = Value.ref a := ru
  have hml : m ar.arg = some (.ref a) := by
    rcases hlook with ⟨_, z⟩ | ⟨z, _⟩
    · exact z
    · have z' : fd.scope.names.lookup ar.arg = some .cell ∨ fd.scope.names.lookup ar.arg = some .free := z
      rw [T.loc] at z'
      rcases z' with z' | z' <;> cases z'
  refine wpAny_loadName_local hkind T.loc hns hml ?_
  -- the class, the object
  obtain ⟨nm, q, NN, bs, bm, sn, sub, ab, col, dd, c0, c1, c2, c3, c5, hC, hbm⟩ := T.cls
  have hCh := KX _ _ hC
  obtain ⟨t1, hoa⟩ := exo_at I.hok ea
  obtain ⟨hp, g, d, t, os⟩ := s
  refine ks_wpAny_isType_cls hCh rfl ⟨rfl, ?_⟩
  refine ks_wpAny_call_super hCh rfl hoa rfl (fun c z => nomatch z) (PySem.W.looks_subIn KX T.sC) (fun h1 hso k1' => ?_)
  -- the bound __init__
  have KX1 : K.In h1 := KX.keeps k1'
  have hcl : PySem.W.clsIn K C = some { name := nm, bases := bs, mro := .ref C :: bm, ns := NN, qualname := q, hasDict := true, slotNames := sn, subclasses := sub, abstract := ab, collection := col, hasDel := false } := by unfold PySem.W.clsIn; rw [hC] <;> rfl
  have hal : PySem.W.alongIn K "__init__" (((Value.ref C :: bm).dropWhile (· != .ref C)).drop 1) = some (some (.builtin initId)) := by
    have z := T.sup
    unfold PySem.W.ks_superIn at z
    rw [hcl] at z
    exact z
  have hoa1 := k1' _ _ hoa
  have inst1 : PySem.W.InstAt h1 a { cls := .ref C, dict := none, data := .fields #[.ref t1, .none, .none, .none, .bool false, .none] } C none := ⟨hoa1, rfl, rfl, trivial⟩
  have hI1 : PySem.W.Looks (model P w) h1 (isInstance (.ref a) (.type B)) true := inst1.type.andThen (PySem.W.looks_subIn KX1 T.sB)
  refine PySem.W.kxs_getMethod KF hso (PySem.W.looks_opaque KX1 T.op) (l₀ := .ref C :: bm) (fun A Q E s k q => wpAny_bind ((PySem.W.looks_clsIn KX1 hcl) A _ E s k (wpAny_pure q))) rfl KX1 hal hI1 (PySem.W.ks_ne KX1 inst1 hcl) (by decide) ?_
  -- its argument
  have kk : ∀ b o, hp.get? b = some o → (h1.push (PySem.W.kxs_mw initId a)).get? b = some o := fun b o z => Heap.get?_push_of_some _ (k1' b o z)
  have I2 : Inv (cxS CX P w K mg base N fd f A outer s0 H0 E) [] σ H ⟨h1.push (PySem.W.kxs_mw initId a), g, d, t + 1, os⟩ := I.kept (t' := t + 1) kk
  have hwr : (h1.push (PySem.W.kxs_mw initId a)).get? h1.objs.size = some (PySem.W.kxs_mw initId a) := Heap.get?_push_at rfl rfl
  have I1 : Inv (cxS CX P w K mg base N fd f A outer s0 H0 E) [] σ H ⟨h1, g, d, t + 1, os⟩ := I.kept (t' := t + 1) k1'
  have I3 : Inv (cxS CX P w K mg base N fd f A outer s0 H0 E) [(h1.objs.size, PySem.W.kxs_mw initId a)] σ H ⟨h1.push (PySem.W.kxs_mw initId a), g, d, t + 1, os⟩ := I2.pins_of fun p hp' => by
    obtain rfl := List.mem_singleton.mp hp'
    exact ⟨hwr, I1.hok.fresh (Nat.le_refl _), Nat.ne_of_gt I1.lt, I1.nofs (Nat.le_refl _), fun v z => by cases z⟩
  rw [hst]
  refine PySem.W.kxs_callWith (i := initId) (x := a) rfl ?_
  refine Calls.evalArgs_plain ?_
  have hrun := ha.run p3 [(h1.objs.size, PySem.W.kxs_mw initId a)] _ σ H _ I3 h
  rw [show starEach [e] (cxS CX P w K mg base N fd f A outer s0 H0 E).env = [(false, eval e (callEnv fd s0.heap.objs.size f))] from hst] at hrun
  refine thn hrun fun us s2 ⟨vs, H1, I4, r4, hl, ea4, q4⟩ => ?_
  have hu2 : s2.heap.get? h1.objs.size = some (PySem.W.kxs_mw initId a) := (I4.pin _ (List.mem_append_right _ (List.mem_singleton.mpr rfl))).1
  refine ⟨hu2, ?_⟩
  show wpAny _ _ (call (.ref h1.objs.size) us) _ _ _
  have I5 : Inv (cxS CX P w K mg base N fd f A outer s0 H0 E) [] σ H1 s2 := I4.pins_of (fun p hp' => by cases hp')
  obtain ⟨t4, ho4⟩ := exo_at I5.hok ea4
  have hC2 := I5.kIn _ _ hC
  have hz : us.length ≤ sizeLine := by
    rw [← Paired.length r4, sizeLine_eq]
    omega
  have fin : ∀ h', (∀ b o, b ≠ a → s2.heap.get? b = some o → h'.get? b = some o) → (∃ t5 : Addr, h'.get? a = some ({ cls := .ref C, dict := none, data := .fields #[.ref t5, .none, .none, .none, .bool false, .none] } : Obj)) → ∃ H', Inv (cxS CX P w K mg base N fd f A outer s0 H0 E) [] σ H' { s2 with heap := h' } ∧ R H' := fun h' k ⟨t5, hx⟩ => by
    have J := I5.write (t' := s2.toks) (x := a) (e := a) (o := exo a C none) (by rw [ea4]; exact True.intro) (.inl rfl) k ⟨_, hx⟩ (exo_ok hx)
    have eu : upd H1 a (exo a C none) = H1 := by
      funext b
      by_cases hb : b = a
      · rw [hb, upd_same, ea4]
      · rw [upd_ne hb]
    rw [eu] at J
    exact ⟨H1, J, q4⟩
  obtain ⟨hp2, g2, d2, tk2, os2⟩ := s2
  refine wpAny_call (codeAny_of_tree ?_)
  show wpAny _ _ (callAny (.ref h1.objs.size) ⟨us, []⟩) _ _ _
  simp only [callAny]
  refine wpAny_bind (wpAny_load hu2 ?_)
  simp only [PySem.W.kxs_mw, show (Value.type "method-wrapper" == Value.type "method" || Value.type "method-wrapper" == Value.type "builtin_function_or_method" || Value.type "method-wrapper" == Value.type "method-wrapper") = true by decide, if_true]
  refine PySem.W.KFB.if_so (by decide) ?_
  refine wpAny_bind (PySem.W.check_bound_init FB.toExcCallFacts hC2 ho4 rfl ?_)
  refine wpAny_bind (wpAny_pure (wpAny_pure ?_))
  refine ⟨plainId_quiet FB.init.plain _, codeAny_builtin FB.initEntry ?_⟩
  exact PySem.W.exc_init_tree (cls := .ref C) (t0 := t4) (dv := none) (c2 := .none) (c3 := .none) (b4 := .bool false) ho4 hz fun h' k e' t' => fin h' k ⟨_, e'⟩
end
end L2

namespace L2
open PySem PySem.Spec PyProof.Rows
section
variable {CX : CXT} {P : Program} {w : World} {K : PySem.W.Frag} {mg : Str → Option Value} {base : Heap} {k : Nat} {N ps : List Str} {fd : FuncData} {f cc C : Addr} {cd1 : Option Addr} {sl1 : Array (Option Value)} {ar : Arg} {sp : Sp}
  {e : Expr} {p0 p1 p2 p3 p4 : Pos} {rest : List Stmt} {B newId initId : String} {bmB : List Value}
/-- an own exception's __init__ that begins with super().__init__(e) -/
theorem fn_sup (S : SupScope N ps fd cc) (hcc : K.lookup cc = some ⟨.type "cell", cd1, .cell (some (.ref C)), sl1⟩) (FB : ExcBaseFacts B newId initId bmB) (KF : PySem.W.KxsFacts B initId) (T : SupK B newId initId bmB P K mg C f fd ar) (h0 : N[0]? = some ar.arg) (hcd : PySem.W.codeIn K fd.code fd.qualname = true)
    (hbody : fd.body = .stmts (.Expr (.Call (.Attribute (.Call (.Name "super" p0) [] [] p1) "__init__" p2) [e] [] p3) p4 :: rest)) (len : ∀ vs H Q E, sp vs H Q E → vs.length = ps.length)
    (hst : ∀ env, starEach [e] env = [(false, eval e env)] := by intro env; rfl) {pl : Env → Sem Bool}
    (hcall : ∀ env, eval (.Call (.Attribute (.Call (.Name "super" p0) [] [] p1) "__init__" p2) [e] [] p3) env = (do
      let ov ← attributeBase (.Call (.Name "super" p0) [] [] p1) "__init__" env (eval (.Call (.Name "super" p0) [] [] p1) env)
      standAt p2.atName
      let (f', first) ← holding [ov] (getMethod ov "__init__" (pl env))
      callWith p3 f' first (backTo p3 (starEach [e] env)) []) := by intro env; rfl)
    (hin : ∀ L, interactive (callEnv fd L f) = false) (hsw : ∀ L, swapsWith (.Call (.Attribute (.Call (.Name "super" p0) [] [] p1) "__init__" p2) [e] [] p3) none p4.line (callEnv fd L f) = pure false)
    (h : ∀ (A : Around) (outer : List Env) (s : Shared) (H : Hp) (vs : List V) (Q : VK) (E : XK), A.guards = some [] → Room k (A.deeper (callEnv fd s.heap.objs.size f)) → sp vs H Q E →
      ∃ (a : Addr) (ta : TA) (tr : TS), (start N vs)[0]? = some (some (.ref a)) ∧ H a = some (exo a C none) ∧ PA (cxS CX P w K mg base N fd f A outer s H E) [e] ta ∧ PSs (cxS CX P w K mg base N fd f A outer s H E) rest tr ∧
        ta (start N vs) H (fun us H1 => us.length ≤ 1000 ∧ H1 a = some (exo a C none) ∧ tr { nx := fun _ H' => Q .non H', rt := Q } (start N vs) H1)) :
    FnG P w K mg base CX (k + 1) f fd ps sp := by
  refine ⟨len, fun A outer s H args us vs Q E gd hr e0 hb r hsp => ?_⟩
  have KX : K.In s.heap := e0.mod.kin.keeps fun b o e => (e0.bs b o e).1
  obtain ⟨oc, od, osl, lkf⟩ := T.fn
  refine ks_codeAny_call_defAt hr.depth (KX _ _ lkf) rfl (e0.mod.nolimit.keeps fun b o e => (e0.bs b o e).1) (PySem.W.codeRec_of KX hcd) hbody hb S.nocell (fun x hx => S.par x.1 (List.of_mem_zip hx).1) (fun h1 hns kk => ?_) S.co S.gen S.kind
  obtain ⟨a, ta, tr, ha0, hea, hta, htr, hq⟩ := h A outer s H vs Q E gd (hr.deeper _) hsp
  have I := invS_start (CX := CX) (E := E) (f := f) S hcc hr.hd e0 (len _ _ _ _ hsp) r (tk := s.toks + (ps.zip us).length) hns kk
  refine ks_wpAt_execs_cons (ks_wpAt_Expr_any (PySem.wpAt_mono (sup_run (pl := pl _) S hcc FB KF T h0 I ha0 hea hta hq (hst _) (hcall _)) (fun v s1 ⟨H1, I1, q1⟩ => ?_) fun e s' hs => hs) (hin _) (hsw _))
  refine PySem.wpAt_of_wpAny (wpAny_mono (htr.run [] s1 _ H1 _ I1 q1) (fun fl s' hs => ?_) fun e s' hs => hs)
  cases fl with
  | ret u => obtain ⟨v, σ', H', J, rv, q⟩ := hs; exact ⟨v, H', J.os, J.bare, J.base, J.hok, rv, q⟩
  | next => obtain ⟨σ', H', J, q⟩ := hs; exact ⟨V.non, H', J.os, J.bare, J.base, J.hok, rfl, q⟩
  | brk => obtain ⟨_, _, _, q⟩ := hs; exact False.elim q
  | cont => obtain ⟨_, _, _, q⟩ := hs; exact False.elim q
end
end L2

namespace L2
open PySem PySem.Spec PyProof.Rows
theorem make_guards {A : Around} {C : Addr} {us : List Value} {kw : List (Str × Value)} : (A.under (.builtin "type.__call__" ⟨.ref C :: us, kw⟩)).guards = A.guards := by
  first | rfl | simp [Around.under]
theorem deeper_guards {A : Around} {env : Env} : (A.deeper env).guards = A.guards := by
  first | rfl | simp [Around.deeper]
/-- an exception object of C is laid: its args, then itself -/
theorem exc_laid {X : Cx} {pins : List (Addr × Obj)} {σ : St} {G : Hp} {s0 : Shared} {args : List Value} {C : Addr} (J : Inv X pins σ G s0) :
    (∀ b o, s0.heap.get? b = some o → ((s0.heap.push (PySem.W.kdv_tup args)).push (PySem.HandSPX.excO C s0.heap.objs.size)).get? b = some o) ∧
    Inv X pins σ (upd G (s0.heap.objs.size + 1) (exo (s0.heap.objs.size + 1) C none)) { s0 with heap := (s0.heap.push (PySem.W.kdv_tup args)).push (PySem.HandSPX.excO C s0.heap.objs.size) } := by
  have stays : ∀ b o, s0.heap.get? b = some o → ((s0.heap.push (PySem.W.kdv_tup args)).push (PySem.HandSPX.excO C s0.heap.objs.size)).get? b = some o := fun b o z => Heap.get?_push_of_some _ (Heap.get?_push_of_some _ z)
  exact ⟨stays, J.laid (t' := s0.toks) (o := exo (s0.heap.objs.size + 1) C none) stays (Nat.le_succ _) (exo_ok (by heap_get))⟩
/-- C(e, ..): an own exception over ValueError, whose __init__ is told where no repr is under way -/
theorem pmk_oexG {X : Cx} {CX : CXT} {x : Str} {C g : Addr} {n : Nat} {fd : FuncData} {ps : List Str} {pr : Sp} {ds : List Value} {dvs : List V} {e : Expr} {es : List Expr} {ta : TA} {p pos : Pos} (cls : OexC X.K C) (init : PySem.W.findIn X.K (.ref C) "__init__" = some (some (.ref g))) (isfn : PySem.W.typeIn X.K (.ref g) = some (.type "function"))
    (F : FnG X.prog X.w X.K X.mg X.base CX n g fd ps pr) (quiet : X.A.guards = some []) (room : Room (n + 1) X.A) (bn : Binds X.K fd ps ds) (dv : Vals dvs ds) (pass : Passes CX X (fun _ _ _ => False)) (gl : Gl X x) (at_ : X.mg x = some (.ref C)) (args : PA X (e :: es) ta)
    (nd : (x == ("__debug__" : Str)) = false := by decide) (st : starEach (e :: es) X.env = (false, eval e X.env) :: starEach es X.env := by rfl) (pl : (backTo pos (starEach es X.env)).any (·.1) = false := by rfl) :
    PMk X (.Call (.Name x p) (e :: es) [] pos) (tMkO C pr dvs ta) := by
  intro pins s0 σ G W J w
  have vals := args.run pos pins s0 σ G _ J w
  refine wpAny_Call_Name_kw (ld_glob J gl at_ (PySem.W.callWith_K (h₀ := X.base) J.ok.mod.kin cls.kC (thn vals ?_) st pl) nd)
  rintro us ⟨hp, gens, dr, tk, os⟩ ⟨as, G1, J1, rel, few, wish⟩
  refine ⟨J1.kIn, ?_⟩
  show wpAny _ _ (PySem.call (.ref C) us) _ _ _
  obtain ⟨_, _, _, _, bm, _, _, _, _, _, _, _, _, _, _, look, tail⟩ := cls.cls
  obtain ⟨stays, J2⟩ := exc_laid (args := us) (C := C) J1
  have w1 := wish (hp.objs.size + 1) (J1.hok.fresh (Nat.le_succ hp.objs.size))
  have rel2 : Vals (V.ref (hp.objs.size + 1) :: (as ++ dvs)) (Value.ref (hp.objs.size + 1) :: (us ++ ds)) := .cons rfl (rel.append dv)
  have many : (Value.ref (hp.objs.size + 1) :: us ++ ds).length = ps.length := rel2.length.symm.trans (F.len _ _ _ _ w1)
  have run := F.run _ X.stack _ _ ⟨Value.ref (hp.objs.size + 1) :: us, []⟩ _ _ _ (fun _ _ _ => False) (make_guards.trans quiet) (room.make C us []) (J2.env0.make C us []) (bn _ (Value.ref (hp.objs.size + 1) :: us) J2.kIn many) rel2 w1
  have line : us.length ≤ sizeLine := Nat.le_trans (Nat.le_of_eq (Paired.length rel).symm) (Nat.le_trans few (by rw [sizeLine_eq]; decide))
  refine wpAny_call (PySem.HandSPX.call_own PySem.F.excBase_ValueError (fun Y => PySem.HandSPX.refsVE_contains Y bm tail) (J1.kIn _ _ look) (PySem.W.looks_findIn J1.kIn init) (fun self => PySem.W.bind_fn J1.kIn self isfn) line (codeAny_mono run ?_))
  rintro (er | fl) s3 z
  · exact pass pins σ _ _ er s3 J2 z
  · cases fl with
    | ret u =>
      obtain ⟨_, G3, same, bare, un, ok, none_, rfl, d, fs, at3, own, new, w3⟩ := z
      exact ⟨none_, mk_end (raises_own cls.exC cls.tyC) J1 (Nat.le_succ _) stays un ok same bare at3 own new w3⟩
    | _ => exact z.elim
end L2

/-! x(lambda: body, e): the lambda is called by a def with two parameters; no repr is under way. -/
namespace L2
open PySem PySem.Spec PyProof.Rows LamX
section
variable {X : Cx} {pins : List (Addr × Obj)} {σ : L2.St} {H : Hp} {s : Shared}
theorem pe_actG {CXg : CXT} {Eg : XK} {Ng : List Str} {qg : Str} {sg : Scope} {g f c' : Addr} {cdg pm ctv : Value} {params : Arguments} {body : Expr} {scope : Scope} {k i : Nat} {a : Str} {pn : List (Addr × Obj)} {xe : Value → Shared → Prop} {W : WX} {t : XK → TE} {p1 p2 : Pos}
    (gd : X.A.guards = some []) (I : Inv X pins σ H s) (L : LamS X.env.scope scope) (hf : s.heap.get? f = some (PySem.W.kla_obj "<lambda>" (X.env.qual ++ "<lambda>") params body scope (cloFrom X.env.cells scope.names []) pm c' ctv)) (hfn : H f = none) (hfr : f ∉ frs X.stack)
    (hbind : bindArgs (PySem.W.kla_fn "<lambda>" (X.env.qual ++ "<lambda>") params body scope (cloFrom X.env.cells scope.names []) pm (.ref c') ctv) ⟨[], []⟩ = pure [])
    (tk : Takes ((cxOf CXg X.prog X.w X.K X.mg X.base Ng qg sg g cdg X.A X.stack s H Eg).tr pn xe) W) (hr : Room (k + 1) (X.A.deeper (envOfC qg sg s.heap.objs.size g cdg)))
    (hbody : ∀ (A : Around) (outer : List Env) (s : Shared) (H : Hp) (E : XK), A.guards = some [] → Room k (A.deeper (lamEnv X scope s.heap.objs.size f c')) → PE (lamCx X A outer s H E scope f c') body (t E))
    (hN : Ng[i]? = some a) (hv : Vis sg a) (hd : (a == ("__debug__" : Str)) = false := by decide) (hcd : (a == ("__classdict__" : Str)) = false := by decide) :
    PE ((cxOf CXg X.prog X.w X.K X.mg X.base Ng qg sg g cdg X.A X.stack s H Eg).tr pn xe) (.Call (.Name a p1) [] [] p2)
      (fun σZ HZ Q => σZ[i]? = some (some (.ref f)) ∧ HZ c' = some (CodeO c' (X.env.qual ++ "<lambda>")) ∧ t (WE W σZ) σ HZ Q) := by
  refine ⟨fun pZ sZ σZ HZ Q JZ h => ?_⟩
  obtain ⟨hs, hc, ht⟩ := h
  refine wpAny_Call_Name_kw (thn ((pe_var (pos := p1) (i := i) hN hv hd hcd).run pZ sZ σZ HZ (fun v H1 => v = .ref f ∧ H1 = HZ) JZ ⟨.ref f, hs, rfl, rfl⟩) fun u s1 ⟨v, H1, J1, r1, e1, e2⟩ => ?_)
  subst e1
  rw [e2] at J1
  obtain rfl : u = Value.ref f := r1
  have hfun := J1.base.keep f _ hf hfn hfr (fun z => nomatch (show f ∈ ([] : List Addr) from z))
  refine PySem.W.callWith_F0 ⟨_, _, _, _, hfun⟩ ?_
  have un : Un (frs X.stack) [] H HZ s.heap s1.heap := J1.base
  obtain ⟨⟨oc, vs, t, hoc, hdc, hvc⟩, _, _⟩ := J1.hok c' _ hc
  have gd2 : (X.A.deeper (envOfC qg sg s.heap.objs.size g cdg)).guards = some [] := deeper_guards.trans gd
  have rc : codeAny (model X.prog X.w) (X.A.deeper (envOfC qg sg s.heap.objs.size g cdg)) (.call (.ref f) ⟨[], []⟩) (CR (L2.CX X.prog X.w) (envOfC qg sg s.heap.objs.size g cdg :: X.stack) X.prog X.w HZ s1 Q (WE W σZ)) s1 := by
    refine PySem.W.kla_callFunE hr.depth hfun rfl L.co L.gen rfl ⟨c', oc, vs, t, rfl, hoc, hdc, hvc⟩ ?_
    rw [hbind]
    refine wpAny_pure (wpAny_newFunctionEnv (fun y hy => (L.own y hy).2) (fun y hy => absurd hy (by simp)) (fun h₁ hns hsb => ⟨J1.nolimit.fresh _ hsb, ?_⟩) L.kind)
    show codeAny _ _ (.expr body (lamEnv X scope s1.heap.objs.size f c')) _ _
    have kp : ∀ b o, s1.heap.get? b = some o → h₁.get? b = some o := fun b o e => hsb.extBut b o (Nat.ne_of_lt (Heap.lt_size e)) (Heap.get?_push_of_some _ e)
    have J := lam_start2 (E := WE W σZ) (f := f) (c' := c') (tk := s1.toks + ([] : List (Str × Value)).length) I L J1.env0 hr.hd un hns kp
    refine PySem.W.kla_codeExpr (wpAny_mono ((hbody _ _ s1 HZ _ gd2 (hr.deeper _)).run [] _ _ HZ Q J ht) (fun v s' hq => ?_) fun e s' hq => hq)
    obtain ⟨w', G, JG, rv, q⟩ := hq
    exact ⟨w', G, JG.os, JG.bare, JG.base, JG.hok, rv, q⟩
  have out := passAt tk σZ
  refine wpAny_call (codeAny_mono rc ?_)
  rintro (er | fl) s2 z
  · exact out pZ HZ s1 er s2 J1 z
  · cases fl with
    | ret u => exact J1.after z
    | _ => exact z.elim
end
end L2

/-! x op y, x == y, x != y, str(x): x an instance with own methods, y an instance, an int or a text. -/
namespace L2
open PySem PySem.Spec PyProof.Rows
section
variable {X : Cx} {k : Nat} {pins : List (Addr × Obj)} {σ : St} {H : Hp} {s : Shared}
theorem run_fnA {A' : Around} {f : Addr} {sp : Sp} {Q : VK} {us : List Value} {vs : List V} {E : Value → Shared → Prop} (F : FnR X.prog X.w X.K X.mg X.base CX0 k f sp) (hf : A'.frames = some X.stack) (hr : Room k A') (I : Inv X pins σ H s) (r : Vals vs us) (h : sp vs H Q E0) :
    wpAny (model X.prog X.w) A' (call (.ref f) us) (EP X pins σ Q) E s := by
  refine wpAny_call (codeAny_mono (F A' X.stack s H us vs Q E0 hr ⟨hf, I.env0.mod, I.env0.bs, I.env0.bsz, I.env0.funs, I.env0.frf, I.env0.hok, I.env0.bare⟩ r h) fun r s' hq => ?_)
  cases r with
  | error e => exact False.elim hq
  | ok fl =>
    cases fl with
    | ret u => exact I.after hq
    | next => exact False.elim hq
    | brk => exact False.elim hq
    | cont => exact False.elim hq
/-- the right side: an instance of C, an int, a text -/
inductive Side (C : Addr) (H : Hp) : V → Value → Prop where
  | ins {b dy : Addr} {gs : List (Str × V)} (h : H b = some (.ins C dy gs)) : Side C H (.ref b) (.ref C)
  | int (i : Int) : Side C H (.int i) (.type "int")
  | str (t : Str) : Side C H (.str t) (.type "str")
theorem Side.look {C : Addr} {y : V} {u tb : Value} (d : Side C H y tb) (I : Inv X pins σ H s) (r : RelV y u) : PySem.W.Looks (model X.prog X.w) s.heap (typeOf u) tb := by
  cases d with
  | ins h =>
    obtain rfl : u = Value.ref _ := r
    obtain ⟨mA, M, _⟩ := ins_get I.hok h
    obtain ⟨od, J, _⟩ := M.look
    exact J.type
  | int i =>
    obtain ⟨t, rfl⟩ := r
    exact PySem.W.Looks.of_pure rfl
  | str x =>
    obtain ⟨t, rfl⟩ := r
    exact PySem.W.Looks.of_pure rfl
/-- x op y, y an instance or an int -/
def rOwnM (C : Addr) (sp : Sp) : R2 := fun x y H Q => ∃ a dx fs, x = .ref a ∧ H a = some (.ins C dx fs) ∧ ((∃ b dy gs, y = .ref b ∧ H b = some (.ins C dy gs)) ∨ ∃ i, y = .int i) ∧ sp [x, y] H Q E0
theorem op_ownM {C g : Addr} {op : Operator} {sp : Sp} {fo ro : Option Value} (hc : PySem.W.selfFirst X.K C = true) (hs : PySem.W.findIn X.K (.ref C) (PySem.dunder op.info.2) = some (some (.ref g))) (hf : PySem.W.isFn X.K (.ref g) = true)
    (hr2 : PySem.W.findIn X.K (.ref C) (dunderR op.info.2) = some none) (h1 : PySem.W.findIn X.K (.type "int") (PySem.dunder op.info.2) = some fo) (h2 : PySem.W.findIn X.K (.type "int") (dunderR op.info.2) = some ro) (hsub : PySem.W.subIn X.K (.type "int") (.ref C) = some false)
    (F : FnR X.prog X.w X.K X.mg X.base CX0 k g sp) (hr : Room k X.A) : OpR X (binaryOp op) (rOwnM C sp) := by
  intro pins s σ H x y v u Q I rx ry h
  obtain ⟨a, dx, fs, rfl, ha, hy, q⟩ := h
  cases (show v = Value.ref a from rx)
  obtain ⟨mA, M, _⟩ := ins_get I.hok ha
  obtain ⟨od, J, _⟩ := M.look
  obtain ⟨m, hF⟩ := I.fr
  have run : wpAny (model X.prog X.w) X.A (call (.ref g) [.ref a, u]) (PySem.W.CmpBack (EP X pins σ Q)) X.xe s := by
    refine wpAny_mono (run_fnA (vs := [.ref a, y]) F I.ok.frames hr I (.cons rfl (.cons ry .nil)) q) (fun w s' z => ?_) fun _ _ x => x
    obtain ⟨z', H', I', rz, qz⟩ := z
    exact SlX.cmpback rz ⟨z', H', I', rz, qz⟩
  rcases hy with ⟨b, dy, gs, rfl, hb⟩ | ⟨i, rfl⟩
  · cases (show u = Value.ref b from ry)
    obtain ⟨mB, M', _⟩ := ins_get I.hok hb
    obtain ⟨od', J', _⟩ := M'.look
    exact PySem.W.binop_K hF I.ok.mod.kin J J'.type hc hs hf run
  · obtain ⟨t, rfl⟩ := ry
    exact PySem.W.ksp_binT (T := "int") hF I.ok.mod.kin J rfl hc hs hf hr2 (.inl rfl) h1 h2 hsub run
/-- what the own __eq__ is asked -/
def rOwnEq (C : Addr) (sp : Sp) (neg : Bool) : R2 := fun x y H Q => ∃ a dx fs tb, x = .ref a ∧ H a = some (.ins C dx fs) ∧ Side C H y tb ∧ sp [x, y] H (fun v H' => ∃ b, v = .bl b ∧ Q (.bl (xor neg b)) H') E0
theorem op_ownEq {C g : Addr} {sp : Sp} (hs : PySem.W.findIn X.K (.ref C) "__eq__" = some (some (.ref g))) (hf : PySem.W.isFn X.K (.ref g) = true) (hi : PySem.W.notFirst X.K C (.type "int") = true) (hst : PySem.W.notFirst X.K C (.type "str") = true)
    (F : FnR X.prog X.w X.K X.mg X.base CX0 k g sp) (hr : Room k X.A) : OpR X (compareOp .Eq) (rOwnEq C sp false) := by
  intro pins s σ H x y v u Q I rx ry h
  obtain ⟨a, dx, fs, tb, rfl, ha, hy, q⟩ := h
  cases (show v = Value.ref a from rx)
  obtain ⟨mA, M, _⟩ := ins_get I.hok ha
  obtain ⟨od, J, _⟩ := M.look
  obtain ⟨m, hF⟩ := I.fr
  have hn : PySem.W.notFirst X.K C tb = true := by
    cases hy with
    | ins _ => unfold PySem.W.notFirst; simp
    | int _ => exact hi
    | str _ => exact hst
  show wpAny _ _ (richCompare .Eq (.ref a) u) _ _ _
  refine PySem.W.cmp_K hr.units0 hF I.ok.mod.kin J (hy.look I ry) hn hs hf ?_
  refine wpAny_mono (run_fnA (vs := [.ref a, y]) F I.ok.frames hr I (.cons rfl (.cons ry .nil)) q) (fun w s' z => ?_) fun _ _ x => x
  obtain ⟨z', H', I', rz, b, rfl, qz⟩ := z
  obtain rfl : w = Value.bool b := rz
  exact ⟨.bl b, H', I', rfl, by rw [Bool.false_xor] at qz; exact qz⟩
theorem op_ownNe {C g : Addr} {sp : Sp} (hs : PySem.W.findIn X.K (.ref C) "__eq__" = some (some (.ref g))) (hf : PySem.W.isFn X.K (.ref g) = true) (hne : PySem.W.findIn X.K (.ref C) "__ne__" = some (some (.builtin "object.__ne__"))) (hm : PySem.W.mroIn X.K C (.type "object") = some true)
    (hi : PySem.W.notFirst X.K C (.type "int") = true) (hst : PySem.W.notFirst X.K C (.type "str") = true)
    (F : FnR X.prog X.w X.K X.mg X.base CX0 k g sp) (hr : Room (k + 1) X.A) : OpR X (compareOp .NotEq) (rOwnEq C sp true) := by
  intro pins s σ H x y v u Q I rx ry h
  obtain ⟨a, dx, fs, tb, rfl, ha, hy, q⟩ := h
  cases (show v = Value.ref a from rx)
  obtain ⟨mA, M, _⟩ := ins_get I.hok ha
  obtain ⟨od, J, _⟩ := M.look
  have hn : PySem.W.notFirst X.K C tb = true := by
    cases hy with
    | ins _ => unfold PySem.W.notFirst; simp
    | int _ => exact hi
    | str _ => exact hst
  have one : wpAny (model X.prog X.w) X.A (tryCompare (.ref a) "__ne__" u) (fun r s' => ∃ v, r = some v ∧ EP X pins σ Q v s') X.xe s := by
    unfold tryCompare
    have hc : wpAny (model X.prog X.w) X.A (call (.builtin "object.__ne__") [.ref a, u]) (fun v s' => ∃ b, v = .bool b ∧ EP X pins σ Q (.bool b) s') X.xe s := by
      refine wpAny_call (codeAny_call_builtin PySem.F.cmp_object.ne.plain PySem.F.cmpEntry_ne (PySem.W.check_slot PySem.F.cmpKind_ne PySem.F.cmpSplit_ne (J.type.andThen (PySem.W.looks_mroIn I.kIn hm)) (PySem.F.cmpArgs_ne _ _) ?_))
      unfold Builtin.«object.__ne__»
      refine wpAny_bind (m := slotArgs "__ne__" 1 _) (wpAny_pure ?_)
      refine wpAny_bind (m := cRoomFor _ _) (wpAny_cRoomFor (by have := hr.un; show X.A.units + 1 < cLine; omega) ?_)
      refine wpAny_bind (m := callSpecialIfBound? (.ref a) (Str.ofString "__eq__") [u]) (PySem.W.ifBound_K I.kIn J hs hf (wpAny_mono (run_fnA (A' := X.A.in1) (vs := [.ref a, y]) F I.ok.frames hr.in1 I (.cons rfl (.cons ry .nil)) q) (fun w s' z => ?_) fun _ _ x => x))
      obtain ⟨z', H', I', rz, b, rfl, qz⟩ := z
      obtain rfl : w = Value.bool b := rz
      refine wpAny_bind (m := truthy (.bool b)) (wpAny_truthy_bool (wpAny_pure ⟨_, rfl, .bl (!b), H', I', rfl, by rw [Bool.true_xor] at qz; exact qz⟩))
    refine wpAny_bind (m := callSpecialIfBound? (.ref a) (Str.ofString "__ne__") [u]) ?_
    simp only [callSpecialIfBound?, bindSpecialIfBound?]
    refine wpAny_holding (wpAny_bind (wpAny_bind (wpAny_bind (J.type.here ((PySem.W.looks_findIn I.kIn hne).here ?_)))))
    simp only [PySem.F.cmp_object.ne.bind]
    refine wpAny_bind (wpAny_askSetting (wpAny_ite ?_))
    have fin : ∀ {Q' : Option Value → Shared → Prop}, (∀ b s', EP X pins σ Q (.bool b) s' → Q' (some (.bool b)) s') → wpAny (model X.prog X.w) X.A (call (.builtin "object.__ne__") ([.ref a] ++ [u]) >>= fun v => pure (some v)) Q' X.xe s := fun {Q'} hq => wpAny_bind (wpAny_mono hc (fun v s' ⟨b, e, h'⟩ => by subst e; exact wpAny_pure (hq b s' h')) fun _ _ h' => h')
    split
    · exact wpAny_bind (wpAny_pure (wpAny_pure (fin fun b s' h' => wpAny_pure ⟨_, rfl, h'⟩)))
    · exact wpAny_tryCatch (wpAny_bind (wpAny_pure (wpAny_pure (fin fun b s' h' => wpAny_pure ⟨_, rfl, h'⟩))))
  have apart : (Value.ref C != tb) = true → PySem.W.subIn X.K tb (.ref C) = some false := fun z => by
    rcases Bool.or_eq_true_iff.mp hn with y | y
    · exact absurd (beq_iff_eq.mp y) (by intro e; rw [e] at z; simp at z)
    · exact beq_iff_eq.mp y
  show wpAny _ _ (richCompare .NotEq (.ref a) u) _ _ _
  simp only [richCompare, oneThing_ref, cmpInfo_NotEq]
  refine wpAny_holding (wpAny_bind (wpAny_cRoomFor hr.units0 (wpAny_bind (J.type.here (wpAny_bind ((hy.look I ry).here ?_))))))
  by_cases z : (Value.ref C != tb) = true
  · rw [if_pos z]
    exact wpAny_bind ((PySem.W.looks_subIn I.kIn (apart z)).here (wpAny_bind (wpAny_mono one (fun _ _ ⟨_, e, y⟩ => by subst e; exact wpAny_pure y) fun _ _ y => y)))
  · rw [if_neg z]
    first
      | exact wpAny_bind (wpAny_pure (wpAny_bind (wpAny_mono one (fun _ _ ⟨_, e, y⟩ => by subst e; exact wpAny_pure y) fun _ _ y => y)))
      | exact wpAny_bind (wpAny_mono one (fun _ _ ⟨_, e, y⟩ => by subst e; exact wpAny_pure y) fun _ _ y => y)
/-- str(x) by the own __str__ -/
theorem call_strO {C g : Addr} {sp : Sp} (hs : PySem.W.findIn X.K (.ref C) "__str__" = some (some (.ref g))) (hf : PySem.W.isFn X.K (.ref g) = true) (F : FnR X.prog X.w X.K X.mg X.base CX0 k g sp) (hr : Room (k + 2) X.A) :
    CallR X (.type "str") (fun us H Q => ∃ a dx fs, us = [.ref a] ∧ H a = some (.ins C dx fs) ∧ sp [.ref a] H (fun v H' => ∃ t, v = .str t ∧ Q (.str t) H') E0) := by
  rintro pins s σ H _ us Q I r ⟨a, dx, fs, rfl, ha, q⟩
  rcases vals1 r with ⟨_, rfl, rfl⟩
  have M := (ins_get I.hok ha).choose_spec.1
  obtain ⟨od, It, _⟩ := M.look
  refine PySem.W.kso_call (by have := hr.un; show X.A.units + 1 + 1 < cLine; omega) I.kIn It hs hf ?_
  refine wpAny_mono (run_fnA (A' := X.A.in1.in1) (vs := [.ref a]) F I.ok.frames hr.in1.in1 I (.cons rfl .nil) q) (fun w s' z => ?_) fun _ _ x => x
  obtain ⟨z', H', I', rz, t, rfl, qz⟩ := z
  obtain ⟨tk, rfl⟩ := rz
  exact ⟨.str t, H', I', ⟨tk, rfl⟩, qz⟩
end
end L2

/-! x op y, x == y, o.m(y): y a value of a built-in type; the own method may raise. -/
namespace PySem.W
open Lean Elab Tactic Meta PySem PySem.Calls PyProof.Rows
section
variable {prog : Program} {w : World} {A : Around} {E : Value → Shared → Prop} {s : Shared} {K : Frag} {x C L f : Addr} {h₀ : Heap} {m : Str → Option Value} {ox : Obj} {od : Option Obj} {T : String}
theorem bin_oth {op : Operator} {b : Value} {fo ro : Option Value} {Q : Value → Shared → Prop} (R : Fr h₀ L s.heap m) (KI : K.In h₀) (I : InstAt s.heap x ox C od) (hb : Looks (model prog w) s.heap (typeOf b) (.type T)) (first : selfFirst K C = true)
    (meth : findIn K (.ref C) (PySem.dunder op.info.2) = some (some (.ref f))) (fn : isFn K (.ref f) = true) (refl : findIn K (.ref C) (dunderR op.info.2) = some none)
    (to : findIn K (.type T) (PySem.dunder op.info.2) = some fo) (tr : findIn K (.type T) (dunderR op.info.2) = some ro) (sub : subIn K (.type T) (.ref C) = some false)
    (go : wpAny (model prog w) A (call (.ref f) [.ref x, b]) (CmpBack Q) E s) : wpAny (model prog w) A (binaryOp op (.ref x) b) Q E s := by
  have KX := KI.keeps R.keep
  obtain ⟨cd, rest, c1, c2⟩ := ksp_first first
  rcases hop : op.info with ⟨sy, n⟩
  rw [hop] at meth refl to tr
  have tried := ksp_try KX I meth fn go
  obtain ⟨hp, gs, dr, tk, os⟩ := s
  have T1 : Looks (model prog w) hp (typeOf (.ref x)) (.ref C) := I.type
  have T2 : Looks (model prog w) hp (typeOf b) (.type T) := hb
  have F1 : Looks (model prog w) hp (fillsNumberSlot (.ref C) n) true := fills_K KX c1 c2 meth
  obtain ⟨rt, F2⟩ : ∃ rt, Looks (model prog w) hp (fillsNumberSlot (.type T) n) rt := ⟨_, ksp_fillsT KX to tr⟩
  have S1 : Looks (model prog w) hp (isSubtype (.type T) (.ref C)) false := looks_subIn KX sub
  have P1 : Looks (model prog w) hp (numberSlotInPython (.ref C) n) true := ksp_inPy KX meth refl (.inl rfl)
  have P2 : Looks (model prog w) hp (numberSlotInPython (.type T) n) false := Looks.of_pure rfl
  have R1 : Looks (model prog w) hp (typeLookup (.type T) (dunderR n)) ro := looks_findIn KX tr
  have other : (Value.ref C == Value.type T) = false := by
    refine Bool.eq_false_iff.mpr fun z => ?_
    cases beq_iff_eq.mp z
  simp only [binaryOp, hop]
  refine wpAny_holding ?_
  refine wpAny_bind ?_
  unfold binaryOp1
  refine wpAny_bind (T1.at ?_)
  refine wpAny_bind (T2.at ?_)
  refine wpAny_bind (F1.at ?_)
  simp only [other, Bool.false_eq_true, if_false]
  cases rt
  all_goals
    ksp_lk
    refine wpAny_mono tried ?_ (fun _ _ z => z)
    rintro r s' ⟨v, rfl, q⟩
    ksp_lk
    exact q
end
end PySem.W
namespace L2
open PySem PySem.Spec PyProof.Rows
/-- a value of a built-in type other than int, and the type's name -/
inductive OddV (H : Hp) : V → String → Prop where
  | non : OddV H .non "NoneType"
  | bl (b : Bool) : OddV H (.bl b) "bool"
  | str (x : Str) : OddV H (.str x) "str"
  | lst {a : Addr} {xs : List V} (e : H a = some (.lst xs)) : OddV H (.ref a) "list"
  | tup {a : Addr} {xs : List V} (e : H a = some (.tup xs)) : OddV H (.ref a) "tuple"
  | dK {a : Addr} {kvs : List (Key × V)} (e : H a = some (.dK kvs)) : OddV H (.ref a) "dict"
theorem OddV.same {H H' : Hp} {v : V} {T : String} (s : ∀ b o, H b = some o → H' b = some o) (h : OddV H v T) : OddV H' v T := by
  cases h with
  | non => exact .non
  | bl b => exact .bl b
  | str x => exact .str x
  | lst e => exact .lst (s _ _ e)
  | tup e => exact .tup (s _ _ e)
  | dK e => exact .dK (s _ _ e)
theorem OddV.ty {K : PySem.W.Frag} {H : Hp} {v : V} {T : String} (h : OddV H v T) : TyX K H v (.type T) := by
  cases h with
  | non => exact .base .non
  | bl b => exact .base (.bl b)
  | str x => exact .base (.str x)
  | lst e => exact .base (.lst e)
  | tup e => exact .base (.tup e)
  | dK e => exact .base (.dK e)
/-- of a class of the text: no built-in type is below it -/
structure TyC (K : PySem.W.Frag) (C : Addr) (T : String) : Prop where
  kit : PySem.W.kitOne K (.type T) (.ref C) = some false
  sub : PySem.W.subIn K (.type T) (.ref C) = some false
structure OddC (K : PySem.W.Frag) (C : Addr) : Prop where
  non : TyC K C "NoneType"
  bl : TyC K C "bool"
  str : TyC K C "str"
  lst : TyC K C "list"
  tup : TyC K C "tuple"
  dK : TyC K C "dict"
theorem OddV.tyc {K : PySem.W.Frag} {C : Addr} {H : Hp} {v : V} {T : String} (h : OddV H v T) (c : OddC K C) : TyC K C T := by
  cases h with
  | non => exact c.non
  | bl b => exact c.bl
  | str x => exact c.str
  | lst e => exact c.lst
  | tup e => exact c.tup
  | dK e => exact c.dK
theorem OddV.notFirst {K : PySem.W.Frag} {C : Addr} {H : Hp} {v : V} {T : String} (h : OddV H v T) (c : OddC K C) : PySem.W.notFirst K C (.type T) = true := by
  unfold PySem.W.notFirst
  rw [(h.tyc c).sub]
  simp
/-- what a type says of an operator's names -/
def TyOp (K : PySem.W.Frag) (op : Operator) (T : String) : Prop := ∃ fo ro, PySem.W.findIn K (.type T) (PySem.dunder op.info.2) = some fo ∧ PySem.W.findIn K (.type T) (dunderR op.info.2) = some ro
theorem tyop {K : PySem.W.Frag} {op : Operator} (ho : op = .Add ∨ op = .Sub ∨ op = .Mult) {H : Hp} {v : V} {T : String} (h : OddV H v T) : TyOp K op T := by
  rcases ho with rfl | rfl | rfl <;> cases h <;> exact ⟨_, _, rfl, rfl⟩
section
variable {X : Cx} {CX : CXT} {k : Nat} {C g : Addr} {sp : Sp} {fd : FuncData} {ps : List Str} {E : XK} {a b : Expr} {ta tb : TE} {pos : Pos}
def tBinX (C : Addr) (sp : Sp) (E : XK) (ta tb : TE) : TE := fun σ H Q => ta σ H fun x H1 => tb σ H1 fun y H2 => ∃ a dx fs T, x = .ref a ∧ H2 a = some (.ins C dx fs) ∧ OddV H2 y T ∧ sp [x, y] H2 Q E
/-- a op b by the own method, which may raise -/
theorem pe_binX {op : Operator} (ho : op = .Add ∨ op = .Sub ∨ op = .Mult) (oc : OddC X.K C) (hc : PySem.W.selfFirst X.K C = true) (hs : PySem.W.findIn X.K (.ref C) (PySem.dunder op.info.2) = some (some (.ref g))) (hf : PySem.W.isFn X.K (.ref g) = true)
    (hr2 : PySem.W.findIn X.K (.ref C) (dunderR op.info.2) = some none) (F : FnG X.prog X.w X.K X.mg X.base CX k g fd ps sp) (gd : X.A.guards = some []) (hr : Room k X.A) (hb : Binds X.K fd ps []) (hx : Passes CX X E) (ha : PE X a ta) (hbb : PE X b tb) :
    PE X (.BinOp a op b pos) (tBinX C sp E ta tb) := by
  refine ⟨fun pins s σ H Q I h => ?_⟩
  refine wpAny_BinOp (binT ha hbb I (R := fun x y H2 => ∃ a dx fs T, x = .ref a ∧ H2 a = some (.ins C dx fs) ∧ OddV H2 y T ∧ sp [x, y] H2 Q E) h fun v u s2 x y H2 I2 rx ry q => ?_)
  obtain ⟨a0, dx, fs, T, rfl, h0, od, q⟩ := q
  cases (show v = Value.ref a0 from rx)
  obtain ⟨mA, M, _⟩ := ins_get I2.hok h0
  obtain ⟨oD, J, _⟩ := M.look
  obtain ⟨m, hF⟩ := I2.fr
  obtain ⟨PP, KX, pp, _⟩ := kit_of I2 ry (od.ty (K := X.K))
  obtain ⟨fo, ro, t1, t2⟩ := tyop (K := X.K) ho od
  refine PySem.W.bin_oth hF I2.ok.mod.kin J (KX.ty _ _ I2.kIn pp) hc hs hf hr2 t1 t2 (od.tyc oc).sub ?_
  have q' : sp ([.ref a0, y] ++ []) H2 Q E := by rw [List.append_nil]; exact q
  refine wpAny_mono (run_fnG (vs := [.ref a0, y]) (us := [.ref a0, u]) F gd hr hb .nil hx I2 (.cons rfl (.cons ry .nil)) q') (fun w s' z => ?_) fun _ _ x => x
  obtain ⟨z', H', I', rz, qz⟩ := z
  exact SlX.cmpback rz ⟨z', H', I', rz, qz⟩
/-- x == y, y of a built-in type -/
theorem op_eqOdd (oc : OddC X.K C) (hs : PySem.W.findIn X.K (.ref C) "__eq__" = some (some (.ref g))) (hf : PySem.W.isFn X.K (.ref g) = true) (F : FnR X.prog X.w X.K X.mg X.base CX0 k g sp) (hr : Room k X.A) :
    OpR X (compareOp .Eq) (fun x y H Q => ∃ a dx fs T, x = .ref a ∧ H a = some (.ins C dx fs) ∧ OddV H y T ∧ sp [x, y] H (fun v H' => ∃ b, v = .bl b ∧ Q (.bl b) H') E0) := by
  intro pins s σ H x y v u Q I rx ry h
  obtain ⟨a, dx, fs, T, rfl, ha, od, q⟩ := h
  cases (show v = Value.ref a from rx)
  obtain ⟨mA, M, _⟩ := ins_get I.hok ha
  obtain ⟨oD, J, _⟩ := M.look
  obtain ⟨m, hF⟩ := I.fr
  obtain ⟨PP, KX, pp, _⟩ := kit_of I ry (od.ty (K := X.K))
  show wpAny _ _ (richCompare .Eq (.ref a) u) _ _ _
  refine PySem.W.cmp_K hr.units0 hF I.ok.mod.kin J (KX.ty _ _ I.kIn pp) (od.notFirst oc) hs hf ?_
  refine wpAny_mono (run_fnA (vs := [.ref a, y]) F I.ok.frames hr I (.cons rfl (.cons ry .nil)) q) (fun w s' z => ?_) fun _ _ x => x
  obtain ⟨z', H', I', rz, b, rfl, qz⟩ := z
  obtain rfl : w = Value.bool b := rz
  exact ⟨.bl b, H', I', rfl, qz⟩
end
end L2

/-! def f(cls, *v) that may raise, where no repr is under way; C.m(..) by it, and C.m(). -/
namespace L2
open PySem PySem.Spec PyProof.Rows
def FnRG (P : Program) (w : World) (K : PySem.W.Frag) (mg : Str → Option Value) (base : Heap) (CX : CXT) (k : Nat) (f : Addr) (sp : Sp) : Prop :=
  ∀ (A : Around) (outer : List Env) (s : Shared) (H : Hp) (us : List Value) (vs : List V) (Q : VK) (E : XK), A.guards = some [] → Room k A → Env0 P w K mg base A outer s H → Vals vs us → sp vs H Q E → codeAny (model P w) A (.call (.ref f) ⟨us, []⟩) (CR CX outer P w H s Q E) s
section
variable {P : Program} {w : World} {K : PySem.W.Frag} {mg : Str → Option Value} {base : Heap} {CX : CXT} {k : Nat} {f : Addr} {N ps : List Str} {sp : Sp} {oc dV kV doc pm cdv ct : Value} {od an : Option Addr} {osl : Array (Option Value)} {nm ql : Str} {pr : Arguments} {bd : List Stmt} {sc : Scope}
theorem fn_starG {pv : Str} (L : K.lookup f = some ⟨oc, od, .func (PySem.W.fnOf nm ql pr bd sc dV kV doc pm an cdv ct), osl⟩) (cd : PySem.W.codeIn K cdv ql = true) (S : FnScope N (ps ++ [pv]) sc) (up : StX.CXUp CX)
    (bind : ∀ us more : List Value, us.length = ps.length → bindArgs (PySem.W.fnOf nm ql pr bd sc dV kV doc pm an cdv ct) ⟨us ++ more, []⟩ = (newTuple more >>= fun t => pure (ps.zip us ++ [(pv, t)])))
    (run : ∀ (A : Around) (outer : List Env) (s : Shared) (H : Hp) (vs : List V) (Q : VK) (E : XK), A.guards = some [] → Room k (A.deeper (envOfC ql sc s.heap.objs.size f cdv)) → sp vs H Q E → ∃ t, PSs (cxOf CX P w K mg base N ql sc f cdv A outer s H E) bd t ∧ t { nx := fun _ H' => Q .non H', rt := Q } (start N vs) H) :
    FnRG P w K mg base CX (k + 1) f (fun vs H Q E => ∃ ws more, vs = ws ++ more ∧ ws.length = ps.length ∧ more.length ≤ sizeLine ∧ ∀ p, H p = Option.none → sp (ws ++ [V.ref p]) (upd H p (.tup more)) Q E) := by
  rintro A outer s H us _ Q E gd hr e0 r ⟨ws, more, rfl, hl, hz, hq⟩
  obtain ⟨a1, a2, rfl, q1, q2⟩ := StX.vals_split r
  have free : H s.heap.objs.size = Option.none := e0.hok.fresh (Nat.le_refl _)
  have n1 : a1.length = ps.length := q1.length.symm.trans hl
  have n2 : a2.length ≤ sizeLine := by
    have := q2.length
    omega
  refine StX.run_bnd L cd S hr e0 (G := fun xs H2 => ∃ p, H p = Option.none ∧ xs = ws ++ [V.ref p] ∧ H2 = upd H p (.tup more)) (fun A' Ex Q' h => ?_) ?_
  · rw [bind a1 a2 n1]
    refine wpAny_bind ?_
    refine wpAny_newTuple (wpAny_pure ?_) n2
    have ok : ObjOk P w (upd H s.heap.objs.size (.tup more)) (s.heap.push ({ cls := .type "tuple", data := .seq a2.toArray } : Obj)) s.heap.objs.size (.tup more) :=
      ⟨hz, a2, q2, ⟨_, Heap.get?_push_size _ rfl, rfl, _, rfl⟩⟩
    have un := StX.un_laid (fs := frs outer) (s := s) (o := ({ cls := .type "tuple", data := .seq a2.toArray } : Obj)) (u := .tup more) free
    have keep : ∀ b o, s.heap.get? b = some o → (s.heap.push ({ cls := .type "tuple", data := .seq a2.toArray } : Obj)).get? b = some o := fun b o q => Heap.get?_push_of_some _ q
    have len : (ws ++ [V.ref s.heap.objs.size]).length = (ps ++ [pv]).length := by
      rw [List.length_append, List.length_append, hl]
      rfl
    have z := h _ _ (ws ++ [V.ref s.heap.objs.size]) (a1 ++ [Value.ref s.heap.objs.size]) (StX.env0_laid e0 ok) un rfl (fun e s' => up outer s H _ _ E e s' un keep rfl) (q1.append (.cons rfl .nil)) len ⟨_, free, rfl, rfl⟩
    rw [List.zip_append n1.symm] at z
    exact z
  · rintro s2 _ _ ⟨p, hp, rfl, rfl⟩ hr'
    exact run A outer s2 _ _ Q E gd hr' (hq p hp)
end
section
variable {X : Cx} {CX : CXT} {k : Nat} {C p g : Addr} {mc : Value} {sp : Sp} {E : XK} {o e : Expr} {es : List Expr} {m : Str} {pos apos : Pos} {ta : TE} {t : TA} {pl : Sem Bool}
end
theorem PE.or {X : Cx} {e : Expr} {t t' : TE} (h : PE X e t) (h' : PE X e t') : PE X e (fun σ H Q => t σ H Q ∨ t' σ H Q) := ⟨fun pins s σ H Q I q => q.elim (h.run pins s σ H Q I) (h'.run pins s σ H Q I)⟩
end L2

/-! Rules beside the layer: t[::-1], x op y and -x by own methods. -/
namespace HT
open PySem PySem.Spec PyProof.Rows
section
variable {prog : Program} {w : World} {A : Around} {E : Value → Shared → Prop} {s : Shared}
theorem fm_congr {α β : Type} {f g : α → Option β} : ∀ (l : List α), (∀ x ∈ l, f x = g x) → l.filterMap f = l.filterMap g
  | [], _ => rfl
  | a :: t, h => by
    rw [List.filterMap_cons, List.filterMap_cons, h a (by simp), fm_congr t (fun x hx => h x (by simp [hx]))]
theorem getItem_tuple_rev {t sl : Addr} {items : Array Value} {vs : Value} {Q : Value → Shared → Prop} (ht : IsTup s.heap t items) (hs : s.heap.IsSliceOf sl .none .none vs) (ps : IsPart vs (some (-1)))
    (h : Q (.ref s.heap.objs.size) { s with heap := s.heap.push { cls := .type "tuple", data := .seq items.toList.reverse.toArray } })
    (hsz : items.size ≤ sizeLine) : wpAny (model prog w) A (getItem (.ref t) (.ref sl)) Q E s := by
  have htake : sizeOk (.seq items.toList.reverse.toArray) := by simpa [sizeOk] using hsz
  rcases id hs with ⟨os, hos, hcs, hds⟩
  have kind : s.TypeIs (.ref sl) "slice" := ⟨os, hos, hcs⟩
  have three : ∀ {A' : Around} {R : Value × Value × Value → Shared → Prop} {E' : Value → Shared → Prop}, R (.none, .none, vs) s → wpAny (model prog w) A' (Builtin.Slice.sliceFields (.ref sl)) R E' s := fun z => wpAny_bind (wpAny_field hos hds (x := .none) rfl (wpAny_bind (wpAny_field hos hds (x := .none) rfl (wpAny_bind (wpAny_field hos hds (x := vs) rfl (wpAny_pure z))))))
  unfold getItem
  try with_reducible refine wpAny_holding ?_
  first | refine wpAny_bind (wpAny_pure ?_) | skip
  refine wpAny_bind (wpAny_sequenceKey ht.typeIs (by decide) (wpAny_bind (wpAny_callSpecial?_slot (name := Str.ofString "__getitem__") ht.typeIs PyProof.Rows.slot_tuple_getitem (wpAny_call_entry PyProof.Rows.slot_tuple_getitem ht.typeIs entry_tuple_getitem ?_ (args_tuple_getitem _ _)))))
  change wpAny _ _ (Builtin.Tuple.tupleItemsOf (.ref t) >>= _) _ _ s
  refine wpAny_bind (tupleItemsOf_ ht (wpAny_bind (wpAny_typeOf kind ?_)))
  rw [if_pos (by decide)]
  unfold Builtin.Slice.sliceApplied
  refine wpAny_bind (wpAny_bind (three (wpAny_bind (slicePart_ ps ?_))))
  change wpAny _ _ (if ((-1 : Int) == 0) = true then _ else _) _ _ s
  rw [if_neg (by decide)]
  refine wpAny_bind (slicePart_none (wpAny_bind (slicePart_none (wpAny_bind (wpAny_pure ?_)))))
  have hadj : Builtin.Slice.sliceAdjust none none (-1) (items.size : Int) = ((items.size : Int) - 1, -1) := rfl
  have hpl : Builtin.Slice.slicePlaces ((items.size : Int) - 1) (-1) (-1) = items.size := by
    unfold Builtin.Slice.slicePlaces
    have h1 : ¬ ((-1 : Int) > 0) := by omega
    simp only [h1, if_false]
    split
    · have e : ((items.size : Int) - 1 - -1 - 1) / (- -1) = (items.size : Int) - 1 := by
        rw [show (- -1 : Int) = 1 by decide, Int.ediv_one]; omega
      rw [e]; omega
    · omega
  show wpAny _ _ (match Builtin.Slice.sliceAdjust none none (-1) (items.size : Int) with | (lo, hi) => pure (lo, (-1 : Int), Builtin.Slice.slicePlaces lo hi (-1))) _ _ s
  rw [hadj]
  show wpAny _ _ (pure ((items.size : Int) - 1, (-1 : Int), Builtin.Slice.slicePlaces ((items.size : Int) - 1) (-1) (-1))) _ _ s
  rw [hpl]
  refine wpAny_pure ?_
  have hno : ¬ ((((items.size : Int) - 1) == 0 && (-1 : Int) == 1 && items.size == items.size) = true) := by
    intro q
    rw [Bool.and_eq_true, Bool.and_eq_true] at q
    exact absurd q.1.2 (by decide)
  show wpAny _ _ (if (((items.size : Int) - 1) == 0 && (-1 : Int) == 1 && items.size == items.size) = true then _ else _) _ _ s
  rw [if_neg hno]
  have hpick : ((List.range items.size).filterMap fun (k : Nat) => items[((items.size : Int) - 1 + (k : Int) * -1).toNat]?).toArray = items.toList.reverse.toArray := by
    congr 1
    have e : (List.range items.size).filterMap (fun (k : Nat) => items[((items.size : Int) - 1 + (k : Int) * -1).toNat]?) = ((List.range items.size).map fun k => items.size - 1 - k).filterMap (items[·]?) := by
      rw [List.filterMap_map]
      refine fm_congr _ fun k hk => ?_
      have := List.mem_range.mp hk
      have e2 : ((items.size : Int) - 1 + (k : Int) * -1).toNat = items.size - 1 - k := by omega
      show _ = items[items.size - 1 - k]?
      rw [e2]
    rw [e, PySem.W.krv_range, List.filterMap_reverse, PySem.W.krv_all]
  rw [hpick]
  have made : ∀ {A' : Around} {R : Value → Shared → Prop} {E' : Value → Shared → Prop}, R (.ref s.heap.objs.size) { s with heap := s.heap.push { cls := .type "tuple", data := .seq items.toList.reverse.toArray } } → wpAny (model prog w) A' (Builtin.Tuple.tupleExact items.toList.reverse.toArray) R E' s := fun z => wpAny_newObj_type z htake
  first
    | exact wpAny_bind (made (wpAny_pure ⟨_, rfl, wpAny_pure h⟩))
    | exact wpAny_bind (made ⟨_, rfl, wpAny_pure h⟩)
    | exact wpAny_bind (wpAny_bind (made (wpAny_pure ⟨_, rfl, wpAny_pure h⟩)))
    | exact wpAny_bind (made (wpAny_bind (wpAny_pure ⟨_, rfl, wpAny_pure h⟩)))
end
end HT
namespace L2
open PySem PySem.Spec PyProof.Rows
section
variable {X : Cx}
/-- t[::-1], t a tuple -/
def tRevT (K : PySem.W.Frag) (te : TE) : TE := fun σ H Q => te σ H fun x H1 => ∃ a xs, x = .ref a ∧ SqT K H1 a xs ∧ ∀ p, H1 p = none → Q (.ref p) (upd H1 p (.tup xs.reverse))
theorem pe_revT {e : Expr} {te : TE} {k : Nat} {p1 p2 p3 pos : Pos} (he : PE X e te) : PE X (.Subscript e (.Slice none none (some (.UnaryOp .USub (.Constant (.int 1) k p1) p2)) p3) pos) (tRevT X.K te) := by
  constructor
  intro pins s0 σ H W J w
  have back : PO X (some (.UnaryOp .USub (.Constant (.int 1) k p1) p2)) (tPart (tUn (rU fun i => .int (-i)) (tC (.int 1)))) := po_some (pe_un un_neg pe_int)
  refine Subscript_ (thn (he.run pins s0 σ H _ J w) ?_)
  rintro _ s1 ⟨_, H1, J1, rel, a, xs, rfl, tup, w1⟩
  cases rel
  refine wpAny_Slice (thn (po_none.run pins s1 σ H1 (fun o G => o = none ∧ G = H1) J1 ⟨rfl, rfl⟩) ?_)
  rintro _ s2 ⟨_, _, J2, n2, rfl, rfl⟩
  refine thn (po_none.run pins s2 σ _ (fun o G => o = none ∧ G = _) J2 ⟨rfl, rfl⟩) ?_
  rintro _ s3 ⟨_, _, J3, n3, rfl, rfl⟩
  refine thn (back.run pins s3 σ _ (fun o G => o = some (-1) ∧ G = _) J3 ⟨1, rfl, -1, rfl, rfl, rfl⟩) ?_
  rintro step s4 ⟨_, _, J4, part, rfl, rfl⟩
  cases n2
  cases n3
  have J5 := J4.kept (t' := s4.toks) (h' := s4.heap.push { cls := .type "slice", data := .fields #[.none, .none, step] }) fun _ _ z => Heap.get?_push_of_some _ z
  obtain ⟨its, vals, isTup, line⟩ := J5.tuple tup
  have many : its.toArray.size ≤ sizeLine := by
    rw [List.size_toArray, ← vals.length]
    exact line
  change wpAny (model X.prog X.w) X.A (subscriptTail e (.Slice none none (some (.UnaryOp .USub (.Constant (.int 1) k p1) p2)) p3) (.ref a) (.ref s4.heap.objs.size)) (EP X pins σ W) X.xe { s4 with heap := s4.heap.push { cls := .type "slice", data := .fields #[.none, .none, step] } }
  refine tail_any (ops := [.ref a, .ref s4.heap.objs.size]) isTup.typeIs (PyProof.Rows.slot_tuple_getitem.lookup) (HT.getItem_tuple_rev isTup (Heap.IsSliceOf.new _ .none .none step) part ?_ many) (by with_unfolding_all rfl)
  have laid := J5.laid (t' := s4.toks) (o := .tup xs.reverse) (fun _ _ z => Heap.get?_push_of_some _ z) (Nat.le_refl _) ⟨by rw [List.length_reverse]; exact line, _, vals.reverse, IsTup.new _ _⟩
  exact ⟨.ref _, _, laid, rfl, w1 _ (J5.hok.fresh (Nat.le_refl _))⟩
/-! ### own operators -/
section
variable {CX : CXT} {n : Nat} {C g : Addr} {sp : Sp} {E : XK}
/-- x op y, both instances of the class at C, whose def for op is at g -/
def rOwnB (C : Addr) (sp : Sp) (E : XK) : R2 := fun x y H Q => ∃ a dx fs b dy gs, x = .ref a ∧ y = .ref b ∧ H a = some (.ins C dx fs) ∧ H b = some (.ins C dy gs) ∧ sp [x, y] H Q E
theorem op_ownB {op : Operator} (hc : PySem.W.selfFirst X.K C = true) (hs : PySem.W.findIn X.K (.ref C) (PySem.dunder op.info.2) = some (some (.ref g))) (hf : PySem.W.isFn X.K (.ref g) = true) (F : FnR X.prog X.w X.K X.mg X.base CX n g sp)
    (hr : Room n X.A) (hx : Passes CX X E) : OpR X (binaryOp op) (rOwnB C sp E) := by
  intro pins s σ H x y v u Q I rx ry h
  obtain ⟨a, dx, fs, b, dy, gs, rfl, rfl, ha, hb, q⟩ := h
  cases (show v = Value.ref a from rx)
  cases (show u = Value.ref b from ry)
  obtain ⟨mA, M, _⟩ := ins_get I.hok ha
  obtain ⟨mB, M', _⟩ := ins_get I.hok hb
  obtain ⟨od, J, _⟩ := M.look
  obtain ⟨od', J', _⟩ := M'.look
  obtain ⟨m, hF⟩ := I.fr
  refine PySem.W.binop_K hF I.ok.mod.kin J J'.type hc hs hf ?_
  refine wpAny_mono (wpAny_call (run_fnR (us := [.ref a, .ref b]) (vs := [.ref a, .ref b]) F hr hx I (.cons rfl (.cons rfl .nil)) q)) (fun w s' z => ?_) fun _ _ x => x
  obtain ⟨z', H', I', rz, qz⟩ := z
  exact SlX.cmpback rz ⟨z', H', I', rz, qz⟩
/-- -x, x an instance -/
def rOwnU (C : Addr) (sp : Sp) (E : XK) : V → Hp → VK → Prop := fun x H Q => ∃ a dx fs, x = .ref a ∧ H a = some (.ins C dx fs) ∧ sp [x] H Q E
theorem un_own (hs : PySem.W.findIn X.K (.ref C) "__neg__" = some (some (.ref g))) (hf : PySem.W.isFn X.K (.ref g) = true) (F : FnR X.prog X.w X.K X.mg X.base CX n g sp)
    (hr : Room n X.A) (hx : Passes CX X E) : UnR X (unaryOp .USub) (rOwnU C sp E) := by
  intro pins s σ H x v Q I rx h
  obtain ⟨a, dx, fs, rfl, ha, q⟩ := h
  cases (show v = Value.ref a from rx)
  obtain ⟨mA, M, _⟩ := ins_get I.hok ha
  obtain ⟨od, J, _⟩ := M.look
  unfold unaryOp
  refine wpAny_holding ?_
  show wpAny _ _ (if (UnaryOp.USub == UnaryOp.Not) = true then _ else _) _ _ s
  rw [if_neg (by decide)]
  refine wpAny_bind (m := callSpecial? (.ref a) "__neg__") (PySem.W.special_fn I.kIn J hs (beq_iff_eq.mp hf) ?_)
  refine wpAny_mono (wpAny_call (run_fnR (us := [.ref a]) (vs := [.ref a]) F hr hx I (.cons rfl .nil) q)) (fun w s' z => ?_) fun _ _ x => x
  exact wpAny_pure z
end
end
end L2

/-! x op y: y an instance of another class; C(e, ..) by an __init__ with *args that may raise, where no repr is under way. -/
namespace PySem.W
open Lean Elab Tactic Meta PySem PySem.Calls PyProof.Rows
section
variable {prog : Program} {w : World} {A : Around} {E : Value → Shared → Prop} {s : Shared} {K : Frag} {x C D L f g : Addr} {h₀ : Heap} {m : Str → Option Value} {ox : Obj} {od : Option Obj}
theorem bin_ref {op : Operator} {b : Value} {Q : Value → Shared → Prop} (R : Fr h₀ L s.heap m) (KI : K.In h₀) (I : InstAt s.heap x ox C od) (hb : Looks (model prog w) s.heap (typeOf b) (.ref D)) (ne : C ≠ D) (first : selfFirst K C = true) (first2 : selfFirst K D = true)
    (meth : findIn K (.ref C) (PySem.dunder op.info.2) = some (some (.ref f))) (fn : isFn K (.ref f) = true) (refl : findIn K (.ref C) (dunderR op.info.2) = some none)
    (meth2 : findIn K (.ref D) (PySem.dunder op.info.2) = some (some (.ref g))) (refl2 : findIn K (.ref D) (dunderR op.info.2) = some none) (sub : subIn K (.ref D) (.ref C) = some false)
    (go : wpAny (model prog w) A (call (.ref f) [.ref x, b]) (CmpBack Q) E s) : wpAny (model prog w) A (binaryOp op (.ref x) b) Q E s := by
  have KX := KI.keeps R.keep
  obtain ⟨cd, rest, c1, c2⟩ := ksp_first first
  obtain ⟨cd2, rest2, d1, d2⟩ := ksp_first first2
  rcases hop : op.info with ⟨sy, n⟩
  rw [hop] at meth refl meth2 refl2
  have tried := ksp_try KX I meth fn go
  obtain ⟨hp, gs, dr, tk, os⟩ := s
  have T1 : Looks (model prog w) hp (typeOf (.ref x)) (.ref C) := I.type
  have T2 : Looks (model prog w) hp (typeOf b) (.ref D) := hb
  have F1 : Looks (model prog w) hp (fillsNumberSlot (.ref C) n) true := fills_K KX c1 c2 meth
  have F2 : Looks (model prog w) hp (fillsNumberSlot (.ref D) n) true := fills_K KX d1 d2 meth2
  have S1 : Looks (model prog w) hp (isSubtype (.ref D) (.ref C)) false := looks_subIn KX sub
  have P1 : Looks (model prog w) hp (numberSlotInPython (.ref C) n) true := ksp_inPy KX meth refl (.inl rfl)
  have P2 : Looks (model prog w) hp (numberSlotInPython (.ref D) n) true := ksp_inPy KX meth2 refl2 (.inl rfl)
  have other : (Value.ref C == Value.ref D) = false := by
    refine Bool.eq_false_iff.mpr fun z => ?_
    cases beq_iff_eq.mp z
    exact ne rfl
  simp only [binaryOp, hop]
  refine wpAny_holding ?_
  refine wpAny_bind ?_
  unfold binaryOp1
  refine wpAny_bind (T1.at ?_)
  refine wpAny_bind (T2.at ?_)
  refine wpAny_bind (F1.at ?_)
  simp only [other, Bool.false_eq_true, if_false]
  ksp_lk
  refine wpAny_mono tried ?_ (fun _ _ z => z)
  rintro r s' ⟨v, rfl, q⟩
  ksp_lk
  exact q
end
end PySem.W
namespace L2
open PySem PySem.Spec PyProof.Rows
section
variable {X : Cx} {CX : CXT} {k : Nat} {C D g g2 : Addr} {sp : Sp} {fd : FuncData} {ps : List Str} {E : XK} {a b : Expr} {ta tb : TE} {pos : Pos}
def tBinY (C D : Addr) (sp : Sp) (E : XK) (ta tb : TE) : TE := fun σ H Q => ta σ H fun x H1 => tb σ H1 fun y H2 => ∃ a dx fs b dy gs, x = .ref a ∧ y = .ref b ∧ H2 a = some (.ins C dx fs) ∧ H2 b = some (.ins D dy gs) ∧ sp [x, y] H2 Q E
/-- a op b by the own method, which may raise; b is an instance of another class -/
theorem pe_binY {op : Operator} (ne : C ≠ D) (hc : PySem.W.selfFirst X.K C = true) (hc2 : PySem.W.selfFirst X.K D = true) (hs : PySem.W.findIn X.K (.ref C) (PySem.dunder op.info.2) = some (some (.ref g))) (hf : PySem.W.isFn X.K (.ref g) = true)
    (hr2 : PySem.W.findIn X.K (.ref C) (dunderR op.info.2) = some none) (hs2 : PySem.W.findIn X.K (.ref D) (PySem.dunder op.info.2) = some (some (.ref g2))) (hr3 : PySem.W.findIn X.K (.ref D) (dunderR op.info.2) = some none) (hsub : PySem.W.subIn X.K (.ref D) (.ref C) = some false)
    (F : FnG X.prog X.w X.K X.mg X.base CX k g fd ps sp) (gd : X.A.guards = some []) (hr : Room k X.A) (hb : Binds X.K fd ps []) (hx : Passes CX X E) (ha : PE X a ta) (hbb : PE X b tb) :
    PE X (.BinOp a op b pos) (tBinY C D sp E ta tb) := by
  refine ⟨fun pins s σ H Q I h => ?_⟩
  refine wpAny_BinOp (binT ha hbb I (R := fun x y H2 => ∃ a dx fs b dy gs, x = .ref a ∧ y = .ref b ∧ H2 a = some (.ins C dx fs) ∧ H2 b = some (.ins D dy gs) ∧ sp [x, y] H2 Q E) h fun v u s2 x y H2 I2 rx ry q => ?_)
  obtain ⟨a0, dx, fs, b0, dy, gs, rfl, rfl, h0, h1, q⟩ := q
  cases (show v = Value.ref a0 from rx)
  cases (show u = Value.ref b0 from ry)
  obtain ⟨mA, M, _⟩ := ins_get I2.hok h0
  obtain ⟨oD, J, _⟩ := M.look
  obtain ⟨mB, M', _⟩ := ins_get I2.hok h1
  obtain ⟨oD', J', _⟩ := M'.look
  obtain ⟨m, hF⟩ := I2.fr
  refine PySem.W.bin_ref hF I2.ok.mod.kin J J'.type ne hc hc2 hs hf hr2 hs2 hr3 hsub ?_
  have q' : sp ([.ref a0, .ref b0] ++ []) H2 Q E := by rw [List.append_nil]; exact q
  refine wpAny_mono (run_fnG (vs := [.ref a0, .ref b0]) (us := [.ref a0, .ref b0]) F gd hr hb .nil hx I2 (.cons rfl (.cons rfl .nil)) q') (fun w s' z => ?_) fun _ _ x => x
  obtain ⟨z', H', I', rz, qz⟩ := z
  exact SlX.cmpback rz ⟨z', H', I', rz, qz⟩
/-- a op b, b an int -/
def tBinI (C : Addr) (sp : Sp) (E : XK) (ta tb : TE) : TE := fun σ H Q => ta σ H fun x H1 => tb σ H1 fun y H2 => ∃ a dx fs i, x = .ref a ∧ y = .int i ∧ H2 a = some (.ins C dx fs) ∧ sp [x, y] H2 Q E
theorem pe_binI {op : Operator} {fo ro : Option Value} (hc : PySem.W.selfFirst X.K C = true) (hs : PySem.W.findIn X.K (.ref C) (PySem.dunder op.info.2) = some (some (.ref g))) (hf : PySem.W.isFn X.K (.ref g) = true)
    (hr2 : PySem.W.findIn X.K (.ref C) (dunderR op.info.2) = some none) (h1 : PySem.W.findIn X.K (.type "int") (PySem.dunder op.info.2) = some fo) (h2 : PySem.W.findIn X.K (.type "int") (dunderR op.info.2) = some ro) (hsub : PySem.W.subIn X.K (.type "int") (.ref C) = some false)
    (F : FnG X.prog X.w X.K X.mg X.base CX k g fd ps sp) (gd : X.A.guards = some []) (hr : Room k X.A) (hb : Binds X.K fd ps []) (hx : Passes CX X E) (ha : PE X a ta) (hbb : PE X b tb) :
    PE X (.BinOp a op b pos) (tBinI C sp E ta tb) := by
  refine ⟨fun pins s σ H Q I h => ?_⟩
  refine wpAny_BinOp (binT ha hbb I (R := fun x y H2 => ∃ a dx fs i, x = .ref a ∧ y = .int i ∧ H2 a = some (.ins C dx fs) ∧ sp [x, y] H2 Q E) h fun v u s2 x y H2 I2 rx ry q => ?_)
  obtain ⟨a0, dx, fs, i, rfl, rfl, h0, q⟩ := q
  cases (show v = Value.ref a0 from rx)
  obtain ⟨t, rfl⟩ := ry
  obtain ⟨mA, M, _⟩ := ins_get I2.hok h0
  obtain ⟨oD, J, _⟩ := M.look
  obtain ⟨m, hF⟩ := I2.fr
  refine PySem.W.ksp_binT (T := "int") hF I2.ok.mod.kin J rfl hc hs hf hr2 (.inl rfl) h1 h2 hsub ?_
  have q' : sp ([.ref a0, .int i] ++ []) H2 Q E := by rw [List.append_nil]; exact q
  refine wpAny_mono (run_fnG (vs := [.ref a0, .int i]) (us := [.ref a0, .int i t]) F gd hr hb .nil hx I2 (.cons rfl (.cons ⟨t, rfl⟩ .nil)) q') (fun w s' z => ?_) fun _ _ x => x
  obtain ⟨z', H', I', rz, qz⟩ := z
  exact SlX.cmpback rz ⟨z', H', I', rz, qz⟩
end
/-- what a call's end says, told again of the caller: errors by hx, a value by the wish -/
theorem ended {X : Cx} {CX : CXT} {E : XK} {pins : List (Addr × Obj)} {σ : L2.St} {H : Hp} {s0 : Shared} {W : VK} {R : Value → Shared → Prop} (pass : Passes CX X E) (J : Inv X pins σ H s0)
    (back : ∀ u s1, EP X pins σ W u s1 → R u s1) : ∀ (r : Except Value Flow) (s1 : Shared), CR CX X.stack X.prog X.w H s0 W E r s1 → (match r with | .ok (.ret u) => R u s1 | .ok _ => False | .error er => X.xe er s1) := by
  rintro (er | fl) s1 z
  · exact pass pins σ H s0 er s1 J z
  · cases fl with
    | ret u => exact back u s1 (J.after z)
    | _ => exact z
/-- a new instance of C by an __init__ that is told where no repr is under way -/
theorem made_by {X : Cx} {CX : CXT} {n : Nat} {C g : Addr} {pr : Sp} {E : XK} {pins : List (Addr × Obj)} {σ : L2.St} {H : Hp} {s0 : Shared} {W : VK} {args : List Value} {as : List V} (mk : Mk X.K C g) (init : FnRG X.prog X.w X.K X.mg X.base CX n g pr) (quiet : X.A.guards = some []) (room : Room (n + 1) X.A) (pass : Passes CX X E) (J : Inv X pins σ H s0) (rel : Vals as args)
    (wish : ∀ o od, H o = none → H od = none → od ≠ o → pr (.ref o :: as) (upd (upd H od (.own o)) o (.ins C od [])) (fun v H2 => v = .non ∧ W (.ref o) H2) E) : wpAny (model X.prog X.w) X.A (PySem.call (.ref C) args) (EP X pins σ W) X.xe s0 := by
  have J2 : Inv X pins σ _ _ := Inv.made (C := C) J
  have w := wish _ _ (J.hok.fresh (Nat.le_succ s0.heap.objs.size)) (J.hok.fresh (Nat.le_refl s0.heap.objs.size)) (Nat.ne_of_lt (Nat.lt_succ_self _))
  have run := init _ X.stack _ _ (Value.ref (s0.heap.objs.size + 1) :: args) _ _ E (make_guards.trans quiet) (room.make C args []) (J2.env0.make C args []) (show Vals (V.ref (s0.heap.objs.size + 1) :: as) _ from .cons rfl rel) w
  refine wpAny_call (make_map (f := g) J.kIn mk.makes mk.init (beq_iff_eq.mp mk.fn) (codeAny_mono run fun r s1 z => ?_))
  have d := ended (W := fun v H2 => v = .non ∧ W (.ref (s0.heap.objs.size + 1)) H2) (R := fun u s2 => RelV .non u ∧ EP X pins σ W (.ref (s0.heap.objs.size + 1)) s2) pass J2 (fun u s2 ⟨v, H2, I2, ru, ev, q⟩ => ⟨by rw [← ev]; exact ru, .ref _, H2, I2, rfl, q⟩) r s1 z
  cases r with
  | error er => exact d
  | ok fl =>
    cases fl with
    | ret u => exact d
    | _ => exact d.elim
theorem pe_makeRG {X : Cx} {CX : CXT} {n : Nat} {C g : Addr} {pr : Sp} {E : XK} {nm : Str} {e1 : Expr} {er : List Expr} {ta : TA} {pn pc : Pos} (mk : Mk X.K C g) (init : FnRG X.prog X.w X.K X.mg X.base CX n g pr) (quiet : X.A.guards = some []) (room : Room (n + 1) X.A) (gl : Gl X nm) (at_ : X.mg nm = some (.ref C)) (pass : Passes CX X E) (args : PA X (e1 :: er) ta) (nd : (nm == ("__debug__" : Str)) = false := by decide)
    (st : starEach (e1 :: er) X.env = (false, eval e1 X.env) :: starEach er X.env := by rfl) (pl : (backTo pc (starEach er X.env)).any (·.1) = false := by rfl) : PE X (.Call (.Name nm pn) (e1 :: er) [] pc) (StX.tMakeR C pr E ta) :=
  ⟨fun pins s0 σ H W J w => wpAny_Call_Name_kw (ld_glob J gl at_ (PySem.W.callWith_K (h₀ := X.base) J.ok.mod.kin mk.kp (thn (args.run pc pins s0 σ H _ J w) fun us s1 ⟨as, H1, J1, rel, w1⟩ => ⟨J1.kIn, made_by mk init quiet room pass J1 rel w1⟩) st pl) nd)⟩
end L2

/-! a, b = xs of a list. -/
namespace L2
open PySem PySem.Spec PyProof.Rows
section
variable {X : Cx}
/-- a, b = xs, xs a list -/
def gTupL (K : PySem.W.Frag) (n : Nat) (t : TGs) : TG := fun v σ H Q => ∃ a xs, v = .ref a ∧ SqL K H a xs ∧ xs.length = n ∧ t xs σ H Q
theorem pg_tupL {es : List Expr} {k : Nat} {t : TGs} {n : Nat} {pos : Pos} (hc : X.calm = true) (h : PGs X es t)
    (hn : (assignEach es X.env).length = n := by rfl) (hst : (assignEach es X.env).findIdx? (·.1) = none := by rfl) : PG X (.Tuple es k pos) (gTupL X.K n t) := by
  refine ⟨fun pins s σ H v u Q I r hw => ?_⟩
  obtain ⟨a, xs, e1, hq, hl, hw⟩ := hw
  subst e1
  cases r
  obtain ⟨its, rv, ht, hz⟩ := I.list hq
  rw [assign_Tuple]
  refine wpAny_bind (wpAny_standAt ?_)
  unfold unpack
  rw [hst]
  refine wpAny_bind (wpAny_holding ?_)
  have e : (assignEach es X.env).length = its.toArray.size := by simp [hn, ← hl, rv.length]
  rw [e]
  refine PySem.W.kun_itemsOf (I.ok.hd hc) ht.isList fun h' hx => ?_
  have I1 : Inv X pins σ H { s with heap := h' } := I.kept (t' := s.toks) fun b o e => hx b o (Nat.ne_of_lt (Heap.lt_size e)) e
  exact h.run pins _ σ H xs _ Q I1 (by simpa using rv) hw
end
end L2

/-! o.m(k = v): a method with keywords alone. -/
namespace L2
open PySem PySem.Spec PyProof.Rows
def g2 : List Value → List Value → List Value
  | [u], [w] => [u, w]
  | _, _ => []
def gV2 : List V → List V → List V
  | [u], [w] => [u, w]
  | _, _ => []
/-- one by position (self), one by name -/
theorem KBinds.two {K : PySem.W.Frag} {fd : FuncData} {a b : Str} (h : ∀ u w : Value, bindArgs fd ⟨[u], [(b, w)]⟩ = pure [(a, u), (b, w)]) : KBinds K fd [a, b] [b] g2 gV2 :=
  ⟨fun s us ws _ hl => by
    match us, ws, hl with
    | [u], [w], _ => exact .of_eq (h u w)
    | [], _, hl => simp [g2] at hl
    | _ :: _ :: _, _, hl => simp [g2] at hl
    | [_], [], hl => simp [g2] at hl
    | [_], _ :: _ :: _, hl => simp [g2] at hl, fun {vs us zs ws} r rz => by
    cases r with
    | nil => exact .nil
    | cons r1 r2 =>
      cases r2 with
      | cons _ _ => exact .nil
      | nil =>
        cases rz with
        | nil => exact .nil
        | cons z1 z2 =>
          cases z2 with
          | nil => exact .cons r1 (.cons z1 .nil)
          | cons _ _ => exact .nil⟩
def tMethK (C : Addr) (m : Str) (sp : Sp) (E : XK) (ta : TE) (tk : TA) : TE := fun σ H Q => ta σ H fun x H1 => ∃ a dx fs, x = .ref a ∧ H1 a = some (.ins C dx fs) ∧ fs.lookup m = none ∧ tk σ H1 fun zs H2 => sp (gV2 [x] zs) H2 Q E
theorem pe_methK {X : Cx} {CX : CXT} {k : Nat} {C f : Addr} {m : Str} {fd : FuncData} {ps ks : List Str} {sp : Sp} {E : XK} {o : Expr} {kws : List Keyword} {ta : TE} {tk : TA} {apos pos : Pos} {pl : Sem Bool} (he : PE X o ta) (c : Cls X.K C) (hm : Meth X.K C m f) (F : FnOk X.prog X.w X.K X.mg X.base CX k f fd ps sp) (hr : Room k X.A)
    (hb : KBinds X.K fd ps ks g2 gV2) (hx : Passes CX X E) (hkw : PK X kws tk)
    (hall : (backToKw pos (keywordEach kws X.env)).all (·.1.isSome) = true := by rfl) (hks : (backToKw pos (keywordEach kws X.env)).filterMap (·.1) = ks := by rfl)
    (hpl : ((backTo pos (starEach [] X.env)).any (·.1) || (backToKw pos (keywordEach kws X.env)).any (·.1.isNone)) = false := by rfl)
    (ht : eval (.Call (.Attribute o m apos) [] kws pos) X.env = (do
      let ov ← eval o X.env
      standAt apos.atName
      let (f, first) ← holding [ov] (getMethod ov m pl)
      callWith pos f first (backTo pos (starEach [] X.env)) (backToKw pos (keywordEach kws X.env))) := by rfl) :
    PE X (.Call (.Attribute o m apos) [] kws pos) (tMethK C m sp E ta tk) := by
  constructor
  intro pins s0 σ H W J w
  have obj := he.run pins s0 σ H _ J w
  refine PySem.W.methodCall_KW (pl := pl) (thn obj ?_) ht
  rintro _ s1 ⟨_, H1, J1, rel, a, dx, fs, rfl, ea, lk, w1⟩
  cases rel
  refine getmeth_ok J1 ea c hm lk (PySem.W.callWith_KW0 (h₀ := X.base) (first := [.ref a]) J.ok.mod.kin hm.kp hall (thn (hkw.run pos pins s1 σ H1 _ J1 w1) ?_) hpl)
  rintro vals s2 ⟨zs, H2, J2, rz, w2⟩
  refine ⟨J2.kIn, ?_⟩
  rw [hks]
  exact run_fnk (us := [.ref a]) (vs := [.ref a]) F hr hb hx J2 (Paired.cons rfl Paired.nil) rz w2
end L2

/-! try: .. except x1 as n: .. except x2 as n: ..; one of the clauses takes whatever the body lets out. -/
namespace L2
open PySem PySem.Spec PyProof.Rows
abbrev Suite := Addr → Value → Option Addr → TS
/-- behind a clause its name is gone -/
def Ends.gone (D : Ends) (i : Nat) : Ends where
  nx := fun τ G => D.nx (τ.set i none) G
  rt := D.rt
  bk := fun τ G => D.bk (τ.set i none) G
  ct := fun τ G => D.ct (τ.set i none) G
/-- the first clause that fits has what it wants -/
def Fits (K : PySem.W.Frag) (i : Nat) (D : Ends) : List (Value × Suite) → WX
  | [] => fun _ _ _ _ => False
  | one :: more => fun cls d τ G => (PySem.W.exmOne K cls one.1 = some true ∧ ∀ a, G a = none → one.2 a cls d (D.gone i) (τ.set i (some (.ref a))) G) ∨ (PySem.W.exmOne K cls one.1 = some false ∧ Fits K i D more cls d τ G)
inductive Clauses (X : Cx) (n : Str) : List ExceptHandler → List (Value × Suite) → Prop
  | nil : Clauses X n [] []
  | cons {x : Str} {one : Value × Suite} {st : Stmt} {sts : List Stmt} {p1 p2 : Pos} {hs : List ExceptHandler} {more : List (Value × Suite)} (named : Names X x one.1)
      (suite : ∀ (a : Addr) (oe : Obj) (cls : Value) (d : Option Addr) (pn : List (Addr × Obj)), Zc cls d oe → (∃ vs, oe.data = .fields vs) → PSs (X.suite a ((a, oe) :: pn)) (st :: sts) (one.2 a cls d)) (rest : Clauses X n hs more) :
      Clauses X n (.ExceptHandler (some (.Name x p1)) (some n) (st :: sts) p2 :: hs) (one :: more)
section
variable {X : Cx} {n : Str} {i : Nat} {D : Ends} {pins : List (Addr × Obj)} {τ : St} {G : Hp} {a B : Addr} {cls : Value} {d : Option Addr}
/-- the handlers, once the exception at a has landed: every landing of it keeps the invariant, and a is apart -/
theorem fits_go {base : Heap} {hp : Heap} {s0 : Shared} {oe : Obj} {vs : Array Value} (nd : X.N.Nodup) (slot : X.N[i]? = some n) (loc : X.env.kindOf n = some .local) (stk : X.stack = X.env :: X.outer) (frm : X.env.frame = some X.env.locals)
    (fly : HandSPX.FlyingZ base (X.env :: X.outer) a (Zc cls d) hp) (inv : ∀ h', HandSPX.FlyingZ base (X.env :: X.outer) a (Zc cls d) h' → hp.UpToSlots h' → Inv X pins τ G { s0 with heap := h' }) (here : Inv X pins τ G { s0 with heap := hp }) (free : G a = none) (apart : a ≠ X.env.locals ∧ a ∉ X.fs)
    (obj : hp.get? a = some oe) (of : Zc cls d oe) (dat : oe.data = .fields vs) :
    ∀ {hs : List ExceptHandler} {l : List (Value × Suite)}, Clauses X n hs l → Fits X.K i D l cls d τ G → wpAny (model X.prog X.w) X.A (handleBy (.ref a) X.env hs) (SP X pins D) X.xe { s0 with heap := hp } := by
  intro hs l cl
  induction cl with
  | nil => exact fun z => z.elim
  | @cons x one st sts p1 p2 hs more named suite rest ih =>
    intro w
    have inSuite := here.suite obj dat free apart.1 apart.2
    have kind : PySem.W.Looks (model X.prog X.w) hp (typeOf (.ref a)) cls := fun _ _ _ _ keep z => wpAny_typeOf_ref (keep _ _ obj) (by rw [of.1]; exact z)
    refine wpAny_handleBy_cons (codeAny_handlers_test ?_) (fun z => by cases z)
    have asked : ∀ {Q : Value → Shared → Prop} {E : Value → Shared → Prop}, Q one.1 { s0 with heap := hp } → wpAny (model X.prog X.w) (X.A.mark (some (.ref a))) (eval (.Name x p1) X.env) Q E { s0 with heap := hp } := by
      intro Q E z
      rcases named with ⟨gl, nodebug, own | ⟨none_, boot, noname⟩⟩
      · exact ld_glob (X := X.suite a ((a, oe) :: (X.pn ++ pins))) inSuite gl own z nodebug
      · exact ld_blt (X := X.suite a ((a, oe) :: (X.pn ++ pins))) inSuite gl none_ boot z noname nodebug
    rcases w with ⟨yes, w⟩ | ⟨no, w⟩
    · refine asked ((PySem.W.exm_one (M := model X.prog X.w) here.kIn kind yes).here (codeAny_handlers_suite_as (HandSPX.lands_againZ fly fun h4 fly4 up4 => ?_)))
      have J := inv h4 fly4 up4
      obtain ⟨o4, v4, g4, z4, d4⟩ := fly4.there
      refine store_ok (X := X.suite a ((a, o4) :: (X.pn ++ pins))) (v := .ref a) (J.suite g4 d4 free apart.1 apart.2) nd slot (.inl loc) rfl (fun s5 J5 => ?_) (.inr loc)
      refine wpAny_mono ((suite a o4 cls d (X.pn ++ pins) z4 ⟨_, d4⟩).run [] s5 _ G (D.gone i) J5 (w a free)) (fun fl s6 z => ?_) (fun _ _ z => z.elim)
      have leave : ∀ {τ6 : St} {G6 : Hp} {R : Shared → Prop}, Inv (X.suite a ((a, o4) :: (X.pn ++ pins))) [] τ6 G6 s6 → (∀ s7, Inv X pins (τ6.set i none) G6 s7 → R s7) → wpAny (model X.prog X.w) X.A (do bindName X.env n .none; unbindBehindTheSuite X.env n p2) (fun _ s7 => R s7) X.xe s6 :=
        fun J6 k => gone_ok (J6.unsuite here.ok) nd slot loc k
      cases fl with
      | ret u => obtain ⟨v6, τ6, G6, J6, r6, q6⟩ := z; exact leave J6 fun s7 J7 => ⟨v6, _, G6, J7, r6, q6⟩
      | next => obtain ⟨τ6, G6, J6, q6⟩ := z; exact leave J6 fun s7 J7 => ⟨_, G6, J7, q6⟩
      | brk => obtain ⟨τ6, G6, J6, q6⟩ := z; exact leave J6 fun s7 J7 => ⟨_, G6, J7, q6⟩
      | cont => obtain ⟨τ6, G6, J6, q6⟩ := z; exact leave J6 fun s7 J7 => ⟨_, G6, J7, q6⟩
    · exact asked ((PySem.W.exm_one (M := model X.prog X.w) here.kIn kind no).here (ih w))
end
section
variable {X : Cx} {n : Str} {i : Nat} {body : List Stmt} {h0 : ExceptHandler} {hs : List ExceptHandler} {l : List (Value × Suite)} {pos : Pos} {tb : WX → TS}
theorem ps_try_fits (stk : X.stack = X.env :: X.outer) (frm : X.env.frame = some X.env.locals) (nd : X.N.Nodup) (slot : X.N[i]? = some n) (loc : X.env.kindOf n = some .local)
    (inner : ∀ (W : WX) (pn : List (Addr × Obj)) (xe : Value → Shared → Prop), Takes (X.tr pn xe) W → PassesOwn (model X.prog X.w) X.A X.env xe → PSs (X.tr pn xe) body (tb W))
    (cl : Clauses X n (h0 :: hs) l) : PS X (.Try body (h0 :: hs) [] [] pos) (fun D σ H => tb (Fits X.K i D l) D σ H) := by
  constructor
  intro pins s σ H D I w
  have frames : X.A.frames = some (X.env :: X.outer) := stk ▸ I.ok.frames
  have catching : Takes (X.tr (X.pn ++ pins) (fun ex s1 => wpAny (model X.prog X.w) X.A (noteFrame ex X.env) (fun _ s2 => wpAny (model X.prog X.w) X.A (setFlight ex none) (fun _ s3 => wpAny (model X.prog X.w) X.A (handleBy ex X.env (h0 :: hs)) (SP X pins D) X.xe s3) X.xe s2) X.xe s1)) (Fits X.K i D l) := by
    rintro _ s1 ⟨a, B, sI, _, τ, G, cls, d, rfl, J0, ground, up, sky, free, os, bare, fit⟩
    have J : Inv X pins τ G sI := J0.ofTry I.ok
    have any : ∀ h', HandSPX.FlyingZ B (X.env :: X.outer) a (Zc cls d) h' → s1.heap.UpToSlots h' → Inv X pins τ G { s1 with heap := h' } := fun h' fly to => J.landed ground fly.1 (up.trans to) os bare
    refine Sky.land Zc.steady frames frm (stk ▸ sky) fun h3 fly to => ?_
    obtain ⟨o3, v3, g3, z3, d3⟩ := fly.there
    have out : a ∉ frs (X.env :: X.outer) := fun inn => by
      obtain ⟨_, o, go, nofields⟩ := fly.2.2.1.mem inn
      exact nofields v3 (by rw [← d3, Option.some.inj (g3.symm.trans go)])
    refine fits_go (oe := o3) (vs := v3) (s0 := s1) nd slot loc stk frm fly (fun h' f2 t2 => any h' f2 (to.trans t2)) (any h3 fly to) free ⟨fun z => out ?_, fun z => out ?_⟩ g3 z3 d3 cl fit
    · exact List.mem_filterMap.mpr ⟨X.env, by simp, z ▸ frm⟩
    · obtain ⟨en, inOuter, fr⟩ := List.mem_filterMap.mp z
      exact List.mem_filterMap.mpr ⟨en, by simp [inOuter], fr⟩
  refine wpAny_Try_except (wpAny_mono ((inner _ _ _ catching PassesOwn.looking).run [] s σ H D (I.toTry _) w) (fun fl s1 z => ?_) (fun _ _ z => z))
  cases fl with
  | ret u => obtain ⟨v, τ, G, J, rel, q⟩ := z; exact ⟨v, τ, G, J.ofTry I.ok, rel, q⟩
  | next => obtain ⟨τ, G, J, q⟩ := z; exact wpAny_execs_nil ⟨τ, G, J.ofTry I.ok, q⟩
  | brk => obtain ⟨τ, G, J, q⟩ := z; exact ⟨τ, G, J.ofTry I.ok, q⟩
  | cont => obtain ⟨τ, G, J, q⟩ := z; exact ⟨τ, G, J.ofTry I.ok, q⟩
end
end L2

/-! x(lambda: body): the lambda is called by a def with one parameter; no repr is under way. -/
namespace L2
open PySem PySem.Spec PyProof.Rows LamX
/-- the def that calls what it got -/
def GivesTo1 (X : Cx) (Ng : List Str) (x : Str) (sg : Scope) (g : Addr) (cdg : Value) (bg : List Stmt) (a : Str) (q : Str) (k : Nat) (TT : (XK → Hp → VK → Prop) → Hp → VK → Prop) : Prop :=
  ∀ (f c' : Addr) (s : Shared) (H : Hp) (Q : VK) (tl : XK → Hp → VK → Prop),
    (∀ (W : WX) (pn : List (Addr × Obj)) (xe : Value → Shared → Prop) (p1 p2 : Pos), Takes ((cxOf C8.CX0 X.prog X.w X.K X.mg X.base Ng x sg g cdg X.A X.stack s H C8.E0).tr pn xe) W →
      PE ((cxOf C8.CX0 X.prog X.w X.K X.mg X.base Ng x sg g cdg X.A X.stack s H C8.E0).tr pn xe) (.Call (.Name a p1) [] [] p2) (fun σZ HZ Q => σZ[0]? = some (some (.ref f)) ∧ HZ c' = some (CodeO c' q) ∧ tl (WE W σZ) HZ Q)) →
    Room k (X.A.deeper (envOfC x sg s.heap.objs.size g cdg)) → H c' = some (CodeO c' q) → TT tl H Q →
    ∃ t, PSs (cxOf C8.CX0 X.prog X.w X.K X.mg X.base Ng x sg g cdg X.A X.stack s H C8.E0).nox bg t ∧ t { nx := fun _ H' => Q .non H', rt := Q } (L2.start Ng [.ref f]) H
theorem pe_lamcall1 {X : Cx} {T : List (Addr × Str)} {TT : (XK → Hp → VK → Prop) → Hp → VK → Prop} {x a : Str} {g c P : Addr} {k : Nat} {pg : Arguments} {bg : List Stmt} {sg : Scope} {dV kV doc pm cdv ct oc : Value} {an od : Option Addr} {osl : Array (Option Value)} {Ng : List Str}
    {params : Arguments} {body : Expr} {scope : Scope} {t : XK → TE} {p lpos pos : Pos} (quiet : X.A.guards = some []) (gl : Gl X x) (mod : X.mg x = some (.ref g)) (keep : PySem.W.keepIn X.K (.ref g) = true)
    (lk : X.K.lookup g = some ⟨oc, od, .func (PySem.W.fnOf x x pg bg sg dV kV doc pm an cdv ct), osl⟩) (code : PySem.W.codeIn X.K cdv x = true) (binds : L2.Binds X.K (PySem.W.fnOf x x pg bg sg dV kV doc pm an cdv ct) [a] []) (Sg : FnScope Ng [a] sg) (first : Ng[0]? = some a) (seen : Vis sg a)
    (gives : GivesTo1 X Ng x sg g cdv bg a (X.env.qual ++ "<lambda>") (k + 1) TT)
    (TB : TabB X.base X.mg c P) (own : X.env.code = .ref c) (inT : (P, X.env.qual ++ "<lambda>") ∈ T) (one : ∀ p ∈ T, p.1 = P → p.2 = X.env.qual ++ "<lambda>") (room : Room (k + 2) X.A) (L : LamS X.env.scope scope) (nodef : defaultsOf params X.env = ([], []))
    (nobind : ∀ (q : Str) (cl : List (Str × Addr)) (pm cv ctv : Value), bindArgs (PySem.W.kla_fn "<lambda>" q params body scope cl pm cv ctv) ⟨[], []⟩ = pure [])
    (inside : ∀ (A : Around) (outer : List Env) (s : Shared) (H : Hp) (E : XK) (f c' : Addr), A.guards = some [] → Room k (A.deeper (lamEnv X scope s.heap.objs.size f c')) → PE (lamCx X A outer s H E scope f c') body (t E))
    (nd1 : (x == ("__debug__" : Str)) = false := by decide) (nd2 : (a == ("__debug__" : Str)) = false := by decide) (nc : (a == ("__classdict__" : Str)) = false := by decide) :
    PE X (.Call (.Name x p) [.Lambda params body scope lpos] [] pos) (fun σ H Q => Tabs T H ∧ ∀ H1, ExtN H H1 → Tabs T H1 → TT (fun E H' Q' => t E σ H' Q') H1 Q) := by
  constructor
  rintro pins s0 σ H W J ⟨tabs, w⟩
  refine wpAny_Call_Name_kw (ld_glob J gl mod (PySem.W.callWith_K (h₀ := X.base) J.ok.mod.kin keep ?_ (by rfl) (by rfl)) nd1)
  show wpAny _ _ (spliced [(false, eval (.Lambda params body scope lpos) X.env)]) _ _ s0
  refine Calls.spliced_cons (lam_make2 J TB own inT one tabs nodef (L.has J.ok) fun f c' pm' ctv H1 s1 J1 grown tabs1 hf hfn hfr hco => Calls.spliced_nil ⟨J1.kIn, ?_⟩)
  have run : codeAny (model X.prog X.w) X.A (.call (.ref g) ⟨[.ref f], []⟩) (CR C8.CX0 X.stack X.prog X.w H1 s1 W C8.E0) s1 := by
    refine run_ofS (N := Ng) (ps := [a]) (us := [.ref f]) (vs := [.ref f]) lk code Sg room J1.env0 (binds s1 [.ref f] J1.kIn rfl) (show Vals [V.ref f] [Value.ref f] from .cons rfl .nil) rfl fun room2 => ?_
    obtain ⟨ts, hts, hq⟩ := gives f c' s1 H1 W (fun E H' Q' => t E σ H' Q') (fun V0 pn xe p1 p2 tk => pe_actG (i := 0) quiet J1 L hf hfn hfr (nobind _ _ _ _ _) tk room2 (fun A outer s H E q r => inside A outer s H E f c' q r) first seen nd2 nc) room2 hco (w H1 grown tabs1)
    exact ⟨ts, hts.nox, hq⟩
  have d := fun r s2 z => ended (X := X) (CX := C8.CX0) (E := C8.E0) (R := EP X pins σ W) (fun _ _ _ _ _ _ _ z => (show False from z).elim) J1 (fun _ _ y => y) r s2 z
  refine wpAny_call (codeAny_mono run fun r s2 z => ?_)
  have y := d r s2 z
  cases r with
  | error er => exact y
  | ok fl =>
    cases fl with
    | ret u => exact y
    | _ => exact y.elim
end L2

/-! x(lambda: body, y): the lambda is called by a def with two parameters; no repr is under way. -/
namespace L2
open PySem PySem.Spec PyProof.Rows LamX
/-- a name of the frame is read, and the state stays -/
theorem slot_read {X : Cx} {pins : List (Addr × Obj)} {σ : L2.St} {H : Hp} {s0 : Shared} {i : Nat} {y : Str} {pos : Pos} {v : V} (J : Inv X pins σ H s0) (nth : X.N[i]? = some y) (vis : Vis X.env.scope y) (at_ : σ[i]? = some (some v)) (nd : (y == ("__debug__" : Str)) = false) (nc : (y == ("__classdict__" : Str)) = false) :
    ∃ u, RelV v u ∧ ∀ (W E : Value → Shared → Prop), W u s0 → wpAny (model X.prog X.w) X.A (eval (.Name y pos) X.env) W E s0 := by
  obtain ⟨m, ns, slots⟩ := J.loc
  obtain ⟨u, rel, look⟩ := slots i y v nth at_ vis
  refine ⟨u, rel, fun W E w => wpAny_Name ?_ nd⟩
  rcases look with ⟨kind, here⟩ | ⟨kind | kind, c, has, cell⟩
  · exact wpAny_loadName_local J.ok.kind kind ns here w
  · exact wpAny_loadName_cell J.ok.kind kind has cell w
  · exact wpAny_loadName_free J.ok.kind kind has cell w nc
/-- the def that calls what it got, with a second argument -/
def GivesTo2 (X : Cx) (Ng : List Str) (x : Str) (sg : Scope) (g : Addr) (cdg : Value) (bg : List Stmt) (a : Str) (q : Str) (k : Nat) (TT : V → (XK → Hp → VK → Prop) → Hp → VK → Prop) : Prop :=
  ∀ (f c' : Addr) (s : Shared) (H : Hp) (v2 : V) (Q : VK) (tl : XK → Hp → VK → Prop),
    (∀ (W : WX) (pn : List (Addr × Obj)) (xe : Value → Shared → Prop) (p1 p2 : Pos), Takes ((cxOf C8.CX0 X.prog X.w X.K X.mg X.base Ng x sg g cdg X.A X.stack s H C8.E0).tr pn xe) W →
      PE ((cxOf C8.CX0 X.prog X.w X.K X.mg X.base Ng x sg g cdg X.A X.stack s H C8.E0).tr pn xe) (.Call (.Name a p1) [] [] p2) (fun σZ HZ Q => σZ[0]? = some (some (.ref f)) ∧ HZ c' = some (CodeO c' q) ∧ tl (WE W σZ) HZ Q)) →
    Room k (X.A.deeper (envOfC x sg s.heap.objs.size g cdg)) → H c' = some (CodeO c' q) → TT v2 tl H Q →
    ∃ t, PSs (cxOf C8.CX0 X.prog X.w X.K X.mg X.base Ng x sg g cdg X.A X.stack s H C8.E0).nox bg t ∧ t { nx := fun _ H' => Q .non H', rt := Q } (L2.start Ng [.ref f, v2]) H
theorem pe_lamcall2 {X : Cx} {T : List (Addr × Str)} {TT : V → (XK → Hp → VK → Prop) → Hp → VK → Prop} {x a b : Str} {g c P : Addr} {k : Nat} {pg : Arguments} {bg : List Stmt} {sg : Scope} {dV kV doc pm cdv ct oc : Value} {an od : Option Addr} {osl : Array (Option Value)} {Ng : List Str}
    {params : Arguments} {body : Expr} {scope : Scope} {t : XK → TE} {p lpos pos : Pos} {j : Nat} {y : Str} {py : Pos} (quiet : X.A.guards = some []) (gl : Gl X x) (mod : X.mg x = some (.ref g)) (keep : PySem.W.keepIn X.K (.ref g) = true)
    (lk : X.K.lookup g = some ⟨oc, od, .func (PySem.W.fnOf x x pg bg sg dV kV doc pm an cdv ct), osl⟩) (code : PySem.W.codeIn X.K cdv x = true) (binds : L2.Binds X.K (PySem.W.fnOf x x pg bg sg dV kV doc pm an cdv ct) [a, b] []) (Sg : FnScope Ng [a, b] sg) (first : Ng[0]? = some a) (seen : Vis sg a)
    (gives : GivesTo2 X Ng x sg g cdv bg a (X.env.qual ++ "<lambda>") (k + 1) TT)
    (TB : TabB X.base X.mg c P) (own : X.env.code = .ref c) (inT : (P, X.env.qual ++ "<lambda>") ∈ T) (one : ∀ p ∈ T, p.1 = P → p.2 = X.env.qual ++ "<lambda>") (room : Room (k + 2) X.A) (L : LamS X.env.scope scope) (nodef : defaultsOf params X.env = ([], []))
    (nobind : ∀ (q : Str) (cl : List (Str × Addr)) (pm cv ctv : Value), bindArgs (PySem.W.kla_fn "<lambda>" q params body scope cl pm cv ctv) ⟨[], []⟩ = pure [])
    (inside : ∀ (A : Around) (outer : List Env) (s : Shared) (H : Hp) (E : XK) (f c' : Addr), A.guards = some [] → Room k (A.deeper (lamEnv X scope s.heap.objs.size f c')) → PE (lamCx X A outer s H E scope f c') body (t E))
    (nth : X.N[j]? = some y) (visy : Vis X.env.scope y)
    (nd1 : (x == ("__debug__" : Str)) = false := by decide) (nd2 : (a == ("__debug__" : Str)) = false := by decide) (nc : (a == ("__classdict__" : Str)) = false := by decide) (nd3 : (y == ("__debug__" : Str)) = false := by decide) (nc3 : (y == ("__classdict__" : Str)) = false := by decide) :
    PE X (.Call (.Name x p) [.Lambda params body scope lpos, .Name y py] [] pos) (fun σ H Q => Tabs T H ∧ ∃ v2, σ[j]? = some (some v2) ∧ ∀ H1, ExtN H H1 → Tabs T H1 → TT v2 (fun E H' Q' => t E σ H' Q') H1 Q) := by
  constructor
  rintro pins s0 σ H W J ⟨tabs, v2, at2, w⟩
  refine wpAny_Call_Name_kw (ld_glob J gl mod (PySem.W.callWith_K (h₀ := X.base) J.ok.mod.kin keep ?_ (by rfl) (by rfl)) nd1)
  show wpAny _ _ (spliced ((false, eval (.Lambda params body scope lpos) X.env) :: backTo pos (starEach [.Name y py] X.env))) _ _ s0
  refine Calls.spliced_cons (lam_make2 J TB own inT one tabs nodef (L.has J.ok) fun f c' pm' ctv H1 s1 J1 grown tabs1 hf hfn hfr hco => ?_)
  show wpAny _ _ (spliced ((false, eval (.Name y py) X.env) :: backTo pos (starEach [] X.env))) _ _ s1
  obtain ⟨u2, rel2, read⟩ := slot_read (pos := py) J1 nth visy at2 nd3 nc3
  refine Calls.spliced_cons (read _ _ (Calls.spliced_nil ⟨J1.kIn, ?_⟩))
  have run : codeAny (model X.prog X.w) X.A (.call (.ref g) ⟨[.ref f, u2], []⟩) (CR C8.CX0 X.stack X.prog X.w H1 s1 W C8.E0) s1 := by
    refine run_ofS (N := Ng) (ps := [a, b]) (us := [.ref f, u2]) (vs := [.ref f, v2]) lk code Sg room J1.env0 (binds s1 [.ref f, u2] J1.kIn rfl) (show Vals [V.ref f, v2] [Value.ref f, u2] from .cons rfl (.cons rel2 .nil)) rfl fun room2 => ?_
    obtain ⟨ts, hts, hq⟩ := gives f c' s1 H1 v2 W (fun E H' Q' => t E σ H' Q') (fun V0 pn xe p1 p2 tk => pe_actG (i := 0) quiet J1 L hf hfn hfr (nobind _ _ _ _ _) tk room2 (fun A outer s H E q r => inside A outer s H E f c' q r) first seen nd2 nc) room2 hco (w H1 grown tabs1)
    exact ⟨ts, hts.nox, hq⟩
  have d := fun r s2 z => ended (X := X) (CX := C8.CX0) (E := C8.E0) (R := EP X pins σ W) (fun _ _ _ _ _ _ _ z => (show False from z).elim) J1 (fun _ _ y => y) r s2 z
  refine wpAny_call (codeAny_mono run fun r s2 z => ?_)
  have y := d r s2 z
  cases r with
  | error er => exact y
  | ok fl =>
    cases fl with
    | ret u => exact y
    | _ => exact y.elim
end L2

/-! C.m(e, ..) and C.m() of a classmethod, o.m(e, ..) that may raise: where no repr is under way. -/
namespace L2
open PySem PySem.Spec PyProof.Rows
theorem pe_cmethG {X : Cx} {CX : CXT} {n : Nat} {C p g : Addr} {mc : Value} {pr : Sp} {E : XK} {o e : Expr} {es : List Expr} {m : Str} {pos apos : Pos} {ta : TE} {t : TA} {pl : Sem Bool} (ob : PE X o ta) (rd : ClX.CRead X.K C mc) (met : ClX.CMet X.K C mc m p g) (F : FnRG X.prog X.w X.K X.mg X.base CX n g pr) (quiet : X.A.guards = some []) (room : Room n X.A) (pass : Passes CX X E) (args : PA X (e :: es) t)
    (st : starEach (e :: es) X.env = (false, eval e X.env) :: starEach es X.env := by rfl) (pn : (backTo pos (starEach es X.env)).any (·.1) = false := by rfl)
    (ht : eval (.Call (.Attribute o m apos) (e :: es) [] pos) X.env = (eval o X.env >>= fun ov => standAt apos.atName >>= fun _ => holding [ov] (getMethod ov m pl) >>= fun fb => callWith pos fb.1 fb.2 (backTo pos (starEach (e :: es) X.env)) (backToKw pos (keywordEach [] X.env))) := by rfl) :
    PE X (.Call (.Attribute o m apos) (e :: es) [] pos) (ClX.tCMeth C pr E ta t) := by
  constructor
  intro pins s0 σ H W J w
  refine PySem.W.methodCall_KW (pl := pl) (thn (ob.run pins s0 σ H _ J w) ?_) ht
  rintro _ s1 ⟨_, H1, J1, rel, rfl, w1⟩
  cases rel
  have unknown := ClX.base_none J1 (Nat.le_refl _)
  refine ClX.getmethcm_ok J1 rd met fun s2 J2 => ClX.callwith_cm J2 unknown met.fi (thn (args.run pos _ s2 σ H1 _ J2 w1) ?_) st pn
  rintro us s3 ⟨as, H2, J3, rv, w2⟩
  have run := F X.A X.stack s3 H2 (.ref C :: us) (.ref C :: as) W E quiet room J3.env0 (.cons rfl rv) w2
  refine ⟨⟨ClX.pin_at J3, J3.kIn⟩, wpAny_call (PySem.W.method_call (ClX.pin_at J3) (codeAny_mono run fun r s4 z => ?_))⟩
  have y := ended (R := EP X pins σ W) pass J3 (fun _ _ q => ClX.unpinE q) r s4 z
  cases r with
  | error er => exact y
  | ok fl =>
    cases fl with
    | ret u => exact y
    | _ => exact y.elim
/-- C.m() -/
theorem pe_cmeth0 {X : Cx} {CX : CXT} {n : Nat} {C p g : Addr} {mc : Value} {pr : Sp} {E : XK} {o : Expr} {m : Str} {pos apos : Pos} {ta : TE} {pl : Sem Bool} (ob : PE X o ta) (rd : ClX.CRead X.K C mc) (met : ClX.CMet X.K C mc m p g) (F : FnR X.prog X.w X.K X.mg X.base CX n g pr) (room : Room n X.A) (pass : Passes CX X E)
    (ht : eval (.Call (.Attribute o m apos) [] [] pos) X.env = (eval o X.env >>= fun ov => standAt apos.atName >>= fun _ => holding [ov] (getMethod ov m pl) >>= fun fb => callWith pos fb.1 fb.2 (backTo pos (starEach [] X.env)) (backToKw pos (keywordEach [] X.env))) := by rfl) :
    PE X (.Call (.Attribute o m apos) [] [] pos) (fun σ H Q => ta σ H fun x H1 => x = .ref C ∧ pr [.ref C] H1 Q E) := by
  constructor
  intro pins s0 σ H W J w
  refine PySem.W.methodCall_KW (pl := pl) (thn (ob.run pins s0 σ H _ J w) ?_) ht
  rintro _ s1 ⟨_, H1, J1, rel, rfl, w1⟩
  cases rel
  exact ClX.getmethcm_ok J1 rd met fun s2 J2 => PySem.W.callWith_M0 (K := X.K) ⟨ClX.pin_at J2, J2.kIn⟩ met.fi (ClX.run_cm F room pass J2 .nil w1)
def tMethW (C : Addr) (m : Str) (sp : Sp) (E : St → XK) (ta : TE) (t : TA) : TE := fun σ H Q => ta σ H fun x H1 => ∃ a dx fs, x = .ref a ∧ H1 a = some (.ins C dx fs) ∧ fs.lookup m = none ∧ t σ H1 fun vs H2 => sp (x :: vs) H2 Q (E σ)
/-- o.m(e, ..), where no repr is under way; what is let out goes by the slots -/
theorem pe_methW {X : Cx} {CX : CXT} {n : Nat} {C g : Addr} {m : Str} {fd : FuncData} {ps : List Str} {pr : Sp} {E : St → XK} {o e : Expr} {es : List Expr} {ta : TE} {t : TA} {apos pos : Pos} {pl : Sem Bool} (ob : PE X o ta) (c : Cls X.K C) (met : Meth X.K C m g) (F : FnG X.prog X.w X.K X.mg X.base CX n g fd ps pr) (quiet : X.A.guards = some []) (room : Room n X.A) (bn : Binds X.K fd ps []) (pass : ∀ σ, PassesAt CX X σ (E σ)) (args : PA X (e :: es) t)
    (st : starEach (e :: es) X.env = (false, eval e X.env) :: starEach es X.env := by rfl) (pn : (backTo pos (starEach es X.env)).any (·.1) = false := by rfl)
    (ht : eval (.Call (.Attribute o m apos) (e :: es) [] pos) X.env = (eval o X.env >>= fun ov => standAt apos.atName >>= fun _ => holding [ov] (getMethod ov m pl) >>= fun fb => callWith pos fb.1 fb.2 (backTo pos (starEach (e :: es) X.env)) (backToKw pos (keywordEach [] X.env))) := by rfl) :
    PE X (.Call (.Attribute o m apos) (e :: es) [] pos) (tMethW C m pr E ta t) := by
  constructor
  intro pins s0 σ H W J w
  refine PySem.W.methodCall_KW (pl := pl) (thn (ob.run pins s0 σ H _ J w) ?_) ht
  rintro _ s1 ⟨_, H1, J1, rel, a, dx, fs, rfl, ea, lk, w1⟩
  cases rel
  refine getmeth_ok J1 ea c met lk (PySem.W.callWith_K (first := [.ref a]) (h₀ := X.base) J.ok.mod.kin met.kp (thn (args.run pos pins s1 σ H1 _ J1 w1) ?_) st pn)
  rintro us s2 ⟨as, H2, J2, rv, w2⟩
  have all : Vals (.ref a :: as) (.ref a :: us) := .cons rfl rv
  have many : ((Value.ref a :: us) ++ []).length = ps.length := by
    rw [List.append_nil]
    exact all.length.symm.trans (F.len _ _ _ _ w2)
  have bound := bn s2 (.ref a :: us) J2.kIn many
  rw [List.append_nil] at bound
  have run := F.run X.A X.stack s2 H2 ⟨.ref a :: us, []⟩ (.ref a :: us) (.ref a :: as) W (E σ) quiet room J2.env0 bound all w2
  refine ⟨J2.kIn, wpAny_call (codeAny_mono run ?_)⟩
  rintro (er | fl) s3 z
  · exact pass σ pins H2 s2 er s3 J2 z
  · cases fl with
    | ret u => exact J2.after z
    | _ => exact z.elim
def tMethX (C : Addr) (m : Str) (sp : Sp) (E : XK) (ta : TE) (t : TA) : TE := fun σ H Q => ta σ H fun x H1 => ∃ a dx fs, x = .ref a ∧ H1 a = some (.ins C dx fs) ∧ fs.lookup m = none ∧ t σ H1 fun vs H2 => sp (x :: vs) H2 Q E
/-- o.m(e, ..), where no repr is under way; it may raise -/
theorem pe_methX {X : Cx} {CX : CXT} {n : Nat} {C g : Addr} {m : Str} {fd : FuncData} {ps : List Str} {pr : Sp} {E : XK} {o e : Expr} {es : List Expr} {ta : TE} {t : TA} {apos pos : Pos} {pl : Sem Bool} (ob : PE X o ta) (c : Cls X.K C) (met : Meth X.K C m g) (F : FnG X.prog X.w X.K X.mg X.base CX n g fd ps pr) (quiet : X.A.guards = some []) (room : Room n X.A) (bn : Binds X.K fd ps []) (pass : Passes CX X E) (args : PA X (e :: es) t)
    (st : starEach (e :: es) X.env = (false, eval e X.env) :: starEach es X.env := by rfl) (pn : (backTo pos (starEach es X.env)).any (·.1) = false := by rfl)
    (ht : eval (.Call (.Attribute o m apos) (e :: es) [] pos) X.env = (eval o X.env >>= fun ov => standAt apos.atName >>= fun _ => holding [ov] (getMethod ov m pl) >>= fun fb => callWith pos fb.1 fb.2 (backTo pos (starEach (e :: es) X.env)) (backToKw pos (keywordEach [] X.env))) := by rfl) :
    PE X (.Call (.Attribute o m apos) (e :: es) [] pos) (tMethX C m pr E ta t) := by
  constructor
  intro pins s0 σ H W J w
  refine PySem.W.methodCall_KW (pl := pl) (thn (ob.run pins s0 σ H _ J w) ?_) ht
  rintro _ s1 ⟨_, H1, J1, rel, a, dx, fs, rfl, ea, lk, w1⟩
  cases rel
  refine getmeth_ok J1 ea c met lk (PySem.W.callWith_K (first := [.ref a]) (h₀ := X.base) J.ok.mod.kin met.kp (thn (args.run pos pins s1 σ H1 _ J1 w1) ?_) st pn)
  rintro us s2 ⟨as, H2, J2, rv, w2⟩
  exact ⟨J2.kIn, run_fnG (vs := .ref a :: as) (us := .ref a :: us) F quiet room bn .nil pass J2 (.cons rfl rv) (by rw [List.append_nil]; exact w2)⟩
/-- o.m(e, ..), where no repr is under way; with no defaults -/
theorem pe_methG0 {X : Cx} {CX : CXT} {n : Nat} {C g : Addr} {m : Str} {fd : FuncData} {ps : List Str} {pr : Sp} {E : XK} {o e : Expr} {es : List Expr} {ta : TE} {t : TA} {apos pos : Pos} {pl : Sem Bool} (ob : PE X o ta) (c : Cls X.K C) (met : Meth X.K C m g) (F : FnG X.prog X.w X.K X.mg X.base CX n g fd ps pr) (quiet : X.A.guards = some []) (room : Room n X.A) (bn : Binds X.K fd ps []) (pass : Passes CX X E) (args : PA X (e :: es) t)
    (st : starEach (e :: es) X.env = (false, eval e X.env) :: starEach es X.env := by rfl) (pn : (backTo pos (starEach es X.env)).any (·.1) = false := by rfl)
    (ht : eval (.Call (.Attribute o m apos) (e :: es) [] pos) X.env = (eval o X.env >>= fun ov => standAt apos.atName >>= fun _ => holding [ov] (getMethod ov m pl) >>= fun fb => callWith pos fb.1 fb.2 (backTo pos (starEach (e :: es) X.env)) (backToKw pos (keywordEach [] X.env))) := by rfl) :
    PE X (.Call (.Attribute o m apos) (e :: es) [] pos) (tMeth C m pr [] E ta t) := by
  constructor
  intro pins s0 σ H W J w
  refine PySem.W.methodCall_KW (pl := pl) (thn (ob.run pins s0 σ H _ J w) ?_) ht
  rintro _ s1 ⟨_, H1, J1, rel, a, dx, fs, rfl, ea, lk, w1⟩
  cases rel
  refine getmeth_ok J1 ea c met lk (PySem.W.callWith_K (first := [.ref a]) (h₀ := X.base) J.ok.mod.kin met.kp (thn (args.run pos pins s1 σ H1 _ J1 w1) ?_) st pn)
  rintro us s2 ⟨as, H2, J2, rv, w2⟩
  exact ⟨J2.kIn, run_fnG (vs := .ref a :: as) (us := .ref a :: us) F quiet room bn .nil pass J2 (.cons rfl rv) w2⟩
end L2

/-! repr of a list of shown values -/
namespace L2
open PySem PySem.Spec PyProof.Rows
/-- v is shown as t, whatever is under way -/
abbrev Shn (X : Cx) (k : Nat) (J : Hp → Prop) (v : V) (t : Str) : Prop := Sg X k J (fun _ => False) v t
theorem call_reprL {X : Cx} {k : Nat} (quiet : X.A.guards = some []) (room : Room (k + 2) X.A) :
    CallR X (.builtin "repr") fun us H Q => ∃ (a : Addr) (xs : List V) (ts : List Str) (J : Hp → Prop), us = [.ref a] ∧ J H ∧ (∀ G, J G → G a = some (.lst xs)) ∧ xs ≠ [] ∧ ts.length = xs.length ∧
      (∀ (i : Nat) (v : V), xs[i]? = some v → ∃ t, ts[i]? = some t ∧ Shn X k J v t) ∧ (listText ts).length ≤ sizeLine ∧ ∀ G, J G → Q (.str (listText ts)) G := by
  rintro pins s σ H _ us Q I r ⟨a, xs, ts, J, rfl, j, there, some_, many, each, fits, q⟩
  rcases vals1 r with ⟨_, rfl, rfl⟩
  exact (sg_list there some_ (fun z => z) many each).call X.A [] pins s σ H _ _ _ I.ok.frames quiet (Clr.nil _) room I j rfl fits fun s1 H1 tk I1 j1 => ⟨.str _, H1, I1, ⟨tk, rfl⟩, q H1 j1⟩
end L2

/-! xs[-2::-1], xs a list of at least one item: all but the last, reversed -/
namespace L2
open PySem PySem.Spec PyProof.Rows
section
variable {X : Cx}
def tBack2 (K : PySem.W.Frag) (te : TE) : TE := fun σ H Q => te σ H fun x H1 => ∃ a xs, x = .ref a ∧ SqL K H1 a xs ∧ xs ≠ [] ∧ ∀ p, H1 p = none → Q (.ref p) (upd H1 p (.lst xs.dropLast.reverse))
theorem pick_back2 (items : Array Value) (h : 0 < items.size) : slicePick items (some (-2)) none (some (-1)) = items.toList.dropLast.reverse.toArray := by
  have where_ : sliceBounds (some (-2)) none (some (-1)) items.size = ((((items.size - 1 : Nat) : Int) - 1), -1, -1) := by
    simp only [sliceBounds]
    simp
    omega
  have front := pick_run items 0 (items.size - 1)
  rw [show (List.range (items.size - 1)).map (0 + ·) = List.range (items.size - 1) from by simp, List.drop_zero] at front
  unfold slicePick
  rw [where_]
  change ((sliceRange (((items.size - 1 : Nat) : Int) - 1) (-1) (-1)).filterMap (items[·]?)).toArray = _
  rw [PySem.W.krv_sliceRange, PySem.W.krv_range, List.filterMap_reverse, front, List.dropLast_eq_take, Array.length_toList]
theorem vals_init {xs : List V} {its : List Value} (r : Vals xs its) : Vals xs.dropLast its.dropLast := by
  simpa [List.dropLast_eq_take, r.length] using r.take (its.length - 1)
theorem pe_back2 {e : Expr} {te : TE} {k k2 : Nat} {p1 p2 p3 p4 p5 pos : Pos} (he : PE X e te) : PE X (.Subscript e (.Slice (some (.UnaryOp .USub (.Constant (.int 2) k2 p4) p5)) none (some (.UnaryOp .USub (.Constant (.int 1) k p1) p2)) p3) pos) (tBack2 X.K te) := by
  constructor
  intro pins s0 σ H W J w
  have minus : ∀ (m : Int) (k : Nat) (p q : Pos), PO X (some (.UnaryOp .USub (.Constant (.int m) k p) q)) (tPart (tUn (rU fun i => .int (-i)) (tC (.int m)))) := fun _ _ _ _ => po_some (pe_un un_neg pe_int)
  refine Subscript_ (thn (he.run pins s0 σ H _ J w) ?_)
  rintro _ s1 ⟨_, H1, J1, rel, a, xs, rfl, lst, some_, w1⟩
  cases rel
  refine wpAny_Slice (thn ((minus 2 k2 p4 p5).run pins s1 σ H1 (fun o G => o = some (-2) ∧ G = H1) J1 ⟨2, rfl, -2, rfl, rfl, rfl⟩) ?_)
  rintro low s2 ⟨_, _, J2, n2, rfl, rfl⟩
  refine thn (po_none.run pins s2 σ _ (fun o G => o = none ∧ G = _) J2 ⟨rfl, rfl⟩) ?_
  rintro up s3 ⟨_, _, J3, n3, rfl, rfl⟩
  refine thn ((minus 1 k p1 p2).run pins s3 σ _ (fun o G => o = some (-1) ∧ G = _) J3 ⟨1, rfl, -1, rfl, rfl, rfl⟩) ?_
  rintro step s4 ⟨_, _, J4, part, rfl, rfl⟩
  have J5 := J4.kept (t' := s4.toks) (h' := s4.heap.push { cls := .type "slice", data := .fields #[low, up, step] }) fun _ _ z => Heap.get?_push_of_some _ z
  obtain ⟨its, vals, isL, line⟩ := J5.list lst
  have many : its.toArray.size ≤ sizeLine := by
    rw [List.size_toArray, ← vals.length]
    exact line
  have any_ : 0 < its.toArray.size := by
    rw [List.size_toArray, ← vals.length]
    exact List.length_pos_iff.mpr some_
  change wpAny (model X.prog X.w) X.A (subscriptTail e (.Slice (some (.UnaryOp .USub (.Constant (.int 2) k2 p4) p5)) none (some (.UnaryOp .USub (.Constant (.int 1) k p1) p2)) p3) (.ref a) (.ref s4.heap.objs.size)) (EP X pins σ W) X.xe { s4 with heap := s4.heap.push { cls := .type "slice", data := .fields #[low, up, step] } }
  refine tail_any (ops := [.ref a, .ref s4.heap.objs.size]) isL.isList.typeIs (PySem.slot_list_getitem.lookup) (wpAny_getItem_list_slice isL.isList (Heap.IsSliceOf.new _ low up step) n2 n3 part (by decide) ?_ many) (by with_unfolding_all rfl)
  have short : xs.dropLast.reverse.length ≤ sizeLine := by
    rw [List.length_reverse, List.length_dropLast]
    omega
  have laid := J5.laid (t' := s4.toks) (o := .lst xs.dropLast.reverse) (fun _ _ z => Heap.get?_push_of_some _ z) (Nat.le_refl _) ⟨short, _, 0, (vals_init vals).reverse, Heap.get?_push_size _ rfl⟩
  rw [pick_back2 _ any_]
  exact ⟨.ref _, _, laid, rfl, w1 _ (J5.hok.fresh (Nat.le_refl _))⟩
end
end L2

/-! C(): an own exception without fields, whose __init__ says super().__init__(..) -/
namespace L2
open PySem PySem.Spec PyProof.Rows
section
variable {X : Cx}
/-- what happened after an exception object was laid at a, told of the heaps without a -/
theorem un_less {fs : List Addr} {H1 H2 : Hp} {hp hp2 h2 G : Heap} {a : Addr} {o : HO} (un : Un fs [] (upd H1 a o) H2 hp2 h2) (stays : ∀ b ob, hp.get? b = some ob → hp2.get? b = some ob) (above : hp.objs.size ≤ a) (new : H1 a = none) (same : ∀ b, b ≠ a → G.get? b = h2.get? b) : Un fs [] H1 (del H2 a) hp G := by
  have off : ∀ {b : Addr} {ob : Obj}, hp.get? b = some ob → b ≠ a := fun z e => absurd (Heap.lt_size z) (by rw [e]; exact Nat.not_lt.mpr above)
  have offH : ∀ {b : Addr} {t : HO}, H1 b = some t → b ≠ a := fun z e => by rw [e, new] at z; exact nomatch z
  have old : ∀ {b : Addr}, b ≠ a → upd H1 a o b = H1 b := fun z => upd_ne z
  constructor
  case keep => exact fun b ob z n p q => (same b (off z)).trans (un.keep b ob (stays b ob z) ((old (off z)).trans n) p q)
  case slot =>
    intro b ob z n p q
    obtain ⟨sl, r⟩ := un.slot b ob (stays b ob z) ((old (off z)).trans n) p q
    exact ⟨sl, (same b (off z)).trans r⟩
  case free => exact fun b ob z n q => (del_ne (off z)).trans (un.free b ob (stays b ob z) ((old (off z)).trans n) q)
  case there =>
    intro b ob z q
    obtain ⟨ob2, r⟩ := un.there b ob (stays b ob z) q
    exact ⟨ob2, (same b (off z)).trans r⟩
  case tups => exact fun b xs z => (del_ne (offH z)).trans (un.tups b xs ((old (offH z)).trans z))
  case frzs => exact fun b t v z => (del_ne (offH z)).trans (un.frzs b t v ((old (offH z)).trans z))
  case tbls =>
    intro b ps z
    obtain ⟨m, r⟩ := un.tbls b ps ((old (offH z)).trans z)
    exact ⟨m, (del_ne (offH z)).trans r⟩
/-- the tracked objects without the exception object -/
theorem hok_less {P : Program} {w : World} {H : Hp} {h G : Heap} {a C : Addr} (ok : HOk P w H h) (ea : H a = some (exo a C none)) (same : ∀ b, b ≠ a → G.get? b = h.get? b) : HOk P w (del H a) G := by
  intro b o z
  have nb : b ≠ a := by
    rintro rfl
    rw [del_same] at z
    exact nomatch z
  rw [del_ne nb] at z
  have own : ∀ {c : Addr}, H c = some (.own b) → c ≠ a := fun y => at_ne ea y exo_own
  refine (ok b o z).stay ?_ (fun c y => (del_ne (own y)).trans y) fun c xs y => (del_ne (at_ne ea y exo_tup)).trans y
  rintro c v (rfl | y) r
  · exact (same c nb).trans r
  · exact (same c (own y)).trans r
/-- C() -/
def tMkS0 (C : Addr) (sp : Sp) : St → Hp → XK → Prop := fun σ H Q => ∀ a, H a = none → sp [.ref a] (upd H a (exo a C none)) (fun v H2 => v = .non ∧ H2 a = some (exo a C none) ∧ Q (.ref C) none (del H2 a)) (fun _ _ _ => False)
/-- C is an own exception class over a built-in one -/
structure OexB (newId : String) (bmB : List Value) (K : PySem.W.Frag) (C : Addr) : Prop where
  cls : ∃ nm q N bs bm sn sub ab col dd k0 k1 k2 k3 k5, K.lookup C = some (excClassObj nm q C N bs bm true sn sub ab col dd k0 k1 k2 k3 k5 newId) ∧ refsTo bmB bm = true
  exc : PySem.W.subIn K (.ref C) (.type "BaseException") = some true ∧ PySem.W.typeIn K (.ref C) = some (.type "type") ∧ PySem.W.keepIn K (.ref C) = true
theorem pmk_sup0 {CX : CXT} {x : Str} {C g : Addr} {n : Nat} {fd : FuncData} {ps : List Str} {pr : Sp} {B newId initId : String} {bmB : List Value} {p pos : Pos} (FB : ExcBaseFacts B newId initId bmB) (cls : OexB newId bmB X.K C) (init : PySem.W.findIn X.K (.ref C) "__init__" = some (some (.ref g))) (isfn : PySem.W.typeIn X.K (.ref g) = some (.type "function"))
    (F : FnG X.prog X.w X.K X.mg X.base CX n g fd ps pr) (quiet : X.A.guards = some []) (room : Room (n + 1) X.A) (bn : Binds X.K fd ps []) (pass : Passes CX X (fun _ _ _ => False)) (gl : Gl X x) (at_ : X.mg x = some (.ref C))
    (nd : (x == ("__debug__" : Str)) = false := by decide) :
    PMk X (.Call (.Name x p) [] [] pos) (tMkS0 C pr) := by
  rintro pins ⟨hp, gens, dr, tk, os⟩ σ G W J w
  refine wpAny_Call_Name_kw (ld_glob J gl at_ (PySem.W.callWith_K0 J.kIn cls.exc.2.2 ?_) nd)
  change wpAny _ _ (PySem.call (.ref C) []) _ _ _
  obtain ⟨_, _, _, _, bm, _, _, _, _, _, _, _, _, _, _, look, tail⟩ := cls.cls
  obtain ⟨stays, J2⟩ := exc_laid (args := []) (C := C) J
  have unknown := J.hok.fresh (Nat.le_succ hp.objs.size)
  have w1 := w _ unknown
  have rel : Vals [V.ref (hp.objs.size + 1)] [Value.ref (hp.objs.size + 1)] := .cons rfl .nil
  have many : ([Value.ref (hp.objs.size + 1)] ++ []).length = ps.length := rel.length.symm.trans (F.len _ _ _ _ w1)
  have run := F.run _ X.stack _ _ ⟨[Value.ref (hp.objs.size + 1)], []⟩ _ _ _ (fun _ _ _ => False) (make_guards.trans quiet) (room.make C [] []) (J2.env0.make C [] []) (bn _ [Value.ref (hp.objs.size + 1)] J2.kIn many) rel w1
  refine wpAny_call (PySem.HandSPX.call_own FB (fun Y => refsTo_contains Y bm tail) (J.kIn _ _ look) (PySem.W.looks_findIn J.kIn init) (fun self => PySem.W.bind_fn J.kIn self isfn) (Nat.zero_le _) (codeAny_mono run ?_))
  rintro (er | fl) ⟨h3, gens3, dr3, tk3, os3⟩ z
  · exact pass pins σ _ _ er _ J2 z
  · cases fl with
    | ret u =>
      obtain ⟨_, G3, same, bare, un, ok, none_, rfl, ea, w3⟩ := z
      obtain ⟨_, obj⟩ := exo_at ok ea
      obtain ⟨h4, rest, gone⟩ := restrict h3 fun b => decide (b ≠ hp.objs.size + 1)
      have alike : ∀ b, b ≠ hp.objs.size + 1 → h4.get? b = h3.get? b := fun b nb => rest b (decide_eq_true nb)
      have lost : h4.get? (hp.objs.size + 1) = none := gone _ (by simp)
      have J4 := J.call' (ch := []) (s' := ⟨h4, gens3, dr3, tk3, os3⟩) same (un_less un stays (Nat.le_succ _) unknown alike) (hok_less ok ea alike) bare (fun b y => absurd y (by simp))
      have back : ∀ b o, h4.get? b = some o → h3.get? b = some o := by
        intro b o y
        rcases Nat.decEq b (hp.objs.size + 1) with nb | rfl
        · exact (alike b nb).symm.trans y
        · rw [lost] at y
          exact nomatch y
      exact ⟨none_, _, _, _, _, _, .ref C, none, rfl, J4, back, lost, obj, ⟨rfl, rfl⟩, rfl, rfl, del_same, rfl, bare, raises_own cls.exc.1 cls.exc.2.1, w3⟩
    | _ => exact z.elim
end
end L2

/-! sorted(xs), xs a list of plain data of any depth (numbers, texts, tuples of them) -/
namespace L2
open PySem PySem.Spec PyProof.Rows
section
variable {X : Cx}
theorem eachOf {β : Type} {val : β → V} : ∀ {bs : List β} {us : List Value}, Vals (bs.map val) us → PySem.W.EachIs (fun u b => RelV (val b) u) us bs
  | [], _, r => by
    cases r
    exact .nil
  | _ :: _, _, r => by
    cases r with
    | cons h t => exact .cons h (eachOf t)
theorem ofEach {β : Type} {val : β → V} : ∀ {bs : List β} {us : List Value}, PySem.W.EachIs (fun u b => RelV (val b) u) us bs → Vals (bs.map val) us
  | [], _, r => by
    cases r
    exact .nil
  | _ :: _, _, r => by
    cases r with
    | cons h t => exact .cons h (ofEach t)
theorem eachReads {pins : List (Addr × Obj)} {σ : St} {H : Hp} {s : Shared} (I : Inv X pins σ H s) {β : Type} {val : β → V} {enc : β → PyData} : ∀ {bs : List β} {us : List Value}, (∀ b ∈ bs, Dp X.K H (val b) (enc b)) → Vals (bs.map val) us →
    PySem.W.EachIs (fun u b => ∃ as, Reads s.heap u (enc b) as) us bs
  | [], _, _, r => by
    cases r
    exact .nil
  | b :: bs, _, d, r => by
    cases r with
    | cons h t => exact .cons (Dp.reads I (enc b) (val b) _ (d b List.mem_cons_self) h) (eachReads I (fun c m => d c (List.mem_cons_of_mem _ m)) t)
/-- how sorted answers: the items bs stand as val and read as enc; the new list holds them in order, equal ones as they stood -/
def rSortB (K : PySem.W.Frag) : List V → Hp → VK → Prop := fun vs H Q => ∃ (a : Addr) (β : Type) (val : β → V) (enc : β → PyData) (bs : List β), vs = [V.ref a] ∧ SqL K H a (bs.map val) ∧ (∀ b ∈ bs, Dp K H (val b) (enc b)) ∧
  (∀ b ∈ bs, (enc b).depth ≤ 60) ∧ PySem.W.AllAlike (bs.map enc) ∧ PySem.W.Sortable (bs.map enc) ∧ ∀ p, H p = none → Q (.ref p) (upd H p (.lst ((bs.mergeSort (PySem.W.dataLe false enc)).map val)))
theorem cr_sortB (room : X.A.units + 70 < cLine) : CallR X (.builtin "sorted") (rSortB X.K) := by
  intro pins s σ H vs us Q I r h
  obtain ⟨a, β, val, enc, bs, rfl, isL, data, flat, alk, ord, q⟩ := h
  obtain ⟨its, rv, hl, hz⟩ := I.list isL
  rw [Vals.ref1 r]
  rw [List.length_map] at hz
  refine PySem.W.sorted_data (R := fun u b => RelV (val b) u) (enc := enc) (bs := bs) hl.isList (eachOf rv) (eachReads I data rv) alk ord hz (fun b m => ?_) fun out many each => ?_
  · have := flat b m
    omega
  have gone : H (s.heap.objs.size + 1) = none := I.hok.fresh (Nat.le_succ _)
  obtain ⟨n, at_⟩ := sortedAll_at s.heap its out.toArray
  have vals := ofEach each
  have few : ((bs.mergeSort (PySem.W.dataLe false enc)).map val).length ≤ sizeLine := by
    rw [List.length_map, List.length_mergeSort]
    exact hz
  have J := I.laid (a := s.heap.objs.size + 1) (o := .lst ((bs.mergeSort (PySem.W.dataLe false enc)).map val)) (h' := sortedAll s.heap its out.toArray) (t' := s.toks) (fun b o e => sortedAll_old e) (Nat.le_succ _) ⟨few, out, n, vals, at_⟩
  exact ⟨V.ref (s.heap.objs.size + 1), _, J, rfl, q _ gone⟩
end

/-! {k: v} with a tuple for its one key -/
section
variable {X : Cx}
/-- the new dict stands empty while its pair is made -/
def tOneT (tk tv : TE) : TE := fun σ H Q => ∀ p, H p = none → tPairs [(tk, tv)] σ (upd H p (.dT [])) fun ps H2 => H2 p = some (.dT []) ∧ ∃ (b : Addr) (k : List Key) (y : V), ps = [(.ref b, y)] ∧ H2 b = some (.tup (k.map kV)) ∧ Q (.ref p) (upd H2 p (.dT [(k, y)]))
theorem pe_oneT {pos : Pos} {key value : Expr} {tk tv : TE} (room : X.A.units + 1 < cLine) (hk : PE X key tk) (hv : PE X value tv) : PE X (.Dict [some key] [value] pos) (tOneT tk tv) := by
  refine ⟨fun pins s σ H Q I q => ?_⟩
  have gone := I.hok.fresh (Nat.le_refl s.heap.objs.size)
  have I1 := I.laid (a := s.heap.objs.size) (o := .dT []) (h' := s.heap.push { cls := .type "dict", data := .dict #[] }) (t' := s.toks) (fun _ _ q => Heap.get?_push_of_some _ q) (Nat.le_refl _) (dt_empty s.heap I.big)
  have shape := zip_pairTrees [some key] [value] X.env pos rfl rfl
  have one := pairTrees_length [some key] [value] X.env pos rfl rfl
  have run := (pps_cons (pos := pos) hk hv pps_nil).run pins _ σ _ _ I1 (q _ gone)
  generalize pairTrees [some key] [value] X.env pos = trees at shape one run
  rw [arm_eval_Dict, shape, dictDisplay_pairs trees (fun z => by rw [z] at one; cases one) (by rw [one]; exact Nat.le_of_ble_eq_true rfl)]
  refine wpAny_bind (wpAny_standAt (wpAny_bind (wpAny_subDictH (knd := tupleKind (mixKind X.prog X.w)) (Q := fun d s' => wpAny (model X.prog X.w) X.A (pure (Value.ref d)) (EP X pins σ Q) X.xe s') (show X.A.units < cLine by omega) (by rw [one]; exact Nat.le_of_ble_eq_true rfl) (thn run ?_))))
  rintro ws s2 ⟨ps, H2, I2, rel, e, b, k, y, rfl, eb, q2⟩
  cases rel with
  | @cons _ w _ _ h1 h2 =>
    cases h2
    obtain ⟨wk, wv⟩ := w
    obtain ⟨rk, rv⟩ := h1
    obtain rfl : wk = Value.ref b := rk
    obtain ⟨z, hd, xs, rel, dd⟩ := dt_of I2.hok e
    cases rel
    refine ⟨[(k, b, wv)], ⟨rfl, rfl, key_of I2.hok eb, True.intro⟩, dd, fun h' tk' dd' hs => wpAny_pure ⟨.ref s.heap.objs.size, _, ?_, rfl, q2⟩⟩
    obtain ⟨o, es, ep, ho, h3, h4, h5, _, h6⟩ := dd'
    refine d_write I2 (by rw [e]; exact True.intro) hs ⟨o, ho⟩ ⟨by rw [sizeLine_eq]; exact Nat.le_of_ble_eq_true rfl, hd, [(k, b, wv)], .cons ⟨rfl, ?_, rv⟩ .nil, o, es, ep, ho, h3, h4, h5, h6⟩
    rw [upd_ne (ne_of eb e (fun z => nomatch z))]
    exact eb
end
end L2

/-! The texts of polynomials, in plain words. -/
namespace TXM
open PySem PySem.Builtin PySem.Builtin.Str PyProof.Rows
def tx (i : Int) : Str := Str.ofString (toString i)
theorem cps_app (a b : Str) : (a ++ b).cps.toList = a.cps.toList ++ b.cps.toList := by
  show (a.cps ++ b.cps).toList = _
  simp
theorem str_ext {a b : Str} (h : a.cps.toList = b.cps.toList) : a = b := by
  obtain ⟨x⟩ := a
  obtain ⟨y⟩ := b
  congr 1
  exact Array.toList_inj.mp h
theorem app_assoc (a b c : Str) : a ++ b ++ c = a ++ (b ++ c) := str_ext (by simp only [cps_app, List.append_assoc])
theorem empty_app (a : Str) : Str.empty ++ a = a := str_ext (by rw [cps_app]; rfl)
theorem app_empty (a : Str) : a ++ Str.empty = a := str_ext (by rw [cps_app]; exact List.append_nil _)
/-- signs that are seen -/
def Ink (x : Str) : Prop := ∀ c ∈ x.cps.toList, 33 ≤ c ∧ c < 127
def Low (x : Str) : Prop := ∀ c ∈ x.cps.toList, c < 127
theorem Ink.low {x : Str} (h : Ink x) : Low x := fun c hc => (h c hc).2
theorem Ink.app {x y : Str} (h : Ink x) (k : Ink y) : Ink (x ++ y) := fun c hc => by
  rw [cps_app] at hc
  exact (List.mem_append.mp hc).elim (h c) (k c)
theorem Low.app {x y : Str} (h : Low x) (k : Low y) : Low (x ++ y) := fun c hc => by
  rw [cps_app] at hc
  exact (List.mem_append.mp hc).elim (h c) (k c)
theorem ink_tx (i : Int) : Ink (tx i) := fun c hc => by
  by_cases h : c ≠ 45 ∧ (c < 48 ∨ 57 < c)
  · exact absurd hc (int_text_free' c h i)
  · omega
theorem Low.repr {x : Str} (h : Low x) : (reprText x).length ≤ 10 * x.length + 2 := StrLaws.reprText_len x fun c hc => by
  have := h c hc
  have e : (16 : Nat) ^ 8 = 4294967296 := by decide
  omega
theorem tx_ne (i : Int) : (tx i).cps.toList ≠ [] := by
  intro h
  unfold tx at h
  rw [signs_ofString] at h
  have h2 : (toString i).toList = [] := List.map_eq_nil_iff.mp h
  cases i with
  | ofNat n =>
    have e : (toString (Int.ofNat n)) = n.repr := rfl
    rw [e, Nat.toList_repr] at h2
    exact Nat.toDigits_ne_nil h2
  | negSucc n =>
    have e : (toString (Int.negSucc n)) = "-" ++ (n + 1).repr := rfl
    rw [e, String.toList_append] at h2
    simp at h2
/-! ### strip -/
theorem takeW {p : Nat → Bool} : ∀ (s m : List Nat), (∀ c ∈ s, p c = true) → (∀ c, m.head? = some c → p c = false) → (s ++ m).takeWhile p = s
  | [], m, _, hm => by
    cases m with
    | nil => rfl
    | cons c l => simp [List.takeWhile_cons, hm c rfl]
  | a :: s, m, hs, hm => by
    rw [List.cons_append, List.takeWhile_cons, if_pos (hs a (by simp)), takeW s m (fun c hc => hs c (by simp [hc])) hm]
theorem strip_mid {x : Str} {s1 m s2 : List Nat} (e : x.cps.toList = s1 ++ m ++ s2) (h1 : ∀ c ∈ s1, Unicode.isSpace c = true) (h2 : ∀ c ∈ s2, Unicode.isSpace c = true) (hh : ∀ c, m.head? = some c → Unicode.isSpace c = false) (hl : ∀ c, m.getLast? = some c → Unicode.isSpace c = false) (hm : m ≠ []) :
    Txt.strip x = ⟨m.toArray⟩ := by
  unfold Txt.strip
  rw [stripBy_eq]
  have hx : x.length = s1.length + m.length + s2.length := by
    show x.cps.size = _
    rw [← Array.length_toList, e]
    simp only [List.length_append]
  have lo : stripLo Unicode.isSpace true x = s1.length := by
    simp only [stripLo, if_true]
    rw [e, List.append_assoc, takeW s1 (m ++ s2) h1 (fun c hc => hh c (by
      cases m with
      | nil => exact absurd rfl hm
      | cons a l => exact hc))]
  have hi : stripHi Unicode.isSpace true x s1.length = s1.length + m.length := by
    simp only [stripHi, if_true]
    rw [e, List.append_assoc, List.drop_left, List.reverse_append, takeW s2.reverse m.reverse (fun c hc => h2 c (List.mem_reverse.mp hc)) (fun c hc => hl c (by rw [List.head?_reverse] at hc; exact hc)), List.length_reverse, hx]
    omega
  rw [lo, hi]
  refine str_ext ?_
  show (x.cps.extract s1.length (s1.length + m.length)).toList = m
  rw [Array.toList_extract, e]
  show ((s1 ++ m ++ s2).extract s1.length (s1.length + m.length)) = m
  rw [List.extract_eq_drop_take, List.append_assoc, List.drop_left, show s1.length + m.length - s1.length = m.length by omega, List.take_left]
/-! ### terms -/
def powT (e : Nat) : Str := if e = 1 then ("d" : Str) else ("d^" : Str) ++ tx e
def pieceT (c : Int) (e : Nat) : Str := if e = 0 then tx c.natAbs else if c.natAbs = 1 then powT e else tx c.natAbs ++ (" " : Str) ++ powT e
def frontT (first : Bool) (c : Int) : Str := if first then (if c < 0 then ("-" : Str) else ("" : Str)) else (if c < 0 then (" - " : Str) else (" + " : Str))
def goT (s : Str) : List (Int × Nat) → Str
  | [] => s
  | (c, e) :: l => goT (s ++ frontT (decide (s = Str.empty)) c ++ pieceT c e) l
/-- the terms that are not 0, the lowest first -/
def terms (r : List Int) : List (Int × Nat) := r.zipIdx.filter fun p => decide (p.1 ≠ 0)
def textT (r : List Int) : Str := if terms r = [] then ("0" : Str) else goT Str.empty (terms r).reverse
theorem goT_snoc : ∀ (l : List (Int × Nat)) (s : Str) (c : Int) (e : Nat), goT s (l ++ [(c, e)]) = goT s l ++ frontT (decide (goT s l = Str.empty)) c ++ pieceT c e
  | [], s, c, e => rfl
  | (a, b) :: l, s, c, e => by
    show goT (s ++ frontT (decide (s = Str.empty)) a ++ pieceT a b) (l ++ [(c, e)]) = _
    rw [goT_snoc l]
    rfl
theorem ink_d : Ink ("d" : Str) := by unfold Ink; decide +kernel
theorem ink_dh : Ink ("d^" : Str) := by unfold Ink; decide +kernel
theorem ink_pow (e : Nat) : Ink (powT e) := by
  unfold powT
  split
  · exact ink_d
  · exact ink_dh.app (ink_tx _)
theorem d_cps : ("d" : Str).cps.toList = [100] := by decide +kernel
theorem dh_cps : ("d^" : Str).cps.toList = [100, 94] := by decide +kernel
theorem sp_cps : (" " : Str).cps.toList = [32] := by decide +kernel
theorem e_cps : ("" : Str).cps.toList = [] := by decide +kernel
theorem pow_ne (e : Nat) : (powT e).cps.toList ≠ [] := by
  unfold powT
  split
  · rw [d_cps]; simp
  · rw [cps_app, dh_cps]; simp
theorem piece_ne (c : Int) (e : Nat) : (pieceT c e).cps.toList ≠ [] := by
  unfold pieceT
  split
  · exact tx_ne _
  · split
    · exact pow_ne _
    · rw [cps_app, cps_app, sp_cps]; simp
theorem low_lit_sp : Low (" " : Str) := by unfold Low; decide +kernel
theorem low_piece (c : Int) (e : Nat) : Low (pieceT c e) := by
  unfold pieceT
  split
  · exact (ink_tx _).low
  · split
    · exact (ink_pow _).low
    · exact ((ink_tx _).low.app low_lit_sp).app (ink_pow _).low
theorem low_front (b : Bool) (c : Int) : Low (frontT b c) := by
  unfold frontT
  split <;> split <;> (unfold Low; decide +kernel)
theorem low_goT : ∀ (l : List (Int × Nat)) (s : Str), Low s → Low (goT s l)
  | [], s, h => h
  | (c, e) :: l, s, h => low_goT l _ ((h.app (low_front _ _)).app (low_piece _ _))
theorem low_empty : Low Str.empty := fun c hc => by cases hc
theorem low_textT (r : List Int) : Low (textT r) := by
  unfold textT
  split
  · unfold Low; decide +kernel
  · exact low_goT _ _ low_empty
theorem app_ne {s t : Str} (h : t.cps.toList ≠ []) : s ++ t ≠ Str.empty := fun e => by
  have h2 := congrArg (fun x : Str => x.cps.toList) e
  simp only [cps_app] at h2
  have h3 : s.cps.toList ++ t.cps.toList = [] := h2
  exact h (List.append_eq_nil_iff.mp h3).2
theorem goT_ne : ∀ (l : List (Int × Nat)) (s : Str), s ≠ Str.empty → goT s l ≠ Str.empty
  | [], s, h => h
  | (c, e) :: l, s, h => goT_ne l _ (app_ne (piece_ne c e))
theorem goT_empty (l : List (Int × Nat)) : goT Str.empty l = Str.empty ↔ l = [] := by
  cases l with
  | nil => exact ⟨fun _ => rfl, fun _ => rfl⟩
  | cons p l =>
    obtain ⟨c, e⟩ := p
    refine ⟨fun h => absurd h (goT_ne l _ (app_ne (piece_ne c e))), fun h => by cases h⟩
/-! ### the word of the law -/
theorem tx_head {i : Int} : ∀ c, (tx i).cps.toList.head? = some c → Unicode.isSpace c = false := fun c hc => by
  have := ink_tx i c (List.mem_of_mem_head? hc)
  exact PySem.W.KXs.no_space c this.2 this.1
theorem ink_head {x : Str} (h : Ink x) : ∀ c, x.cps.toList.head? = some c → Unicode.isSpace c = false := fun c hc => by
  have := h c (List.mem_of_mem_head? hc)
  exact PySem.W.KXs.no_space c this.2 this.1
theorem ink_last {x : Str} (h : Ink x) : ∀ c, x.cps.toList.getLast? = some c → Unicode.isSpace c = false := fun c hc => by
  have := h c (List.mem_of_getLast? hc)
  exact PySem.W.KXs.no_space c this.2 this.1
theorem sp_space : ∀ c ∈ ([32] : List Nat), Unicode.isSpace c = true := by decide +kernel
def nameT (k : Nat) : Str := (if k > 0 then ("d" : Str) else ("" : Str)) ++ (if k > 1 then ("^" : Str) ++ tx k else ("" : Str))
def wordT (c : Int) (k : Nat) : Str := (if c.natAbs = 1 ∧ k > 0 then ("" : Str) else tx c.natAbs) ++ (" " : Str) ++ nameT k
theorem name0 : nameT 0 = ("" : Str) := by decide +kernel
theorem name_pow {k : Nat} (h : k > 0) : nameT k = powT k := by
  unfold nameT powT
  rw [if_pos h]
  by_cases h1 : k = 1
  · subst h1
    decide +kernel
  · rw [if_pos (by omega), if_neg h1, ← app_assoc]
    congr 1
theorem strip_word (c : Int) (k : Nat) : Txt.strip (wordT c k) = pieceT c k := by
  unfold wordT pieceT
  by_cases h0 : k = 0
  · subst h0
    rw [if_neg (by omega), if_pos rfl, name0]
    rw [strip_mid (s1 := []) (m := (tx c.natAbs).cps.toList) (s2 := [32]) (by rw [cps_app, cps_app, sp_cps, e_cps]; simp) (fun c hc => by cases hc) sp_space (ink_head (ink_tx _)) (ink_last (ink_tx _)) (tx_ne _)]
  · rw [name_pow (by omega), if_neg h0]
    by_cases h1 : c.natAbs = 1
    · rw [if_pos ⟨h1, by omega⟩, if_pos h1]
      rw [strip_mid (s1 := [32]) (m := (powT k).cps.toList) (s2 := []) (by rw [cps_app, cps_app, sp_cps, e_cps]; simp) sp_space (fun c hc => by cases hc) (ink_head (ink_pow _)) (ink_last (ink_pow _)) (pow_ne _)]
    · rw [if_neg (fun z => h1 z.1), if_neg h1]
      rw [strip_mid (x := tx c.natAbs ++ (" " : Str) ++ powT k) (s1 := []) (m := (tx c.natAbs ++ (" " : Str) ++ powT k).cps.toList) (s2 := []) (by simp) (fun c hc => by cases hc) (fun c hc => by cases hc) (fun d hd => ?_) (fun d hd => ?_) ?_]
      · rw [cps_app]
        intro z
        exact pow_ne k (List.append_eq_nil_iff.mp z).2
      · refine ink_head (ink_tx c.natAbs) d ?_
        rw [cps_app, cps_app] at hd
        cases e : (tx c.natAbs).cps.toList with
        | nil => exact absurd e (tx_ne _)
        | cons a l => rw [e] at hd; exact hd
      · refine ink_last (ink_pow k) d ?_
        rw [cps_app] at hd
        cases e : (powT k).cps.toList with
        | nil => exact absurd e (pow_ne _)
        | cons a l =>
          rw [e, List.getLast?_append] at hd
          simp only [List.getLast?_cons] at hd ⊢
          simpa using hd
/-! ### joins of pieces -/
theorem join_fold : ∀ (l : List Str) (acc : Array Nat), (⟨l.foldl (fun acc p => acc ++ (Str.empty).cps ++ p.cps) acc⟩ : Str) = ⟨acc⟩ ++ l.foldr (· ++ ·) Str.empty
  | [], acc => (app_empty _).symm
  | a :: l, acc => by
    rw [List.foldl_cons, join_fold l, List.foldr_cons, ← app_assoc]
    congr 1
theorem join0 (l : List Str) : Txt.join Str.empty l = l.foldr (· ++ ·) Str.empty := by
  cases l with
  | nil => rfl
  | cons a l =>
    show (⟨l.foldl (fun acc p => acc ++ (Str.empty).cps ++ p.cps) a.cps⟩ : Str) = _
    rw [join_fold]
    rfl
theorem foldr_snoc : ∀ (l : List Str) (x : Str), (l ++ [x]).foldr (· ++ ·) Str.empty = l.foldr (· ++ ·) Str.empty ++ x
  | [], x => by show x ++ Str.empty = Str.empty ++ x; rw [app_empty, empty_app]
  | a :: l, x => by
    rw [List.cons_append, List.foldr_cons, List.foldr_cons, foldr_snoc l x, app_assoc]
theorem join_snoc (l : List Str) (x : Str) : Txt.join Str.empty (l ++ [x]) = Txt.join Str.empty l ++ x := by
  rw [join0, join0, foldr_snoc]
/-! ### lengths -/
theorem lit_len {x : Str} {n : Nat} (h : x.length = n) : x.length ≤ n := Nat.le_of_eq h
theorem front_len (b : Bool) (c : Int) : (frontT b c).length ≤ 3 := by
  unfold frontT
  split <;> split <;> decide +kernel
theorem pow_len {e : Nat} (h : (tx e).length ≤ 2000) : (powT e).length ≤ 2002 := by
  unfold powT
  split
  · exact Nat.le_trans (m := 1) (by decide +kernel) (by omega)
  · rw [strLen_append]
    have : (("d^" : Str)).length = 2 := by decide +kernel
    omega
theorem piece_len {c : Int} {e : Nat} (h : (tx e).length ≤ 2000) (k : (tx c.natAbs).length ≤ 2000) : (pieceT c e).length ≤ 4003 := by
  unfold pieceT
  have hp := pow_len h
  split
  · omega
  · split
    · omega
    · rw [strLen_append, strLen_append]
      have : ((" " : Str)).length = 1 := by decide +kernel
      omega
theorem goT_len : ∀ (l : List (Int × Nat)) (s : Str), (∀ p ∈ l, (tx p.2).length ≤ 2000 ∧ (tx p.1.natAbs).length ≤ 2000) → (goT s l).length ≤ s.length + 4006 * l.length
  | [], s, _ => by show s.length ≤ _; omega
  | (c, e) :: l, s, h => by
    have ih := goT_len l (s ++ frontT (decide (s = Str.empty)) c ++ pieceT c e) fun p hp => h p (by simp [hp])
    have h1 := front_len (decide (s = Str.empty)) c
    have h2 : (pieceT c e).length ≤ 4003 := piece_len (h (c, e) (by simp)).1 (h (c, e) (by simp)).2
    rw [strLen_append, strLen_append] at ih
    show (goT (s ++ frontT (decide (s = Str.empty)) c ++ pieceT c e) l).length ≤ _
    rw [List.length_cons]
    omega
end TXM

namespace S16
open PySem L2
def top (i : Nat) : Stmt := PySem.Challenge.pw_slotsums_k16_whole_groups_of_turns.main.body.getD i (.Pass ⟨0, 0, 0, 0⟩)
abbrev sVInit : Stmt := inClass (top 7) 0
abbrev sIsInt : Stmt := top 9
abbrev sIsCount : Stmt := top 10
abbrev sIsName : Stmt := top 15
abbrev sIsList : Stmt := top 16
abbrev sWantName : Stmt := top 17
abbrev sWantSlots : Stmt := top 18
abbrev sIsOrder : Stmt := top 19
abbrev sIsTurn : Stmt := top 20
abbrev sMoved : Stmt := top 21
abbrev sClosed : Stmt := top 22
abbrev sPot : Stmt := top 25
abbrev sDraw : Stmt := top 26
abbrev sPick : Stmt := top 27
abbrev sOrder : Stmt := top 28
abbrev sTurns : Stmt := top 29
abbrev sTable : Stmt := top 30
abbrev sGroup : Stmt := top 31
abbrev sMet : Stmt := top 32
abbrev sMates : Stmt := top 33
abbrev sPlaces : Stmt := top 34
abbrev sOthers : Stmt := top 35
abbrev sEqual : Stmt := top 36
abbrev sRight : Stmt := top 37
abbrev sLaw : Stmt := top 38
abbrev sTInit : Stmt := inClass (top 23) 0
abbrev sTSign : Stmt := inClass (top 23) 4
abbrev sTSlots : Stmt := inClass (top 23) 5
abbrev sTTurns : Stmt := inClass (top 23) 6
abbrev sTIsPl : Stmt := inClass (top 23) 7
abbrev sTWant : Stmt := inClass (top 23) 8
abbrev sTLeast : Stmt := inClass (top 23) 9
abbrev sTClass : Stmt := inClass (top 23) 10
abbrev sTNamed : Stmt := inClass (top 23) 11
abbrev sTEq : Stmt := inClass (top 23) 12
abbrev sTRepr : Stmt := inClass (top 23) 13

/-! ### heaps -/
theorem sNew {H H1 : Hp} {p : Addr} {o : HO} (s : Same H H1) (n : H1 p = none) : Same H (upd H1 p o) := fun b x e => by
  have h := s b x e
  rw [upd_ne (ne_of_none h n)]
  exact h
theorem sPut {H H1 : Hp} {p : Addr} {o : HO} (s : Same H H1) (n : H p = none) : Same H (upd H1 p o) := fun b x e => by
  rw [upd_ne (ne_of_none e n)]
  exact s b x e
theorem old {H : Hp} {p q : Addr} {o x : HO} (h : H q = some x) (n : H p = none) : upd H p o q = some x := by
  rw [upd_ne (ne_of_none h n)]; exact h
theorem sTup {K : PySem.W.Frag} {H H' : Hp} {a : Addr} {xs : List V} (e : Same H H') (h : SqT K H a xs) : SqT K H' a xs := by
  rcases h with (h | ⟨o, h⟩) | h
  · exact .inl (.inl (e _ _ h))
  · exact .inl (.inr ⟨o, e _ _ h⟩)
  · exact .inr h
/-- all but the object at x is as it was -/
def SameX (x : Addr) (H H' : Hp) : Prop := ∀ b o, b ≠ x → H b = some o → H' b = some o
theorem lt_line {n : Nat} (h : n ≤ 2000000) : n < sizeLine := Nat.lt_of_le_of_lt h (by decide)
theorem le_line {n : Nat} (h : n ≤ 2000000) : n ≤ sizeLine := Nat.le_trans h (by decide)
theorem map_get {α : Type} {l : List α} {f : α → V} {i : Nat} {y : V} (h : (l.map f)[i]? = some y) : ∃ a, l[i]? = some a ∧ y = f a := by
  rw [List.getElem?_map] at h
  cases e : l[i]? with
  | none => rw [e] at h; cases h
  | some a => rw [e] at h; exact ⟨a, rfl, (Option.some.inj h).symm⟩
theorem take_succ_map {α : Type} {l : List α} {f : α → V} {i : Nat} {a : α} (h : l[i]? = some a) : (l.take i).map f ++ [f a] = (l.take (i + 1)).map f := by
  rw [List.take_add_one, h]; simp


/-! ### comprehensions that only make things -/
section
variable {J : It} {n : Nat} {G : Hp → Prop} {Y : Nat → Hp → V → Hp → Prop}
theorem Same.trans {H H1 H2 : Hp} (a : Same H H1) (b : Same H1 H2) : Same H H2 := fun c o e => b c o (a c o e)
/-- what stands behind i turns, f saying what each turn keeps -/
def kept (f : Nat → Option V) (i : Nat) : List V := (List.range i).filterMap f
theorem kept_succ (f : Nat → Option V) (i : Nat) : kept f (i + 1) = kept f i ++ (f i).toList := by
  unfold kept
  rw [List.range_succ, List.filterMap_append]
  cases e : f i with
  | none => rw [List.filterMap_cons_none e] <;> rfl
  | some v => rw [List.filterMap_cons_some e] <;> rfl
theorem kept_len (f : Nat → Option V) (i : Nat) : (kept f i).length ≤ i := by
  unfold kept
  have := List.length_filterMap_le f (List.range i)
  rwa [List.length_range] at this
/-- a comprehension whose parts make new things and change none -/
theorem lc_new (w : Walk J n G Y) {g : TG} {tt : TT} {te : TE} {vs : List Nat} {σ : St} {H1 : Hp} {D : Addr} {Qd : Hp → Prop} (f : Nat → Option V) (few : n < sizeLine) (new : H1 D = none) (hG : ∀ H, Same H1 H → G H)
    (hs : ∀ i x H H', i < n → Same H1 H → Y i H x H' → ∀ (Kt : VK) (Kn : Hp → Prop), (∀ y H4, f i = some y → Same H H4 → Kt y H4) → (f i = none → ∀ H4, Same H H4 → Kn H4) →
      g x (wipe σ vs) H' fun σ2 H2 => wipe σ2 vs = wipe σ vs ∧ tt σ2 H2 fun b H3 => if b = true then te σ2 H3 Kt else Kn H3)
    (hd : ∀ H, Same H1 H → H D = some (.lst (kept f n)) → Qd H) :
    ∃ Z : Nat → Nat → Hp → Prop, (∃ k, Z 0 k (upd H1 D (.lst []))) ∧ ∀ j k H, Z j k H →
      (J.stop j H ∧ Qd H) ∨ (J.go j H ∧ ∃ On : Hp → Prop, (∀ H0, On H0 → ∃ k', k' < k ∧ Z (j + 1) k' H0) ∧
        ∀ v H0, J.yld j H v H0 → g v (wipe σ vs) H0 fun σ2 H2 => wipe σ2 vs = wipe σ vs ∧ tt σ2 H2 fun b H3 =>
          if b = true then te σ2 H3 (fun y H4 => ∃ ys, H4 D = some (.lst ys) ∧ ys.length < sizeLine ∧ On (upd H4 D (.lst (ys ++ [y])))) else On H3) := by
  refine lc_it w (fun i H => Same H1 H ∧ H D = some (.lst (kept f i))) ⟨sPut (Same.refl H1) new, upd_same⟩ (fun i H _ p => hG H p.1) ?_ (fun H p => hd H p.1 p.2)
  rintro i x H H' hi ⟨s1, at_⟩ y
  refine hs i x H H' hi s1 y _ _ (fun v H4 e s4 => ?_) (fun e H4 s4 => ?_)
  · refine ⟨kept f i, s4 _ _ at_, Nat.lt_of_le_of_lt (kept_len f i) (Nat.lt_trans hi few), sPut (Same.trans s1 s4) new, ?_⟩
    rw [kept_succ, e]
    exact upd_same
  · refine ⟨Same.trans s1 s4, ?_⟩
    rw [kept_succ, e]
    exact (List.append_nil (kept f i)).symm ▸ s4 _ _ at_
theorem kept_all {ys : List V} {f : Nat → Option V} (h : ∀ i, f i = ys[i]?) : kept f ys.length = ys := by
  have e : f = fun i => ys[i]? := funext h
  subst e
  unfold kept
  induction ys with
  | nil => rfl
  | cons y ys ih =>
    rw [List.length_cons, List.range_succ_eq_map, List.filterMap_cons, List.filterMap_map]
    exact congrArg (y :: ·) (ih fun i => rfl)
theorem kept_const (n : Nat) (v : V) : kept (fun i => if i < n then some v else none) n = List.replicate n v := by
  have e := kept_all (ys := List.replicate n v) (f := fun i => if i < n then some v else none) fun i => by rw [List.getElem?_replicate]
  rwa [List.length_replicate] at e
theorem _root_.List.all_replicate_of (n : Nat) : (List.replicate n true).all id = true := by
  rw [List.all_eq_true]
  intro b m
  rw [(List.mem_replicate.mp m).2] <;> rfl
end

/-! ### made instances: without arguments, by a star alone -/
section
variable {X : Cx} {CX : CXT} {k : Nat} {f C : Addr} {sp : Sp} {E : XK} {x : Str} {e : Expr} {te : TE} {p pos sp_ : Pos}
theorem pe_makeR0 (M : Mk X.K C f) (F : FnR X.prog X.w X.K X.mg X.base CX k f sp) (hr : Room (k + 1) X.A) (hg : Gl X x) (hm : X.mg x = some (.ref C)) (hx : Passes CX X E) (hdb : (x == ("__debug__" : Str)) = false := by decide) :
    PE X (.Call (.Name x p) [] [] pos) (StX.tMakeR C sp E tNil) := by
  refine ⟨fun pins s σ H Q I h => ?_⟩
  refine wpAny_Call_Name_kw (ld_glob I hg hm ?_ hdb)
  exact PySem.W.callWith_K0 I.kIn M.kp (StX.run_makeR (us := []) M F hr hx I .nil h)
def tMakeS (K : PySem.W.Frag) (C : Addr) (sp : Sp) (E : XK) (te : TE) : TE := fun σ H Q => te σ H fun y H1 => ∃ a xs, y = V.ref a ∧ (SqT K H1 a xs ∨ SqL K H1 a xs) ∧ ∀ x dx, H1 x = Option.none → H1 dx = Option.none → dx ≠ x →
  sp (V.ref x :: xs) (upd (upd H1 dx (.own x)) x (.ins C dx [])) (fun v H2 => v = .non ∧ Q (.ref x) H2) E
theorem pe_makeS (M : Mk X.K C f) (F : FnR X.prog X.w X.K X.mg X.base CX k f sp) (hr : Room (k + 1) X.A) (hg : Gl X x) (hm : X.mg x = some (.ref C)) (hx : Passes CX X E) (he : PE X e te) (hdb : (x == ("__debug__" : Str)) = false := by decide)
    (hst : starEach [.Starred e sp_] X.env = [(true, eval e X.env)] := by rfl) : PE X (.Call (.Name x p) [.Starred e sp_] [] pos) (tMakeS X.K C sp E te) := by
  refine ⟨fun pins s σ H Q I h => ?_⟩
  refine wpAny_Call_Name_kw (ld_glob I hg hm ?_ hdb)
  refine PySem.W.callWith_S (h₀ := X.base) I.ok.mod.kin M.kp (thn (he.run pins s σ H _ I h) fun v s1 ⟨y, H1, I1, ry, a, xs, ey, hxs, q⟩ => ?_) hst
  subst ey
  obtain rfl : v = Value.ref a := ry
  exact StX.star_any I1 hxs fun us s2 I2 rv => ⟨I2.kIn, StX.run_makeR M F hr hx I2 rv q⟩
theorem PE.imp {e : Expr} {t t' : TE} (h : PE X e t) (i : ∀ σ H Q, t' σ H Q → t σ H Q) : PE X e t' := ⟨fun pins s σ H Q I q => h.run pins s σ H Q I (i σ H Q q)⟩
end

/-! ### the built-in names -/
structure Bn (mg : Str → Option Value) : Prop where
  isi : mg "isinstance" = none
  int : mg "int" = none
  bool : mg "bool" = none
  len : mg "len" = none
  list : mg "list" = none
  max : mg "max" = none
  min : mg "min" = none
  sum : mg "sum" = none
  zip : mg "zip" = none
  range : mg "range" = none
  tuple : mg "tuple" = none
  enum : mg "enumerate" = none
  any : mg "any" = none
  all : mg "all" = none
  abs : mg "abs" = none
  divmod : mg "divmod" = none
  str : mg "str" = none
  repr : mg "repr" = none
  set : mg "set" = none
  sorted : mg "sorted" = none
/-- a def of the module by its name -/
structure Df (P : Program) (w : World) (K : PySem.W.Frag) (mg : Str → Option Value) (base : Heap) (x : Str) (ps : List Str) (k : Nat) (sp : Sp) : Prop where
  ex : ∃ f fd, mg x = some (.ref f) ∧ PySem.W.keepIn K (.ref f) = true ∧ Binds K fd ps [] ∧ FnOk P w K mg base CX0 k f fd ps sp
theorem pe_df {X : Cx} {x : Str} {ps : List Str} {k : Nat} {sp : Sp} {e : Expr} {es : List Expr} {t : TA} {p pos : Pos} (D : Df X.prog X.w X.K X.mg X.base x ps k sp) (hr : Room k X.A) (hg : Gl X x) (ha : PA X (e :: es) t)
    (hdb : (x == ("__debug__" : Str)) = false := by decide) (hst : starEach (e :: es) X.env = (false, eval e X.env) :: starEach es X.env := by rfl) (hpl : (backTo pos (starEach es X.env)).any (·.1) = false := by rfl) :
    PE X (.Call (.Name x p) (e :: es) [] pos) (tCall sp [] E0 t) := by
  obtain ⟨f, fd, hm, kp, b, F⟩ := D.ex
  exact pe_call F hr hg hm kp b .nil pass0 ha (hdb := hdb) (he := hst) (hpl := hpl)

section
variable {P : Program} {w : World} {K : PySem.W.Frag} {mg : Str → Option Value} {base : Heap}
/-! ### is_integer -/
def spIsInt : Sp := fun vs H Q _ => ∃ i : Int, vs = [.int i] ∧ Q (.bl true) H
theorem scIsInt : FnScope ["value"] ["value"] (defScope sIsInt) := ⟨rfl, rfl, rfl, by decide +kernel, rfl, by decide +kernel, by decide +kernel⟩
theorem ok_isInt {f : Addr} {fd : FuncData} (F : Fun K "is_integer" "is_integer" sIsInt f fd) (T : Bn mg) : FnOk P w K mg base CX0 1 f fd ["value"] spIsInt := by
  refine F.ok scIsInt (fun vs H Q E h => ?_) (fun cdv A outer s H vs Q E hr h => ?_)
  · obtain ⟨i, rfl, _⟩ := h
    rfl
  · obtain ⟨i, rfl, q⟩ := h
    refine ⟨_, pss_one (ps_ret (pe_and (pe_callB call_isi (by rfl) T.isi (by decide +kernel) (pa_cons (pv 0) (pa_cons (pe_bltn (v := .ty "int") (by rfl) T.int (by decide +kernel) rfl) pa_nil)))
      (pe_one (pe_not (pe_callB call_isi (by rfl) T.isi (by decide +kernel) (pa_cons (pv 0) (pa_cons (pe_bltn (v := .ty "bool") (by rfl) T.bool (by decide +kernel) rfl) pa_nil))))))), ?_⟩
    refine ⟨_, rfl, _, _, _, _, true, rfl, .ty "int", .base (.int i), kit_ty (by decide +kernel), true, rfl, iteT ?_⟩
    exact ⟨_, rfl, _, _, _, _, false, rfl, .ty "bool", .base (.int i), kit_ty (by decide +kernel), false, rfl, q⟩
/-! ### is_count -/
def spIsCount : Sp := fun vs H Q _ => ∃ i : Int, vs = [.int i] ∧ 0 ≤ i ∧ Q (.bl true) H
theorem scIsCount : FnScope ["value"] ["value"] (defScope sIsCount) := ⟨rfl, rfl, rfl, by decide +kernel, rfl, by decide +kernel, by decide +kernel⟩
theorem ok_isCount {f : Addr} {fd : FuncData} (F : Fun K "is_count" "is_count" sIsCount f fd) (DI : Df P w K mg base "is_integer" ["value"] 1 spIsInt) : FnOk P w K mg base CX0 2 f fd ["value"] spIsCount := by
  refine F.ok scIsCount (fun vs H Q E h => ?_) (fun cdv A outer s H vs Q E hr h => ?_)
  · obtain ⟨i, rfl, _⟩ := h
    rfl
  · obtain ⟨i, rfl, h0, q⟩ := h
    refine ⟨_, pss_one (ps_ret (pe_and (pe_df DI hr (by rfl) (pa_cons (pv 0) pa_nil)) (pe_one (pe_cmp (pc_ge (pv 0) pe_int) rfl)))), ?_⟩
    refine ⟨_, rfl, i, rfl, true, rfl, iteT ?_⟩
    refine ⟨_, rfl, _, _, rfl, rfl, ?_⟩
    show Q (V.bl (decide ((0 : Int) ≤ i))) H
    rw [decide_eq_true h0]
    exact q
/-! ### is_name, want_name -/
def letters : Str := "abcdefghijklmnopqrstuvwxyzABCDEFGHIJKLMNOPQRSTUVWXYZ"
def NameOk (z : Str) : Prop := 1 ≤ z.length ∧ z.length ≤ 8 ∧ ∀ c ∈ z.cps.toList, c ∈ letters.cps.toList
def spIsName : Sp := fun vs H Q _ => ∃ z : Str, vs = [.str z] ∧ NameOk z ∧ ∀ H', Same H H' → Q (.bl true) H'
/-- the module's own values -/
structure Cn (mg : Str → Option Value) : Prop where
  letters : ∃ t, mg "LETTERS" = some (.str letters t)
  longest : ∃ t, mg "LONGEST" = some (.int 8 t)
  most : ∃ t, mg "MOST_SLOTS" = some (.int 4 t)
theorem scIsName : FnScope ["value", "sign"] ["value"] (defScope sIsName) := ⟨rfl, rfl, rfl, by decide +kernel, rfl, by decide +kernel, by decide +kernel⟩
theorem ok_isName {f : Addr} {fd : FuncData} (F : Fun K "is_name" "is_name" sIsName f fd) (T : Bn mg) (N : Cn mg) : FnOk P w K mg base CX0 1 f fd ["value"] spIsName := by
  obtain ⟨tl, gl⟩ := N.letters
  obtain ⟨tm, gm⟩ := N.longest
  refine F.ok scIsName (fun vs H Q E h => ?_) (fun cdv A outer s H vs Q E hr h => ?_)
  · obtain ⟨z, rfl, _⟩ := h
    rfl
  · obtain ⟨z, rfl, ⟨z1, z2, zl⟩, q⟩ := h
    refine ⟨_, pss_one (ps_ret (pe_and (pe_callB call_isi (by rfl) T.isi (by decide +kernel) (pa_cons (pv 0) (pa_cons (pe_bltn (v := .ty "str") (by rfl) T.str (by decide +kernel) rfl) pa_nil)))
      (pe_and (pe_chain op_le op_le pe_int (pe_callB call_len_str (by rfl) T.len PySem.boot_len (pa_cons (pv 0) pa_nil)) (pe_glob (v := .int 8) (by rfl) gm ⟨_, rfl⟩))
      (pe_one (pe_callB (cr_all rfl) (by rfl) T.all (by decide +kernel) (pa_cons (pe_lc (own := [("sign", 1)]) (g := gName 1) (tt := tYes) (by rfl) scIsName.nd (pi_str (pv 0)) (blkOk_by (own := [("sign", 1)]) (N := ["value", "sign"]) (sc := defScope sIsName) (by decide +kernel))
        (fun _ _ _ _ _ => pg_name (i := 1) scIsName.nd rfl (Or.inl rfl)) (fun _ _ _ _ _ => pts_nil) (fun _ _ _ _ _ => pe_cmpR op_in_sign (pv 1) (pe_glob (v := .str letters) (by rfl) gl ⟨_, rfl⟩) rfl)) pa_nil)))))), ?_⟩
    refine ⟨_, rfl, _, _, _, _, true, rfl, .ty "str", .base (.str z), kit_ty (by decide +kernel), true, rfl, iteT ?_⟩
    have z3 : z.length ≤ sizeLine := Nat.le_trans z2 (by decide)
    refine ⟨_, rfl, z, rfl, z3, _, _, rfl, rfl, _, rfl, ?_⟩
    rw [decide_eq_true (show (1 : Int) ≤ (z.length : Nat) by omega)]
    refine ⟨_, _, rfl, rfl, ?_⟩
    refine ⟨true, congrArg V.bl (decide_eq_true (show ((z.length : Nat) : Int) ≤ 8 by omega)), iteT ?_⟩
    refine ⟨_, rfl, z, rfl, fun D hD => ?_⟩
    refine lc_new walk_str (fun i => if i < z.cps.size then some (.bl true) else none) (Nat.lt_of_le_of_lt z2 (by decide)) hD (fun _ _ => True.intro) ?_ ?_
    · rintro i x H1 _ hi s1 ⟨rfl, c, hc, rfl⟩ Kt Kn kt kn
      have hm : c ∈ letters.cps.toList := zl c (by rw [← Array.getElem?_toList] at hc; exact List.mem_of_getElem? hc)
      refine ⟨rfl, _, rfl, c, letters, rfl, rfl, kt _ _ ((if_pos hi).trans (congrArg (fun b => some (V.bl b)) (decide_eq_true hm).symm)) (Same.refl _)⟩
    · intro H1 s1 at_
      have e : kept (fun i => if i < z.cps.size then some (V.bl true) else none) z.cps.size = (List.replicate z.cps.size true).map V.bl := by
        rw [List.map_replicate]
        exact kept_const z.cps.size _
      refine ⟨D, List.replicate z.cps.size true, rfl, SqL.of (by rw [← e]; exact at_), ?_⟩
      rw [List.all_replicate_of]
      exact q H1 s1
end
end S16

/-! enumerate of a tuple; zip of a tuple and a list -/
namespace L2
open PySem PySem.Spec PyProof.Rows
/-- enumerate's object over the iterator at j -/
abbrev enumO (j : Addr) : Obj := { cls := .type "enumerate", data := .fields #[.none, .bool false, .ref j, rawInt 0, .none, .none] }
theorem enumMade {v : Value} {o : Obj} {Z : Heap → Prop} (B : Begins v o Z) :
    Meets (Builtin.«enumerate.__new__» ⟨[.type "enumerate", v], []⟩) (fun _ R s => Z s.heap ∧ R (.ok (.ret (.ref (s.heap.push o).objs.size))) { s with heap := (s.heap.push o).push (enumO s.heap.objs.size) }) := .of_wp fun P w A R s ⟨z, fin⟩ => by
  rcases s with ⟨hp, gs, dr, tk, os⟩
  have sub := sub_enumerate
  have begin_ : ∀ {A' : Around} {E : Value → Shared → Prop} {Q : Value → Shared → Prop}, Q (.ref hp.objs.size) ⟨hp.push o, gs, dr, tk, os⟩ → wpAny (model P w) A' (pyIter v) Q E ⟨hp, gs, dr, tk, os⟩ := fun q => B.iter P w _ _ ⟨hp, gs, dr, tk, os⟩ _ z q
  wp_walk using begin_
  refine wpAny_stack_any fun _ => wpAny_pure ?_
  split
  · rename_i c _ _ _ _ _
    cases (c == Value.type "enumerate") <;> (wp_walk using begin_; exact ⟨_, rfl, fin⟩)
  · wp_walk using begin_
    exact ⟨_, rfl, fin⟩
section
variable {P : Program} {w : World} {A : Around} {E : Value → Shared → Prop} {s : Shared}
/-- enumerate(t), t a tuple: the two new objects -/
theorem call_enumT {t : Addr} {items : Array Value} {Q : Value → Shared → Prop} (isT : s.heap.IsTuple t items)
    (fin : ∀ h', IsEnum h' (s.heap.objs.size + 1) s.heap.objs.size 0 .none → h'.IsTupleIter s.heap.objs.size t 0 → (∀ b o, s.heap.get? b = some o → h'.get? b = some o) → Q (.ref (s.heap.objs.size + 1)) { s with heap := h' }) :
    wpAny (model P w) A (call (.type "enumerate") [.ref t]) Q E s := by
  have grow := Heap.size_push s.heap { cls := .type "tuple_iterator", data := .fields #[.ref t, .int 0 0] }
  have top := Heap.get?_push_size (s.heap.push { cls := .type "tuple_iterator", data := .fields #[.ref t, .int 0 0] }) (o := enumO s.heap.objs.size) rfl
  rw [grow] at top
  refine callType_new F.called_enumerate (by decide) (F.typeCall_enumerate_1 _) (F.newCall_enumerate_1 _) (fun obj => F.args_object_init_2 obj _) F.entry_enumerate_new (enumMade (begins_tuple t items)) ⟨isT, ?_⟩
  show _ ∧ _
  rw [grow]
  exact ⟨⟨_, top, rfl⟩, fin _ top ⟨_, Heap.get?_push_of_some _ (Heap.get?_push_size _ rfl), rfl, rfl⟩ fun b o x => Heap.get?_push_of_some _ (Heap.get?_push_of_some _ x)⟩
end
/-- the tuple at a, each item in a new pair with its place -/
def IteT (K : PySem.W.Frag) (a : Addr) : It where
  go := fun i H => ∃ (xs : List V) (x : V), SqT K H a xs ∧ xs[i]? = some x
  yld := fun i H v H' => ∃ T x, v = .ref T ∧ H T = none ∧ H' = upd H T (.tup [.int (i : Nat), x]) ∧ ∀ xs, SqT K H a xs → xs[i]? = some x
  stop := fun i H => ∃ xs : List V, SqT K H a xs ∧ xs.length = i
theorem turn_enumT {P : Program} {w : World} {K : PySem.W.Frag} {elts : List Expr} {kk : Nat} {tpos : Pos} (a e it : Addr) (apart : a ≠ it) (apart2 : e ≠ a) :
    Turn P w K (.Tuple elts kk tpos) (IteT K a) [e, it] e (fun i h => (∃ old, IsEnum h e it ((i : Nat) : Int) old) ∧ h.IsTupleIter it a i ∧ e ≠ it) := by
  constructor
  case mem => exact List.mem_cons_self
  case obj =>
    rintro i h ⟨⟨old, he⟩, ⟨o, ho, _, hd⟩, _⟩ b hb
    rcases List.mem_cons.mp hb with rfl | hb
    · exact ⟨_, he, fun v q => by cases q⟩
    · obtain rfl := List.mem_singleton.mp hb
      exact ⟨o, ho, fun v q => by rw [hd] at q; cases q⟩
  case keep =>
    rintro i h h' ⟨⟨old, he⟩, hi, ne⟩ k
    exact ⟨⟨old, k e List.mem_cons_self _ he⟩, hi.at fun o q => k it (List.mem_cons_of_mem _ (List.mem_singleton.mpr rfl)) o q, ne⟩
  case item =>
    rintro X rfl rfl rfl calm i pins s σ H E I free ⟨⟨old, he⟩, hit, ne⟩ ⟨xs, x, hq, hx⟩
    obtain ⟨its, rv, isT, _⟩ := I.tuple hq
    obtain ⟨u, hu, ru⟩ := rv.get hx
    have in_ : i < its.toArray.size := by
      rw [List.size_toArray]
      exact (List.getElem?_eq_some_iff.mp hu).1
    have D := Draws.tuple (prog := X.prog) (w := X.w) (A := X.A.in1) (I.ok.hd calm) it a apart its.toArray
    have e1 : e < s.heap.objs.size := Heap.lt_size he
    have i1 : it < s.heap.objs.size := by obtain ⟨_, q, _⟩ := hit; exact Heap.lt_size q
    refine wpAny_pyNext_enum_itemD D he ⟨hit, isT⟩ in_ ne (by simp [ne, apart2]) fun y h' tk hy out hst' hT hsz keep => ?_
    obtain rfl : u = y := by
      rw [List.getElem?_toArray, hu] at hy
      exact Option.some.inj hy
    refine ⟨_, rfl, wpAny_letOwnedTupleGo_enum (s := { s with heap := h', toks := tk + 1 }) out fun h2 he2 but => ?_⟩
    have at_ : h2.get? s.heap.objs.size = some { cls := .type "tuple", data := .seq #[.int i tk, u] } := (but.2 _ (Nat.ne_of_gt e1)).trans hT
    have new : ObjOk X.prog X.w (upd H s.heap.objs.size (.tup [.int (i : Nat), x])) h2 s.heap.objs.size (.tup [.int (i : Nat), x]) := ⟨by show 2 ≤ sizeLine; decide, _, .cons ⟨_, rfl⟩ (.cons ru .nil), ⟨_, at_, rfl, _, rfl⟩⟩
    have not : ∀ b, b ∉ [e, it] → b ≠ e ∧ b ≠ it := fun b hb => ⟨fun z => hb (by rw [z]; exact List.mem_cons_self), fun z => hb (by rw [z]; exact List.mem_cons_of_mem _ (List.mem_singleton.mpr rfl))⟩
    have J : Inv X pins σ (upd H s.heap.objs.size (.tup [.int (i : Nat), x])) { s with heap := h2, toks := tk + 1 } :=
      I.turnedNew (ch := [e, it]) (fun b ob hb q => (but.2 b (not b hb).1).trans (keep b ob (not b hb).1 (not b hb).2 q)) free (Nat.le_refl _) new
    refine ⟨.ref s.heap.objs.size, _, J, rfl, ⟨_, x, rfl, I.hok.fresh (Nat.le_refl _), rfl, fun ys hy => I.tuple_inj hq hy ▸ hx⟩, ⟨⟨u, ?_⟩, hst'.1.at fun o q => (but.2 it (Ne.symm ne)).trans q, ne⟩, fun b hb => ?_⟩
    · rw [show ((i + 1 : Nat) : Int) = (i : Int) + 1 by omega]
      exact he2
    · have lt : b < s.heap.objs.size := by
        rcases List.mem_cons.mp hb with rfl | hb
        · exact e1
        · exact List.mem_singleton.mp hb ▸ i1
      rw [upd_ne (Nat.ne_of_lt lt)]
      exact (free b hb).1
  case done =>
    rintro X rfl rfl rfl calm i pins s σ H E I free ⟨⟨old, he⟩, hit, ne⟩ ⟨xs, hq, rfl⟩
    obtain ⟨its, rv, isT, _⟩ := I.tuple hq
    have D := Draws.tuple (prog := X.prog) (w := X.w) (A := X.A.in1) (I.ok.hd calm) it a apart its.toArray
    have many : xs.length = its.toArray.size := by rw [List.size_toArray, rv.length]
    rw [many] at hit
    obtain ⟨f0, f1, f2, f3, f4, f5⟩ := free it (List.mem_cons_of_mem _ (List.mem_singleton.mpr rfl))
    exact wpAny_pyNext_enum_endD D he ⟨hit, isT⟩ fun h' eb => ⟨rfl, I.turned (t' := s.toks) (fun b o hb q => eb b o hb q) f0 f1 f3 f4 f5⟩
  case self =>
    rintro A i s Q E ⟨⟨_, he⟩, _⟩ h
    exact wpAny_pyIter_enum he h
def iEnumT (K : PySem.W.Frag) (ta : TA) : TI := fun σ H R => ta σ H fun vs H1 => ∃ a xs, vs = [.ref a] ∧ SqT K H1 a xs ∧ R (IteT K a) H1
theorem pi_enumT {X : Cx} {e : Expr} {ta : TA} {p pos tpos : Pos} {elts : List Expr} {kk : Nat} (hg : Gl X "enumerate") (hm : X.mg "enumerate" = none) (ha : PA X [e] ta) (hs : starEach [e] X.env = [(false, eval e X.env)] := by rfl) :
    PI X (.Tuple elts kk tpos) (.Call (.Name "enumerate" p) [e] [] pos) (iEnumT X.K ta) := ⟨fun pins s σ H R I h => by
  refine Call_ (ld_blt I hg hm boot_enumerate (PyProof.Rows.callWith_type1 (thn (ha.run pos pins s σ H _ I h) ?_) hs rfl))
  rintro us s1 ⟨vs, H1, I1, r1, a, xs, rfl, hq, q⟩
  rw [Vals.ref1 r1]
  obtain ⟨its, _, isT, _⟩ := I1.tuple hq
  have lt : a < s1.heap.objs.size := by obtain ⟨_, z, _⟩ := isT; exact Heap.lt_size z
  refine call_enumT isT fun h' he hit keep => wpAny_pyIter_enum he ?_
  refine ⟨s1.heap.objs.size + 1, [s1.heap.objs.size + 1, s1.heap.objs.size], _, _, H1, rfl, I1.kept (t' := s1.toks) keep, turn_enumT a (s1.heap.objs.size + 1) s1.heap.objs.size (Nat.ne_of_lt lt) (Nat.ne_of_gt (Nat.lt_succ_of_lt lt)), ⟨⟨.none, he⟩, hit, Nat.succ_ne_self _⟩, fun b hb => ?_, q⟩
  have le : s1.heap.objs.size ≤ b := by
    rcases List.mem_cons.mp hb with rfl | hb
    · exact Nat.le_succ _
    · exact Nat.le_of_eq (List.mem_singleton.mp hb).symm
  exact I1.fpOk le (I1.hok.fresh le)⟩
theorem walk_enumT {K : PySem.W.Frag} {a : Addr} {xs : List V} : Walk (IteT K a) xs.length (fun H => SqT K H a xs) (YPair (fun i => some (.int (i : Nat))) (fun i => xs[i]?)) where
  goes := fun i _ hi q => ⟨xs, xs[i], q, List.getElem?_eq_getElem hi⟩
  stops := fun _ q => ⟨xs, q, rfl⟩
  yields := fun i H v H' _ q ⟨T, x, h1, h2, h3, h4⟩ => ⟨T, .int (i : Nat), x, h1, h2, h3, rfl, h4 xs q⟩

/-! ### zip(t, xs): t a tuple, xs a list -/
def ItzM (K : PySem.W.Frag) (a b : Addr) : It where
  go := fun i H => ∃ (xs ys : List V) (x y : V), SqT K H a xs ∧ SqL K H b ys ∧ xs[i]? = some x ∧ ys[i]? = some y
  yld := fun i H v H' => ∃ T x y, v = .ref T ∧ H T = none ∧ H' = upd H T (.tup [x, y]) ∧ (∀ xs, SqT K H a xs → xs[i]? = some x) ∧ ∀ ys, SqL K H b ys → ys[i]? = some y
  stop := fun i H => ∃ xs ys : List V, SqT K H a xs ∧ SqL K H b ys ∧ xs.length = i ∧ ys.length = i
abbrev zipCells (N : Addr) : List Addr := [N + 4, N + 2, N + 3, N, N + 1]
theorem zipNums (N : Nat) : N + 2 ≠ N + 4 ∧ N + 2 ≠ N + 3 ∧ N + 2 ≠ N ∧ N + 2 ≠ N + 1 ∧ N + 3 ≠ N + 4 ∧ N ≠ N + 4 ∧ N + 1 ≠ N + 4 := by omega
theorem turn_zipM {P : Program} {w : World} {K : PySem.W.Frag} {elts : List Expr} {kk : Nat} {tpos : Pos} {a b N : Addr} (la : a < N) (lb : b < N) :
    Turn P w K (.Tuple elts kk tpos) (ItzM K a b) (zipCells N) (N + 4) (fun i h => IsZip h (N + 4) (N + 2) (N + 3) .none ∧ IsTupOf2 h (N + 2) (.ref N) (.ref (N + 1)) ∧ (∃ x y, IsTupOf2 h (N + 3) x y) ∧ h.IsTupleIter N a i ∧ h.IsListIter (N + 1) b i) := by
  have any_ : ∀ {Z : Addr → Prop}, Z (N + 4) → Z (N + 2) → Z (N + 3) → Z N → Z (N + 1) → ∀ c ∈ zipCells N, Z c := by
    intro Z z1 z2 z3 z4 z5 c hc
    simp only [zipCells, List.mem_cons, List.not_mem_nil, or_false] at hc
    rcases hc with rfl | rfl | rfl | rfl | rfl <;> assumption
  have mem_ : N + 4 ∈ zipCells N ∧ N + 2 ∈ zipCells N ∧ N + 3 ∈ zipCells N ∧ N ∈ zipCells N ∧ N + 1 ∈ zipCells N := by simp [zipCells]
  obtain ⟨m1, m2, m3, m4, m5⟩ := mem_
  have sep : ZipSep2 (N + 4) (N + 2) (N + 3) N (N + 1) [N, a] [N + 1, b] := zip_sep2 (fun c hc => List.mem_singleton.mp hc ▸ la) (fun c hc => List.mem_singleton.mp hc ▸ lb)
  constructor
  case mem => exact m1
  case obj =>
    rintro i h ⟨hz, hT, ⟨x, y, hO⟩, ⟨o1, e1, _, d1⟩, ⟨o2, e2, _, d2⟩⟩
    exact any_ ⟨_, hz, fun v q => by cases q⟩ ⟨_, hT, fun v q => by cases q⟩ ⟨_, hO, fun v q => by cases q⟩ ⟨o1, e1, fun v q => by rw [d1] at q; cases q⟩ ⟨o2, e2, fun v q => by rw [d2] at q; cases q⟩
  case keep =>
    rintro i h h' ⟨hz, hT, ⟨x, y, hO⟩, h1, h2⟩ k
    exact ⟨k _ m1 _ hz, k _ m2 _ hT, ⟨x, y, k _ m3 _ hO⟩, h1.at fun o q => k _ m4 o q, h2.at fun o q => k _ m5 o q⟩
  case item =>
    rintro X rfl rfl rfl calm i pins s σ H E I free ⟨hz, hT, ⟨x0, y0, hO⟩, h1, h2⟩ ⟨xs, ys, x, y, hqx, hqy, hx, hy⟩
    obtain ⟨its, rv, isT, _⟩ := I.tuple hqx
    obtain ⟨its2, rv2, isL, _⟩ := I.list hqy
    obtain ⟨u, hu, ru⟩ := rv.get hx
    obtain ⟨u2, hu2, ru2⟩ := rv2.get hy
    have in1 : i < its.toArray.size := by
      rw [List.size_toArray]
      exact (List.getElem?_eq_some_iff.mp hu).1
    have in2 : i < its2.toArray.size := by
      rw [List.size_toArray]
      exact (List.getElem?_eq_some_iff.mp hu2).1
    have D1 := Draws.tuple (prog := X.prog) (w := X.w) (A := X.A.in1) (I.ok.hd calm) N a (Nat.ne_of_lt la) its.toArray
    have D2 := Draws.list (prog := X.prog) (w := X.w) (A := X.A.in1) (I.ok.hd calm) (N + 1) b (Nat.ne_of_lt (Nat.lt_succ_of_lt lb)) its2.toArray
    have lt := any_ (Z := fun c => c < s.heap.objs.size) (Heap.lt_size hz) (Heap.lt_size hT) (Heap.lt_size hO) (let ⟨_, q, _⟩ := h1; Heap.lt_size q) (let ⟨_, q, _⟩ := h2; Heap.lt_size q)
    refine wpAny_pyNext_zipD2_item sep D1 D2 hz hT hO ⟨h1, isT⟩ ⟨h2, isL.isList⟩ in1 in2 fun v1 v2 h' tk e1 e2 z' O' s1' s2' at1 hsz keep => ?_
    obtain rfl : u = v1 := by
      rw [List.getElem?_toArray, hu] at e1
      exact Option.some.inj e1
    obtain rfl : u2 = v2 := by
      rw [List.getElem?_toArray, hu2] at e2
      exact Option.some.inj e2
    refine ⟨_, rfl, wpAny_letOwnedTupleGo_zip (s := { s with heap := h', toks := tk }) z' fun h3 z3 but => ?_⟩
    have at_ : h3.get? s.heap.objs.size = some { cls := .type "tuple", data := .seq #[u, u2] } := (but.2 _ (Nat.ne_of_gt (lt _ m1))).trans at1
    have new : ObjOk X.prog X.w (upd H s.heap.objs.size (.tup [x, y])) h3 s.heap.objs.size (.tup [x, y]) := ⟨by show 2 ≤ sizeLine; decide, _, .cons ru (.cons ru2 .nil), ⟨_, at_, rfl, _, rfl⟩⟩
    have not : ∀ c, c ∉ zipCells N → c ≠ N + 4 ∧ c ≠ N + 3 ∧ c ≠ N ∧ c ≠ N + 1 := fun c hc => ⟨fun z => hc (z ▸ m1), fun z => hc (z ▸ m3), fun z => hc (z ▸ m4), fun z => hc (z ▸ m5)⟩
    have J : Inv X pins σ (upd H s.heap.objs.size (.tup [x, y])) { s with heap := h3, toks := tk } :=
      I.turnedNew (ch := zipCells N) (fun c ob hc q => (but.2 c (not c hc).1).trans (keep c ob (not c hc).1 (not c hc).2.1 (not c hc).2.2.1 (not c hc).2.2.2 q)) free (Nat.le_refl _) new
    obtain ⟨a1, a2, a3, a4, a5, a6, a7⟩ := zipNums N
    refine ⟨.ref s.heap.objs.size, _, J, rfl, ⟨_, x, y, rfl, I.hok.fresh (Nat.le_refl _), rfl, fun l hl => I.tuple_inj hqx hl ▸ hx, fun l hl => I.list_inj hqy hl ▸ hy⟩,
      ⟨z3, (but.2 _ a1).trans (keep _ _ a1 a2 a3 a4 hT), ⟨u, u2, (but.2 _ a5).trans O'⟩, s1'.1.at fun o q => (but.2 _ a6).trans q, s2'.1.at fun o q => (but.2 _ a7).trans q⟩, fun c hc => ?_⟩
    rw [upd_ne (Nat.ne_of_lt (lt c hc))]
    exact (free c hc).1
  case done =>
    rintro X rfl rfl rfl calm i pins s σ H E I free ⟨hz, hT, ⟨x0, y0, hO⟩, h1, h2⟩ ⟨xs, ys, hqx, hqy, l1, l2⟩
    obtain ⟨its, rv, isT, _⟩ := I.tuple hqx
    obtain ⟨its2, rv2, isL, _⟩ := I.list hqy
    have D1 := Draws.tuple (prog := X.prog) (w := X.w) (A := X.A.in1) (I.ok.hd calm) N a (Nat.ne_of_lt la) its.toArray
    have D2 := Draws.list (prog := X.prog) (w := X.w) (A := X.A.in1) (I.ok.hd calm) (N + 1) b (Nat.ne_of_lt (Nat.lt_succ_of_lt lb)) its2.toArray
    have n1 : i = its.toArray.size := by rw [List.size_toArray, ← rv.length, l1]
    have n2 : i = its2.toArray.size := by rw [List.size_toArray, ← rv2.length, l2]
    exact wpAny_pyNext_zipD2_end sep D1 D2 hz hT hO ⟨h1, isT⟩ ⟨h2, isL.isList⟩ (Nat.le_of_eq n1) (Nat.le_of_eq n2) (.inl n1) fun h' tk keep => ⟨rfl, I.turnedL (t' := tk) (ch := zipCells N) (fun c o hc q =>
      keep c o (fun z => hc (z ▸ m1)) (fun z => hc (z ▸ m3)) (fun z => hc (z ▸ m4)) (fun z => hc (z ▸ m5)) q) free⟩
  case self =>
    rintro A i s Q E ⟨hz, _⟩ h
    exact wpAny_pyIter_zip hz h
def iZipM (K : PySem.W.Frag) (ta : TA) : TI := fun σ H R => ta σ H fun vs H1 => ∃ a b xs ys, vs = [.ref a, .ref b] ∧ SqT K H1 a xs ∧ SqL K H1 b ys ∧ R (ItzM K a b) H1
theorem pi_zipM {X : Cx} {e e2 : Expr} {ta : TA} {p pos tpos : Pos} {elts : List Expr} {kk : Nat} (hg : Gl X "zip") (hm : X.mg "zip" = none) (ha : PA X [e, e2] ta)
    (hs : starEach [e, e2] X.env = (false, eval e X.env) :: starEach [e2] X.env := by rfl) (hpl : (backTo pos (starEach [e2] X.env)).any (·.1) = false := by rfl) :
    PI X (.Tuple elts kk tpos) (.Call (.Name "zip" p) [e, e2] [] pos) (iZipM X.K ta) := ⟨fun pins s σ H R I h => by
  refine Call_ (ld_blt I hg hm PyProof.Rows.boot_zip (PyProof.Rows.callWith_type1 (thn (ha.run pos pins s σ H _ I h) ?_) hs hpl))
  rintro us s1 ⟨vs, H1, I1, r1, a, b, xs, ys, rfl, hqx, hqy, q⟩
  obtain ⟨v1, v2, rfl, rfl, rfl⟩ := vals2 r1
  obtain ⟨its, _, isT, _⟩ := I1.tuple hqx
  obtain ⟨its2, _, isL, _⟩ := I1.list hqy
  have la : a < s1.heap.objs.size := by obtain ⟨_, z, _⟩ := isT; exact Heap.lt_size z
  refine zip_begins2 (begins_tuple a its.toArray) (begins_list b its2.toArray) isT isL.isList fun h' hz hT hO g1 g2 _ keep => wpAny_pyIter_zip hz ?_
  refine ⟨s1.heap.objs.size + 4, zipCells s1.heap.objs.size, _, _, H1, rfl, I1.kept (t' := s1.toks) keep, turn_zipM la isL.lt, ⟨hz, hT, ⟨_, _, hO⟩, ⟨_, g1, rfl, rfl⟩, ⟨_, g2, rfl, rfl⟩⟩, fun c hc => ?_, q⟩
  have le : s1.heap.objs.size ≤ c := by
    simp only [zipCells, List.mem_cons, List.not_mem_nil, or_false] at hc
    have e : c = s1.heap.objs.size + 4 ∨ c = s1.heap.objs.size + 2 ∨ c = s1.heap.objs.size + 3 ∨ c = s1.heap.objs.size ∨ c = s1.heap.objs.size + 1 := hc
    clear hc hz hT hO g1 g2
    unfold Addr at *
    omega
  exact I1.fpOk le (I1.hok.fresh le)⟩
theorem walk_zipM {K : PySem.W.Frag} {a b : Addr} {xs ys : List V} {n : Nat} (hx : xs.length = n) (hy : ys.length = n) : Walk (ItzM K a b) n (fun H => SqT K H a xs ∧ SqL K H b ys) (YPair (fun i => xs[i]?) (fun i => ys[i]?)) where
  goes := fun i _ hi q => ⟨xs, ys, xs[i], ys[i], q.1, q.2, List.getElem?_eq_getElem (hx ▸ hi), List.getElem?_eq_getElem (hy ▸ hi)⟩
  stops := fun _ q => ⟨xs, ys, q.1, q.2, hx, hy⟩
  yields := fun i H v H' _ q ⟨T, x, y, h1, h2, h3, h4, h5⟩ => ⟨T, x, y, h1, h2, h3, h4 xs q.1, h5 ys q.2⟩
end L2

/-! turns, and what they lead to: plain mathematics -/
namespace GM
abbrev Turn := List Int × Int
def mv (ns o : List Int) : List Int := o.map fun i => ns.getD i.toNat 0
def idn (n : Nat) : List Int := (List.range n).map fun i => ((i : Nat) : Int)
def Sgn (s : Int) : Prop := s = 1 ∨ s = -1
theorem Sgn.mul {s g : Int} (a : Sgn s) (b : Sgn g) : Sgn (s * g) := by
  rcases a with rfl | rfl <;> rcases b with rfl | rfl <;> simp [Sgn]
theorem idn_len (n : Nat) : (idn n).length = n := by unfold idn; rw [List.length_map, List.length_range]
theorem mem_idn {n : Nat} {i : Int} : i ∈ idn n ↔ 0 ≤ i ∧ i < n := by
  unfold idn
  rw [List.mem_map]
  constructor
  · rintro ⟨j, hj, rfl⟩
    have := List.mem_range.mp hj
    omega
  · intro h
    exact ⟨i.toNat, List.mem_range.mpr (by omega), by omega⟩
theorem idn_nodup (n : Nat) : (idn n).Nodup := by
  unfold idn
  rw [List.nodup_iff_pairwise_ne, List.pairwise_map]
  exact List.Pairwise.imp (fun h => by omega) (List.pairwise_lt_range (n := n))
theorem mv_idn (o : List Int) : mv o (idn o.length) = o := by
  unfold mv idn
  rw [List.map_map]
  apply List.ext_getElem
  · rw [List.length_map, List.length_range]
  · intro i h1 h2
    rw [List.getElem_map, List.getElem_range]
    show o.getD ((i : Nat) : Int).toNat 0 = _
    rw [Int.toNat_natCast, List.getD_eq_getElem?_getD, List.getElem?_eq_getElem h2] <;> rfl
theorem mv_perm {n : Nat} {o t : List Int} (ho : o.Perm (idn n)) (ht : t.Perm (idn n)) : (mv o t).Perm (idn n) := by
  have h : (mv o t).Perm (mv o (idn n)) := ht.map _
  have l : o.length = n := by rw [ho.length_eq, idn_len]
  have e := mv_idn o
  rw [l] at e
  rw [e] at h
  exact h.trans ho
/-- what the turns T lead to from the identity -/
inductive Reach (n : Nat) (T : List Turn) : List Int → Int → Prop
  | one : Reach n T (idn n) 1
  | step {o : List Int} {s : Int} {t : Turn} : Reach n T o s → t ∈ T → Reach n T (mv o t.1) (s * t.2)
/-- turns of n slots -/
def Are (n : Nat) (T : List Turn) : Prop := ∀ t ∈ T, t.1.Perm (idn n) ∧ Sgn t.2
theorem Reach.are {n : Nat} {T : List Turn} (h : Are n T) {o : List Int} {s : Int} (r : Reach n T o s) : o.Perm (idn n) ∧ Sgn s := by
  induction r with
  | one => exact ⟨List.Perm.refl _, .inl rfl⟩
  | step r m ih => exact ⟨mv_perm ih.1 (h _ m).1, ih.2.mul (h _ m).2⟩
/-- each order has one sign -/
def Single (n : Nat) (T : List Turn) : Prop := ∀ o s s', Reach n T o s → Reach n T o s' → s = s'
/-- L lists the group -/
def Lists (n : Nat) (T L : List Turn) : Prop := ∀ p : Turn, p ∈ L ↔ Reach n T p.1 p.2
theorem keys_nodup {L : List Turn} (h : (L.map Prod.fst).Nodup) {o : List Int} {s s' : Int} (a : (o, s) ∈ L) (b : (o, s') ∈ L) : s = s' := by
  induction L with
  | nil => cases a
  | cons p L ih =>
    rw [List.map_cons, List.nodup_cons] at h
    rcases List.mem_cons.mp a with e | a'
    · rcases List.mem_cons.mp b with e' | b'
      · exact congrArg Prod.snd (e.trans e'.symm)
      · exact absurd (by rw [← e]; exact List.mem_map.mpr ⟨_, b', rfl⟩) h.1
    · rcases List.mem_cons.mp b with e' | b'
      · exact absurd (by rw [← e']; exact List.mem_map.mpr ⟨_, a', rfl⟩) h.1
      · exact ih h.2 a' b'
/-- the search: L found (in the order found), W waiting -/
structure Srch (n : Nat) (T L : List Turn) (W : List (List Int)) : Prop where
  nd : (L.map Prod.fst).Nodup
  ok : ∀ p ∈ L, Reach n T p.1 p.2
  one : (idn n, 1) ∈ L
  wait : ∀ o ∈ W, o ∈ L.map Prod.fst
  done : ∀ p ∈ L, p.1 ∉ W → ∀ t ∈ T, (mv p.1 t.1, p.2 * t.2) ∈ L
theorem Srch.lists {n : Nat} {T L : List Turn} (h : Srch n T L []) : Lists n T L := fun p => by
  refine ⟨h.ok p, fun r => ?_⟩
  obtain ⟨o, s⟩ := p
  show (o, s) ∈ L
  replace r : Reach n T o s := r
  induction r with
  | one => exact h.one
  | step r m ih => exact h.done _ ih (fun z => by cases z) _ m
theorem Srch.single {n : Nat} {T L : List Turn} (h : Srch n T L []) : Single n T := fun o s s' a b => keys_nodup h.nd ((h.lists (o, s)).mpr a) ((h.lists (o, s')).mpr b)
theorem Srch.start {n : Nat} {T : List Turn} : Srch n T [(idn n, 1)] [idn n] := by
  refine ⟨by simp, fun p m => ?_, List.mem_cons_self, fun o m => ?_, fun p m z => ?_⟩
  · rw [List.mem_singleton.mp m]
    exact .one
  · rw [List.mem_singleton.mp m]
    exact List.mem_cons_self
  · rw [List.mem_singleton.mp m] at z
    exact absurd List.mem_cons_self z
/-- within a turn of the search: here was taken out, the first i turns are done -/
structure Mid (n : Nat) (T L : List Turn) (W : List (List Int)) (here : List Int) (s : Int) (i : Nat) : Prop where
  nd : (L.map Prod.fst).Nodup
  ok : ∀ p ∈ L, Reach n T p.1 p.2
  one : (idn n, 1) ∈ L
  wait : ∀ o ∈ W, o ∈ L.map Prod.fst
  at_ : (here, s) ∈ L
  done : ∀ p ∈ L, p.1 ∉ W → p.1 ≠ here → ∀ t ∈ T, (mv p.1 t.1, p.2 * t.2) ∈ L
  part : here ∉ W → ∀ t ∈ T.take i, (mv here t.1, s * t.2) ∈ L
theorem Srch.pop {n : Nat} {T L : List Turn} {W : List (List Int)} {here : List Int} (h : Srch n T L (W ++ [here])) : ∃ s, Mid n T L W here s 0 := by
  obtain ⟨p, hp, e⟩ := List.mem_map.mp (h.wait here (by simp))
  obtain ⟨o, s⟩ := p
  obtain rfl : o = here := e
  refine ⟨s, h.nd, h.ok, h.one, fun o m => h.wait o (List.mem_append_left _ m), hp, fun p m z ne => h.done p m fun q => ?_, fun _ t m => by cases m⟩
  rcases List.mem_append.mp q with q | q
  · exact z q
  · exact ne (List.mem_singleton.mp q)
theorem Mid.finish {n : Nat} {T L : List Turn} {W : List (List Int)} {here : List Int} {s : Int} (h : Mid n T L W here s T.length) : Srch n T L W := by
  refine ⟨h.nd, h.ok, h.one, h.wait, fun p m z t mt => ?_⟩
  by_cases e : p.1 = here
  · have e2 : p.2 = s := keys_nodup h.nd (o := here) (by rw [← e]; exact m) h.at_
    rw [e, e2]
    exact h.part (by rw [← e]; exact z) t (by rw [List.take_length]; exact mt)
  · exact h.done p m z e t mt
/-- a new order -/
theorem Mid.add {n : Nat} {T L : List Turn} {W : List (List Int)} {here : List Int} {s : Int} {i : Nat} {t : Turn} (h : Mid n T L W here s i) (ht : T[i]? = some t) (new : mv here t.1 ∉ L.map Prod.fst) :
    Mid n T (L ++ [(mv here t.1, s * t.2)]) (W ++ [mv here t.1]) here s (i + 1) := by
  have r : Reach n T (mv here t.1) (s * t.2) := .step (h.ok _ h.at_) (List.mem_of_getElem? ht)
  refine ⟨?_, fun p m => ?_, List.mem_append_left _ h.one, fun o m => ?_, List.mem_append_left _ h.at_, fun p m z ne u mu => ?_, fun z u mu => ?_⟩
  · rw [List.map_append, List.nodup_append]
    refine ⟨h.nd, by simp, fun a ha b hb => ?_⟩
    rw [List.map_singleton, List.mem_singleton] at hb
    rw [hb]
    rintro rfl
    exact new ha
  · rcases List.mem_append.mp m with m | m
    · exact h.ok p m
    · rw [List.mem_singleton.mp m]
      exact r
  · rw [List.map_append, List.mem_append]
    rcases List.mem_append.mp m with m | m
    · exact .inl (h.wait o m)
    · exact .inr (by rw [List.mem_singleton.mp m]; exact List.mem_cons_self)
  · rcases List.mem_append.mp m with m | m
    · exact List.mem_append_left _ (h.done p m (fun q => z (List.mem_append_left _ q)) ne u mu)
    · rw [List.mem_singleton.mp m] at z
      exact absurd (List.mem_append_right _ List.mem_cons_self) z
  · rw [List.take_add_one, ht] at mu
    rcases List.mem_append.mp mu with mu | mu
    · exact List.mem_append_left _ (h.part (fun q => z (List.mem_append_left _ q)) u mu)
    · rw [List.mem_singleton.mp (show u ∈ [t] from mu)]
      exact List.mem_append_right _ List.mem_cons_self
/-- an order that stands already, with the same sign -/
theorem Mid.keep {n : Nat} {T L : List Turn} {W : List (List Int)} {here : List Int} {s : Int} {i : Nat} {t : Turn} (h : Mid n T L W here s i) (ht : T[i]? = some t) (old : (mv here t.1, s * t.2) ∈ L) : Mid n T L W here s (i + 1) :=
  ⟨h.nd, h.ok, h.one, h.wait, h.at_, h.done, fun z u mu => by
    rw [List.take_add_one, ht] at mu
    rcases List.mem_append.mp mu with mu | mu
    · exact h.part z u mu
    · rw [List.mem_singleton.mp (show u ∈ [t] from mu)]
      exact old⟩
/-- .. with another sign -/
theorem Mid.clash {n : Nat} {T L : List Turn} {W : List (List Int)} {here : List Int} {s g : Int} {i : Nat} {t : Turn} (h : Mid n T L W here s i) (ht : T[i]? = some t) (old : (mv here t.1, g) ∈ L) (ne : g ≠ s * t.2) : ¬ Single n T :=
  fun z => ne (z _ _ _ (h.ok _ old) (.step (h.ok _ h.at_) (List.mem_of_getElem? ht)))
/-! ### few orders -/
def words (m : Nat) : Nat → List (List Int)
  | 0 => [[]]
  | k + 1 => (idn m).flatMap fun a => (words m k).map (a :: ·)
theorem mem_words {m : Nat} : ∀ {o : List Int}, (∀ i ∈ o, i ∈ idn m) → o ∈ words m o.length
  | [], _ => List.mem_cons_self
  | a :: o, h => by
    show a :: o ∈ (idn m).flatMap fun a => (words m o.length).map (a :: ·)
    exact List.mem_flatMap.mpr ⟨a, h a List.mem_cons_self, List.mem_map.mpr ⟨o, mem_words fun i q => h i (List.mem_cons_of_mem _ q), rfl⟩⟩
def orders (n : Nat) : List (List Int) := (words n n).filter fun o => decide o.Nodup
theorem mem_orders {n : Nat} {o : List Int} (h : o.Perm (idn n)) : o ∈ orders n := by
  have l : o.length = n := by rw [h.length_eq, idn_len]
  have z : o ∈ words n o.length := mem_words fun i q => h.mem_iff.mp q
  rw [l] at z
  exact List.mem_filter.mpr ⟨z, decide_eq_true (h.nodup_iff.mpr (idn_nodup n))⟩
theorem orders_few {n : Nat} (h : n ≤ 4) : (orders n).length ≤ 24 := by
  match n, h with
  | 0, _ => decide +kernel
  | 1, _ => decide +kernel
  | 2, _ => decide +kernel
  | 3, _ => decide +kernel
  | 4, _ => decide +kernel
theorem nodup_few {α : Type} [DecidableEq α] : ∀ (l D : List α), l.Nodup → (∀ x ∈ l, x ∈ D) → l.length ≤ D.length
  | [], _, _, _ => Nat.zero_le _
  | x :: l, D, nd, h => by
    rw [List.nodup_cons] at nd
    have m := h x List.mem_cons_self
    have z := nodup_few l (D.erase x) nd.2 fun y hy => (List.mem_erase_of_ne (fun (e : y = x) => nd.1 (by rw [← e]; exact hy))).mpr (h y (List.mem_cons_of_mem _ hy))
    have e := List.length_erase_of_mem m
    have pos := List.length_pos_of_mem m
    rw [List.length_cons]
    omega
theorem Srch.few {n : Nat} {T L : List Turn} (hn : n ≤ 4) (ht : Are n T) (nd : (L.map Prod.fst).Nodup) (ok : ∀ p ∈ L, Reach n T p.1 p.2) : L.length ≤ 24 := by
  have z := nodup_few (L.map Prod.fst) (orders n) nd fun o m => by
    obtain ⟨p, hp, rfl⟩ := List.mem_map.mp m
    exact mem_orders ((ok p hp).are ht).1
  rw [List.length_map] at z
  exact Nat.le_trans z (orders_few hn)
end GM

/-! sorted(t), t a tuple of numbers -/
namespace L2
open PySem PySem.Spec PyProof.Rows
section
variable {P : Program} {w : World} {A : Around} {E : Value → Shared → Prop} {s : Shared}
/-- the list that is filled from a tuple -/
abbrev filled (h : Heap) (vs : List Value) : Heap := (h.push (seqObj "list" #[] 0)).update h.objs.size (Obj.mapSeq (· ++ vs.toArray))
theorem gathersT {t : Addr} {vs : List Value} {Q : List Value → Shared → Prop} (isT : s.heap.IsTuple t vs.toArray) (few : vs.length ≤ sizeLine) (fin : Q vs { s with heap := filled s.heap vs }) :
    wpAny (model P w) A (collect (.ref t)) Q E s := by
  obtain ⟨o, at_, cls, n, dat⟩ := id isT
  have at1 : (s.heap.push (seqObj "list" #[] 0)).get? t = some o := Heap.get?_push_of_some _ at_
  have new : (s.heap.push (seqObj "list" #[] 0)).get? s.heap.objs.size = some (seqObj "list" #[] 0) := Heap.get?_push_size _ rfl
  unfold collect
  refine wpAny_bind (wpAny_runValue (codeAny_builtin entry_proto_collect' ?_))
  show wpAny _ _ (do again (.builtin "list.__iadd__" ⟨[← newList [], .ref t], []⟩)) _ _ s
  refine wpAny_bind (wpAny_newList (wpAny_pure ⟨Code.quiet_builtin _ (by decide +kernel), codeAny_builtin entry_list_iadd' ?_⟩))
  show wpAny _ _ (Builtin.List.listExtendWith (.ref s.heap.objs.size) (.ref t) (.ref s.heap.objs.size)) _ _ { s with heap := s.heap.push (seqObj "list" #[] 0) }
  unfold Builtin.List.listExtendWith
  have eq : (Value.type "tuple" == Value.type "tuple") = true := rfl
  refine wpAny_bind (wpAny_typeOf (T := "tuple") ⟨o, at1, cls⟩ ?_)
  rw [if_pos (by rw [eq]; simp)]
  refine wpAny_bind (listItems_at at1 dat (wpAny_bind (listItems_at new rfl ?_)))
  rw [if_neg (by simp)]
  have size : ((#[] : Array Value) ++ vs.toArray).size = vs.length := by simp
  refine wpAny_bind (listUpdate_at new rfl ?_ (Nat.zero_le _) (by show ((#[] : Array Value) ++ vs.toArray).size ≤ sizeLine + 1; omega))
  refine wpAny_pure (wpAny_bind (wpAny_load (get?_update_seq new _) ?_))
  have list : ((#[] : Array Value) ++ vs.toArray).toList = vs := by simp
  show wpAny _ _ (pure ((#[] : Array Value) ++ vs.toArray).toList) Q E _
  rw [list]
  exact wpAny_pure fin
theorem call_sortedTI {t : Addr} {vs : List Value} {ns : List Int} {Q : Value → Shared → Prop} (isT : s.heap.IsTuple t vs.toArray) (nums : IntsAre vs ns) (few : vs.length < 64)
    (fin : ∀ (out : Array Value) (ns' : List Int), IntsAre out.toList ns' → ns'.Perm ns → ns'.Pairwise (· ≤ ·) → Q (.ref (s.heap.objs.size + 1)) { s with heap := sortedAll s.heap vs out }) :
    wpAny (model P w) A (call (.builtin "sorted") [.ref t]) Q E s := by
  refine Calls.call_function_entry kind_sorted plain_sorted entry_sorted (args_sorted1 _) ?_
  have grown : (filled s.heap vs).objs.size = s.heap.objs.size + 1 := by
    rw [Heap.size_update]
    exact size_push' _ _
  have at_ := Heap.get?_push_size (filled s.heap vs) (o := seqObj "list" vs.toArray 0) rfl
  rw [grown] at at_
  unfold Builtin.«sorted»
  refine wpAny_bind (m := checkCount "sorted" 1 1 _) (wpAny_pure (wpAny_bind (gathersT isT (small64 few) (wpAny_bind (wpAny_newList ?_)))))
  show wpAny _ _ _ _ _ { s with heap := (filled s.heap vs).push (seqObj "list" vs.toArray 0) }
  rw [grown]
  exact wpAny_bind (wpAny_holding (wpAny_call_entry slot_list_sort ⟨_, at_, rfl⟩ entry_list_sort (list_sort_tree at_ nums few fun out ns' z1 z2 z3 => ⟨_, rfl, wpAny_pure ⟨_, rfl, fin out ns' z1 z2 z3⟩⟩) (args_list_sort _)))
end
section
variable {X : Cx}
def rSortTI (K : PySem.W.Frag) : List V → Hp → VK → Prop := fun vs H Q => ∃ (t : Addr) (ns : List Int), vs = [V.ref t] ∧ SqT K H t (ns.map V.int) ∧ ns.length < 64 ∧ ∀ (ns' : List Int) (p : Addr), ns'.Perm ns → ns'.Pairwise (· ≤ ·) → H p = none → Q (.ref p) (upd H p (.lst (ns'.map V.int)))
theorem cr_sortTI : CallR X (.builtin "sorted") (rSortTI X.K) := by
  intro pins s σ H vs us Q I r h
  obtain ⟨t, ns, rfl, isT, few, q⟩ := h
  obtain ⟨its, rv, at_, _⟩ := I.tuple isT
  rw [Vals.ref1 r]
  have nums := rv.ints
  refine call_sortedTI at_ nums (by rw [nums.length]; exact few) fun out ns' z1 z2 z3 => ?_
  obtain ⟨ep, new⟩ := sortedAll_at s.heap its out
  have gone : H (s.heap.objs.size + 1) = none := I.hok.fresh (Nat.le_succ _)
  have many : (ns'.map V.int).length ≤ sizeLine := by
    rw [List.length_map, z2.length_eq]
    exact small64 few
  have J := I.laid (a := s.heap.objs.size + 1) (o := .lst (ns'.map V.int)) (h' := sortedAll s.heap its out) (t' := s.toks) (fun _ _ => sortedAll_old) (Nat.le_succ _) ⟨many, out.toList, ep, vals_of_ints z1, new⟩
  exact ⟨V.ref (s.heap.objs.size + 1), _, J, rfl, q ns' _ z2 z3 gone⟩
end
end L2

namespace S16
open PySem L2 GM
/-- texts in a list or a tuple -/
def TextsAt (K : PySem.W.Frag) (H : Hp) (a : Addr) (ss : List Str) : Prop := SqL K H a (ss.map V.str) ∨ SqT K H a (ss.map V.str)
theorem TextsAt.same {K : PySem.W.Frag} {H H' : Hp} {a : Addr} {ss : List Str} (e : Same H H') (h : TextsAt K H a ss) : TextsAt K H' a ss := h.imp e.seq (sTup e)
def SlotsOk (ss : List Str) : Prop := 1 ≤ ss.length ∧ ss.length ≤ 4 ∧ ∀ z ∈ ss, NameOk z
section
variable {P : Program} {w : World} {K : PySem.W.Frag} {mg : Str → Option Value} {base : Heap}
/-! ### want_name -/
def spWantName : Sp := fun vs H Q _ => ∃ z : Str, vs = [.str z] ∧ NameOk z ∧ ∀ H', Same H H' → Q .non H'
theorem scWantName : FnScope ["value"] ["value"] (defScope sWantName) := ⟨rfl, rfl, rfl, by decide +kernel, rfl, by decide +kernel, by decide +kernel⟩
theorem ok_wantName {f : Addr} {fd : FuncData} (F : Fun K "want_name" "want_name" sWantName f fd) (DN : Df P w K mg base "is_name" ["value"] 1 spIsName) : FnOk P w K mg base CX0 2 f fd ["value"] spWantName := by
  refine F.ok scWantName (fun vs H Q E h => ?_) (fun cdv A outer s H vs Q E hr h => ?_)
  · obtain ⟨z, rfl, _⟩ := h
    rfl
  · obtain ⟨z, rfl, hz, q⟩ := h
    refine ⟨_, pss_one (ps_if (pt_not (pt_val (pe_df DN hr (by rfl) (pa_cons (pv 0) pa_nil)))) (pss_one ps_never) pss_nil), ?_⟩
    exact ⟨_, rfl, z, rfl, hz, fun H' s1 => ⟨true, rfl, q H' s1⟩⟩
/-! ### is_list -/
def spIsList (K : PySem.W.Frag) : Sp := fun vs H Q _ => ∃ (a : Addr) (xs : List V), vs = [.ref a] ∧ (SqL K H a xs ∨ SqT K H a xs) ∧ ∀ H', Same H H' → Q (.bl true) H'
theorem scIsList : FnScope ["value"] ["value"] (defScope sIsList) := ⟨rfl, rfl, rfl, by decide +kernel, rfl, by decide +kernel, by decide +kernel⟩
theorem tyX_list {K : PySem.W.Frag} {H : Hp} {a : Addr} {xs : List V} (h : SqL K H a xs) : TyX K H (.ref a) (.type "list") := by
  rcases h with (h | ⟨o, h⟩) | ⟨o, its, n, h, c, _⟩
  · exact .base (.lst h)
  · exact .base (.frz h)
  · exact .kList h c
theorem tyX_tup {K : PySem.W.Frag} {H : Hp} {a : Addr} {xs : List V} (h : SqT K H a xs) : TyX K H (.ref a) (.type "tuple") := by
  rcases h with (h | ⟨o, h⟩) | ⟨o, its, n, h, c, _⟩
  · exact .base (.tup h)
  · exact .fTuple h
  · exact .kTuple h c
theorem ok_isList {f : Addr} {fd : FuncData} (F : Fun K "is_list" "is_list" sIsList f fd) (T : Bn mg) : FnOk P w K mg base CX0 1 f fd ["value"] (spIsList K) := by
  refine F.ok scIsList (fun vs H Q E h => ?_) (fun cdv A outer s H vs Q E hr h => ?_)
  · obtain ⟨a, xs, rfl, _⟩ := h
    rfl
  · obtain ⟨a, xs, rfl, hx, q⟩ := h
    refine ⟨_, pss_one (ps_ret (pe_callB call_isiT (by rfl) T.isi (by decide +kernel) (pa_cons (pv 0) (pa_cons (pe_tup (pa_cons (pe_bltn (v := .ty "list") (by rfl) T.list (by decide +kernel) rfl) (pa_cons (pe_bltn (v := .ty "tuple") (by rfl) T.tuple (by decide +kernel) rfl) pa_nil))) pa_nil)))), ?_⟩
    refine ⟨_, rfl, (by show 2 ≤ sizeLine; decide), fun t ht => ?_⟩
    have s1 := sNew (o := .tup [.ty "list", .ty "tuple"]) (Same.refl H) ht
    have tys : Paired ClsV [V.ty "list", V.ty "tuple"] [Value.type "list", Value.type "tuple"] := .cons (.ty "list") (.cons (.ty "tuple") .nil)
    rcases hx with hx | hx
    · exact ⟨_, t, _, _, _, true, rfl, upd_same, tys, tyX_list (s1.seq hx), kitAny_cons (kit_ty (b := "list") (r := true) (by decide +kernel)) (fun z => nomatch z) (fun _ => rfl), q _ s1⟩
    · exact ⟨_, t, _, _, _, true, rfl, upd_same, tys, tyX_tup (sTup s1 hx), kitAny_cons (kit_ty (b := "list") (r := false) (by decide +kernel)) (fun _ => kitAny_cons (kit_ty (b := "tuple") (r := true) (by decide +kernel)) (fun z => nomatch z) (fun _ => rfl)) (fun z => nomatch z), q _ s1⟩
/-! ### moved -/
def Fits (n : Nat) (o : List Int) : Prop := ∀ i ∈ o, 0 ≤ i ∧ i < n
def spMoved (K : PySem.W.Frag) : Sp := fun vs H Q _ => ∃ (a b : Addr) (ns o : List Int), vs = [.ref a, .ref b] ∧ SqT K H a (ns.map V.int) ∧ SqT K H b (o.map V.int) ∧ Fits ns.length o ∧ o.length ≤ 1000 ∧
  ∀ H' p, Same H H' → H p = none → H' p = some (.tup ((mv ns o).map V.int)) → Q (.ref p) H'
theorem scMoved : FnScope ["places", "order", "position"] ["places", "order"] (defScope sMoved) := ⟨rfl, rfl, rfl, by decide +kernel, rfl, by decide +kernel, by decide +kernel⟩
theorem ok_moved {f : Addr} {fd : FuncData} (F : Fun K "moved" "moved" sMoved f fd) (T : Bn mg) : FnOk P w K mg base CX0 1 f fd ["places", "order"] (spMoved K) := by
  refine F.ok scMoved (fun vs H Q E h => ?_) (fun cdv A outer s H vs Q E hr h => ?_)
  · obtain ⟨a, b, ns, o, rfl, _⟩ := h
    rfl
  · obtain ⟨a, b, ns, o, rfl, ha, hb, fit, few, q⟩ := h
    refine ⟨_, pss_one (ps_ret (pe_callTy call_tuple_of (by rfl) T.tuple (by decide +kernel) (pa_cons (pe_lc (own := [("position", 2)]) (g := gName 2) (tt := tYes) (te := tOp (rIxT K) (tVar 0) (tVar 2)) (by rfl) scMoved.nd (pi_tup (pv 1)) (blkOk_by (own := [("position", 2)]) (N := ["places", "order", "position"]) (sc := defScope sMoved) (by decide +kernel))
      (fun _ _ _ _ _ => pg_name (i := 2) scMoved.nd rfl (Or.inl rfl)) (fun _ _ _ _ _ => pts_nil) (fun _ _ _ _ _ => pe_ix ix_tup (pv 0) (pv 2) (fun _ _ => rfl))) pa_nil))), ?_⟩
    refine ⟨_, rfl, b, rfl, ⟨_, hb⟩, fun D hD => ?_⟩
    refine lc_new (walk_tup (K := K) (a := b) (xs := o.map V.int)) (fun i => ((mv ns o).map V.int)[i]?) (by rw [List.length_map]; exact lt_line (by omega)) hD (fun H1 s1 => sTup s1 hb) ?_ ?_
    · rintro i x H1 _ hi s1 ⟨rfl, hx⟩ Kt Kn kt kn
      obtain ⟨j, hj, rfl⟩ := map_get hx
      have hm := fit j (List.mem_of_getElem? hj)
      have lt : j.toNat < ns.length := by omega
      have here : (ns.map V.int)[j.toNat]? = some (V.int (ns.getD j.toNat 0)) := by
        rw [List.getElem?_map, List.getD_eq_getElem?_getD, List.getElem?_eq_getElem lt] <;> rfl
      refine ⟨rfl, _, rfl, _, rfl, a, _, j, V.int (ns.getD j.toNat 0), rfl, rfl, sTup s1 ha, ?_, kt _ _ ?_ (Same.refl _)⟩
      · exact at_of (j := j.toNat) (by omega) here
      · show ((mv ns o).map V.int)[i]? = _
        unfold mv
        rw [List.getElem?_map, List.getElem?_map, hj] <;> rfl
    · intro H1 s1 at_
      have e : kept (fun i => ((mv ns o).map V.int)[i]?) (o.map V.int).length = (mv ns o).map V.int := by
        have z := kept_all (ys := (mv ns o).map V.int) (f := fun i => ((mv ns o).map V.int)[i]?) fun _ => rfl
        have l : ((mv ns o).map V.int).length = (o.map V.int).length := by unfold mv; simp only [List.length_map]
        rwa [l] at z
      rw [e] at at_
      refine ⟨D, _, rfl, .inl ⟨SqL.of at_, fun p hp => ?_⟩⟩
      exact q _ p (sNew s1 hp) (s1.free hp) upd_same
end
end S16

namespace S16
open PySem L2 GM
/-! ### rows of numbers as data -/
theorem dp_ints {K : PySem.W.Frag} {H : Hp} : ∀ ns : List Int, DpAll K H (ns.map V.int) (ns.map PyData.int)
  | [] => .nil
  | n :: ns => .cons (.int n) (dp_ints ns)
theorem lay_ints : ∀ ns : List Int, PyData.canLayAll0 (ns.map PyData.int) = true
  | [] => by simp [PyData.canLayAll0]
  | n :: ns => by
    show PyData.canLayAll0 (.int n :: ns.map PyData.int) = true
    rw [PyData.canLayAll0, lay_ints ns]
    simp [PyData.canLay0]
theorem sh_intsL (ns : List Int) : SeqAt.shaped (.list (ns.map PyData.int)) = true := by
  have d := PySem.W.depth_ints ns
  unfold SeqAt.shaped
  rw [Bool.and_eq_true, decide_eq_true_eq, PyData.canLay0, PyData.depth]
  exact ⟨lay_ints ns, by omega⟩
theorem sh_intsT (ns : List Int) : SeqAt.shaped (.tuple (ns.map PyData.int)) = true := by
  have d := PySem.W.depth_ints ns
  unfold SeqAt.shaped
  rw [Bool.and_eq_true, decide_eq_true_eq, PyData.canLay0, PyData.depth]
  exact ⟨lay_ints ns, by omega⟩
theorem eqv_ints : ∀ a b : List Int, PyData.eqvAll (a.map PyData.int) (b.map PyData.int) = decide (a = b)
  | [], b => by cases b <;> simp [PyData.eqvAll]
  | _ :: _, [] => by simp [PyData.eqvAll]
  | x :: a, y :: b => by
    show PyData.eqvAll (.int x :: a.map PyData.int) (.int y :: b.map PyData.int) = _
    rw [PySem.W.eqv_all_cons, eqv_ints a b, PyData.eqv]
    by_cases h : x = y
    · subst h
      by_cases h2 : a = b <;> simp [h2]
    · simp [h]
theorem eqv_intsL (a b : List Int) : PyData.eqv (.list (a.map PyData.int)) (.list (b.map PyData.int)) = decide (a = b) := by rw [PyData.eqv, eqv_ints]
/-! ### the orders -/
theorem rg_idn (n : Nat) : rgV 0 (n : Nat) = (idn n).map V.int := by
  unfold rgV idn
  rw [List.map_map, show ((n : Nat) : Int) - 0 = (n : Nat) by omega, Int.toNat_natCast]
  exact List.map_congr_left fun i _ => by show V.int (0 + (i : Nat)) = V.int (i : Nat); rw [Int.zero_add]
theorem idn_up (n : Nat) : (idn n).Pairwise (· ≤ ·) := by
  unfold idn
  rw [List.pairwise_map]
  exact List.Pairwise.imp (fun h => by omega) (List.pairwise_lt_range (n := n))
theorem perm_up {l m : List Int} (p : l.Perm m) (hl : l.Pairwise (· ≤ ·)) (hm : m.Pairwise (· ≤ ·)) : l = m :=
  p.eq_of_pairwise (fun a b _ _ h1 h2 => Int.le_antisymm h1 h2) hl hm
theorem idn_fits {n : Nat} {o : List Int} (p : o.Perm (idn n)) : Fits n o := fun i m => by
  have := p.mem_iff.mp m
  unfold idn at this
  rw [List.mem_map] at this
  obtain ⟨j, hj, rfl⟩ := this
  have := List.mem_range.mp hj
  omega
theorem perm_len {n : Nat} {o : List Int} (p : o.Perm (idn n)) : o.length = n := by rw [p.length_eq, idn_len]
/-- an order of the slots that keeps their texts -/
def Keeps (ss : List Str) (o : List Int) : Prop := o.Perm (idn ss.length) ∧ ∀ i j : Nat, o[i]? = some (j : Int) → ss[j]? = ss[i]?
section
variable {P : Program} {w : World} {K : PySem.W.Frag} {mg : Str → Option Value} {base : Heap}
/-! ### want_slots -/
def spWantSlots (K : PySem.W.Frag) : Sp := fun vs H Q _ => ∃ (a : Addr) (ss : List Str), vs = [.ref a] ∧ TextsAt K H a ss ∧ SlotsOk ss ∧ ∀ H', Same H H' → Q .non H'
theorem scWantSlots : FnScope ["slots", "position", "sort"] ["slots"] (defScope sWantSlots) := ⟨rfl, rfl, rfl, by decide +kernel, rfl, by decide +kernel, by decide +kernel⟩
theorem ok_wantSlots {f : Addr} {fd : FuncData} (F : Fun K "want_slots" "want_slots" sWantSlots f fd) (T : Bn mg) (N : Cn mg) (DL : Df P w K mg base "is_list" ["value"] 1 (spIsList K)) (DN : Df P w K mg base "is_name" ["value"] 1 spIsName) :
    FnOk P w K mg base CX0 2 f fd ["slots"] (spWantSlots K) := by
  obtain ⟨tm, gm⟩ := N.most
  refine F.ok scWantSlots (fun vs H Q E h => ?_) (fun cdv A outer s H vs Q E hr h => ?_)
  · obtain ⟨a, ss, rfl, _⟩ := h
    rfl
  · obtain ⟨a, ss, rfl, ha, ⟨n1, n4, ok⟩, q⟩ := h
    have start : ∀ {R : Hp → Prop}, (∀ H1, Same H H1 → R H1) → ∀ {vs' : List V}, vs' = ss.map V.str → (1 : Int) ≤ (vs'.length : Nat) ∧ ((vs'.length : Nat) : Int) ≤ 4 := by
      intro R _ vs' e
      subst e
      rw [List.length_map]
      omega
    rcases ha with ha | ha
    · refine ⟨_, pss_cons (ps_if (PW.pt (pw_or (pt_not (pt_val (pe_df DL hr (by rfl) (pa_cons (pv 0) pa_nil)))) (pw_or1 (pt_not (pt_chain op_le op_le pe_int (pe_callB call_len_seq (by rfl) T.len PySem.boot_len (pa_cons (pv 0) pa_nil)) (pe_glob (v := .int 4) (by rfl) gm ⟨_, rfl⟩)))))) (pss_one ps_never) pss_nil)
        (pss_one (ps_for PassesOwn.never rfl (pi_enum (by rfl) T.enum (pa_cons (pv 0) pa_nil)) (pg_tup rfl (pgs_cons (pg_name (i := 1) scWantSlots.nd rfl (Or.inl rfl)) (pgs_cons (pg_name (i := 2) scWantSlots.nd rfl (Or.inl rfl)) pgs_nil)))
          (pss_one (ps_if (pt_not (pt_val (pe_df DN hr (by rfl) (pa_cons (pv 2) pa_nil)))) (pss_one ps_never) pss_nil)))), ?_⟩
      refine ⟨_, rfl, a, _, rfl, .inl ha, fun H1 s1 => ⟨true, rfl, ?_⟩⟩
      refine iteF ⟨_, rfl, a, _, rfl, .inl (s1.seq ha), _, _, rfl, rfl, true, congrArg V.bl (decide_eq_true (start (R := fun _ => True) (fun _ _ => True.intro) rfl).1), iteT ⟨_, _, rfl, rfl, true, congrArg V.bl (decide_eq_true (start (R := fun _ => True) (fun _ _ => True.intro) rfl).2), ?_⟩⟩
      refine iteF ⟨_, rfl, a, _, rfl, s1.seq ha, for_it (walk_enum (K := K) (a := a) (xs := ss.map V.str)) (fun i σ H' => Same H H' ∧ ∃ x y, σ = [some (.ref a), x, y]) ⟨s1, none, none, rfl⟩ (fun i σ H' _ h => h.1.seq ha) ?_ ?_⟩
      · rintro i z σ H2 _ hi ⟨s2, x, y, rfl⟩ ⟨TT, x1, x2, rfl, hT, rfl, e1, e2⟩
        obtain ⟨z, hz, rfl⟩ := map_get e2
        have s3 := sNew (o := .tup [x1, V.str z]) s2 hT
        refine ⟨TT, _, rfl, .inl (.inl upd_same), rfl, _, _, rfl, _, _, rfl, rfl, ?_⟩
        exact ⟨_, rfl, z, rfl, ok z (List.mem_of_getElem? hz), fun H4 s4 => ⟨true, rfl, Same.trans s3 s4, _, _, rfl⟩⟩
      · rintro σ H2 ⟨s2, _⟩
        exact q H2 s2
    · refine ⟨_, pss_cons (ps_if (PW.pt (pw_or (pt_not (pt_val (pe_df DL hr (by rfl) (pa_cons (pv 0) pa_nil)))) (pw_or1 (pt_not (pt_chain op_le op_le pe_int (pe_callB call_len_seq (by rfl) T.len PySem.boot_len (pa_cons (pv 0) pa_nil)) (pe_glob (v := .int 4) (by rfl) gm ⟨_, rfl⟩)))))) (pss_one ps_never) pss_nil)
        (pss_one (ps_for PassesOwn.never rfl (pi_enumT (by rfl) T.enum (pa_cons (pv 0) pa_nil)) (pg_tup rfl (pgs_cons (pg_name (i := 1) scWantSlots.nd rfl (Or.inl rfl)) (pgs_cons (pg_name (i := 2) scWantSlots.nd rfl (Or.inl rfl)) pgs_nil)))
          (pss_one (ps_if (pt_not (pt_val (pe_df DN hr (by rfl) (pa_cons (pv 2) pa_nil)))) (pss_one ps_never) pss_nil)))), ?_⟩
      refine ⟨_, rfl, a, _, rfl, .inr ha, fun H1 s1 => ⟨true, rfl, ?_⟩⟩
      refine iteF ⟨_, rfl, a, _, rfl, .inr (sTup s1 ha), _, _, rfl, rfl, true, congrArg V.bl (decide_eq_true (start (R := fun _ => True) (fun _ _ => True.intro) rfl).1), iteT ⟨_, _, rfl, rfl, true, congrArg V.bl (decide_eq_true (start (R := fun _ => True) (fun _ _ => True.intro) rfl).2), ?_⟩⟩
      refine iteF ⟨_, rfl, a, _, rfl, sTup s1 ha, for_it (walk_enumT (K := K) (a := a) (xs := ss.map V.str)) (fun i σ H' => Same H H' ∧ ∃ x y, σ = [some (.ref a), x, y]) ⟨s1, none, none, rfl⟩ (fun i σ H' _ h => sTup h.1 ha) ?_ ?_⟩
      · rintro i z σ H2 _ hi ⟨s2, x, y, rfl⟩ ⟨TT, x1, x2, rfl, hT, rfl, e1, e2⟩
        obtain ⟨z, hz, rfl⟩ := map_get e2
        have s3 := sNew (o := .tup [x1, V.str z]) s2 hT
        refine ⟨TT, _, rfl, .inl (.inl upd_same), rfl, _, _, rfl, _, _, rfl, rfl, ?_⟩
        exact ⟨_, rfl, z, rfl, ok z (List.mem_of_getElem? hz), fun H4 s4 => ⟨true, rfl, Same.trans s3 s4, _, _, rfl⟩⟩
      · rintro σ H2 ⟨s2, _⟩
        exact q H2 s2
end
end S16

namespace S16
open PySem L2 GM
theorem map_trues {n : Nat} {f : Nat → Option V} (h : ∀ i, i < n → f i = some (.bl true)) : kept f n = (List.replicate n true).map V.bl := by
  have e : kept f n = kept (fun i => if i < n then some (V.bl true) else none) n := by
    unfold kept
    have z : ∀ (g : Nat → Option V) (l : List Nat), (∀ i ∈ l, f i = g i) → l.filterMap f = l.filterMap g := by
      intro g l
      induction l with
      | nil => intro _; rfl
      | cons a l ih =>
        intro hl
        rw [List.filterMap_cons, List.filterMap_cons, hl a List.mem_cons_self, ih fun i m => hl i (List.mem_cons_of_mem _ m)]
    exact z _ _ fun i m => by rw [h i (List.mem_range.mp m), if_pos (List.mem_range.mp m)]
  rw [e, kept_const, List.map_replicate]
theorem walk_zipTT {K : PySem.W.Frag} {a b : Addr} {xs ys : List V} {n : Nat} (hx : xs.length = n) (hy : ys.length = n) : Walk (RZ.ItzT K a b) n (fun H => SqT K H a xs ∧ SqT K H b ys) (YPair (fun i => xs[i]?) (fun i => ys[i]?)) where
  goes := fun i _ hi q => ⟨xs, ys, xs[i], ys[i], q.1, q.2, List.getElem?_eq_getElem (hx ▸ hi), List.getElem?_eq_getElem (hy ▸ hi)⟩
  stops := fun _ q => ⟨xs, ys, q.1, q.2, .inl (Nat.le_of_eq hx)⟩
  yields := fun i H v H' _ q ⟨T, x, y, h1, h2, h3, h4, h5⟩ => ⟨T, x, y, h1, h2, h3, h4 xs q.1, h5 ys q.2⟩
section
variable {P : Program} {w : World} {K : PySem.W.Frag} {mg : Str → Option Value} {base : Heap}
/-! ### is_order -/
def spIsOrder (K : PySem.W.Frag) : Sp := fun vs H Q _ => ∃ (t a : Addr) (o : List Int) (ss : List Str), vs = [.ref t, .ref a] ∧ SqT K H t (o.map V.int) ∧ TextsAt K H a ss ∧ ss.length ≤ 4 ∧ Keeps ss o ∧ ∀ H', Same H H' → Q (.bl true) H'
abbrev nIsOrder : List Str := ["value", "slots", "position", "sort"]
theorem scIsOrder : FnScope nIsOrder ["value", "slots"] (defScope sIsOrder) := ⟨rfl, rfl, rfl, by decide +kernel, rfl, by decide +kernel, by decide +kernel⟩
theorem ok_isOrder {f : Addr} {fd : FuncData} (F : Fun K "is_order" "is_order" sIsOrder f fd) (T : Bn mg) (DI : Df P w K mg base "is_integer" ["value"] 1 spIsInt) : FnOk P w K mg base CX0 2 f fd ["value", "slots"] (spIsOrder K) := by
  refine F.ok scIsOrder (fun vs H Q E h => ?_) (fun cdv A outer s H vs Q E hr h => ?_)
  · obtain ⟨t, a, o, ss, rfl, _⟩ := h
    rfl
  · obtain ⟨t, a, o, ss, rfl, ht, ha, few, ⟨perm, same⟩, q⟩ := h
    have len := perm_len perm
    have fits := idn_fits perm
    have hu := hr.units
    have elem : ∀ (i : Nat) (x y : V), (o.map V.int)[i]? = some x → (ss.map V.str)[i]? = some y → ∃ (j : Int) (z : Str), x = V.int j ∧ y = V.str z ∧ (ss.map V.str)[j.toNat]? = some (V.str z) ∧ 0 ≤ j := by
      intro i x y hx hy
      obtain ⟨j, hj, rfl⟩ := map_get hx
      obtain ⟨z, hz, rfl⟩ := map_get hy
      have b := fits j (List.mem_of_getElem? hj)
      refine ⟨j, z, rfl, rfl, ?_, b.1⟩
      rw [List.getElem?_map, same i j.toNat (by rw [hj]; congr 1; omega), hz] <;> rfl
    rcases ha with ha | ha
    · refine ⟨_, pss_cons (ps_if (PW.pt (pw_or (pt_not (pt_val (pe_callB call_isi (by rfl) T.isi (by decide +kernel) (pa_cons (pv 0) (pa_cons (pe_bltn (v := .ty "tuple") (by rfl) T.tuple (by decide +kernel) rfl) pa_nil)))))
          (pw_or1 (pt_not (pt_val (pe_callB (cr_all rfl) (by rfl) T.all (by decide +kernel) (pa_cons (pe_lc (own := [("position", 2)]) (g := gName 2) (tt := tYes) (te := tCall spIsInt [] E0 (tCons (tVar 2) tNil)) (by rfl) scIsOrder.nd (pi_tup (pv 0)) (blkOk_by (own := [("position", 2)]) (N := nIsOrder) (sc := defScope sIsOrder) (by decide +kernel))
            (fun _ _ _ _ _ => pg_name (i := 2) scIsOrder.nd rfl (Or.inl rfl)) (fun _ _ _ _ _ => pts_nil) (fun _ _ _ _ _ => pe_df DI hr (by rfl) (pa_cons (pv 2) pa_nil))) pa_nil))))))) (pss_one ps_never) pss_nil)
        (pss_cons (ps_if (pt_cmpR (op_neD hu) (pe_callB cr_sortTI (by rfl) T.sorted (by decide +kernel) (pa_cons (pv 0) pa_nil)) (pe_listRg rfl (by rfl) T.list (prg_1 (by rfl) T.range (pe_callB call_len_seq (by rfl) T.len PySem.boot_len (pa_cons (pv 1) pa_nil)))) (nomark _)) (pss_one ps_never) pss_nil)
        (pss_one (ps_ret (pe_callB (cr_all rfl) (by rfl) T.all (by decide +kernel) (pa_cons (pe_lc (own := [("position", 2), ("sort", 3)]) (g := gTup K 2 (gCons (gName 2) (gCons (gName 3) gNil))) (tt := tYes) (te := tOp rEq (tOp (rIxL K) (tVar 1) (tVar 2)) (tVar 3)) (by rfl) scIsOrder.nd (pi_zipM (by rfl) T.zip (pa_cons (pv 0) (pa_cons (pv 1) pa_nil)))
          (blkOk_by (own := [("position", 2), ("sort", 3)]) (N := nIsOrder) (sc := defScope sIsOrder) (by decide +kernel))
          (fun _ _ _ _ _ => pg_tup rfl (pgs_cons (pg_name (i := 2) scIsOrder.nd rfl (Or.inl rfl)) (pgs_cons (pg_name (i := 3) scIsOrder.nd rfl (Or.inl rfl)) pgs_nil))) (fun _ _ _ _ _ => pts_nil) (fun _ _ _ _ _ => pe_cmpR op_eq (pe_ix ix_list (pv 1) (pv 2) (fun _ _ => rfl)) (pv 3) (nomark _))) pa_nil))))), ?_⟩
      refine ⟨_, rfl, _, _, _, _, true, rfl, .ty "tuple", tyX_tup ht, kit_ty (by decide +kernel), true, rfl, ?_⟩
      refine iteF ⟨_, rfl, t, rfl, ⟨_, ht⟩, fun D hD => ?_⟩
      refine lc_new (walk_tup (K := K) (a := t) (xs := o.map V.int)) (fun i => if i < o.length then some (.bl true) else none) (by rw [List.length_map]; exact lt_line (by omega)) hD (fun H1 s1 => sTup s1 ht) ?_ ?_
      · rintro i x H1 _ hi s1 ⟨rfl, hx⟩ Kt Kn kt kn
        obtain ⟨j, hj, rfl⟩ := map_get hx
        rw [List.length_map] at hi
        exact ⟨rfl, _, rfl, j, rfl, kt _ _ (if_pos hi) (Same.refl _)⟩
      · intro H1 s1 at_
        rw [List.length_map, kept_const, ← List.map_replicate] at at_
        refine ⟨D, _, rfl, SqL.of at_, ?_⟩
        rw [List.all_replicate_of]
        refine ⟨true, rfl, iteF ?_⟩
        refine ⟨_, rfl, t, o, rfl, sTup s1 ht, by omega, fun ns' p pm up hp => ?_⟩
        obtain rfl : ns' = idn ss.length := perm_up (pm.trans perm) up (idn_up _)
        have s2 := sNew (o := .lst ((idn ss.length).map V.int)) s1 hp
        refine ⟨_, rfl, a, _, rfl, .inl (s2.seq ha), _, rfl, RgOk.of_le (by decide) (by rw [List.length_map]; omega) (by decide) (by omega), fun r hr2 => ?_⟩
        rw [List.length_map, rg_idn]
        have s3 := sNew (o := .lst ((idn ss.length).map V.int)) s2 hr2
        refine ⟨_, _, .lst (SqL.of (old upd_same hr2)) (dp_ints _), .lst (SqL.of upd_same) (dp_ints _), sh_intsL _, sh_intsL _, ?_⟩
        rw [eqv_intsL, decide_eq_true rfl]
        refine ⟨false, rfl, iteF ?_⟩
        refine ⟨_, rfl, _, rfl, t, a, _, _, rfl, sTup s3 ht, s3.seq ha, fun D2 hD2 => ?_⟩
        refine lc_new (walk_zipM (K := K) (a := t) (b := a) (xs := o.map V.int) (ys := ss.map V.str) (n := ss.length) (by rw [List.length_map, len]) (List.length_map _)) (fun i => if i < ss.length then some (.bl true) else none) (lt_line (by omega)) hD2 (fun H4 s4 => ⟨sTup s4 (sTup s3 ht), s4.seq (s3.seq ha)⟩) ?_ ?_
        · rintro i x H4 _ hi s4 ⟨TT, x1, x2, rfl, hT, rfl, e1, e2⟩ Kt Kn kt kn
          obtain ⟨j, z, rfl, rfl, hz, j0⟩ := elem i x1 x2 e1 e2
          have s5 := sNew (o := .tup [V.int j, V.str z]) s4 hT
          refine ⟨TT, _, rfl, .inl (.inl upd_same), rfl, _, _, rfl, _, _, rfl, rfl, rfl, _, rfl, _, rfl, a, _, j, V.str z, rfl, rfl, s5.seq (s3.seq ha), at_of (j := j.toNat) (by omega) hz, _, rfl, rfl, ?_⟩
          exact kt _ _ ((if_pos hi).trans (congrArg (fun b => some (V.bl b)) (decide_eq_true rfl).symm)) (sNew (Same.refl _) hT)
        · intro H4 s4 at4
          rw [kept_const, ← List.map_replicate] at at4
          refine ⟨D2, _, rfl, SqL.of at4, ?_⟩
          rw [List.all_replicate_of]
          exact q _ (Same.trans s3 s4)
    · refine ⟨_, pss_cons (ps_if (PW.pt (pw_or (pt_not (pt_val (pe_callB call_isi (by rfl) T.isi (by decide +kernel) (pa_cons (pv 0) (pa_cons (pe_bltn (v := .ty "tuple") (by rfl) T.tuple (by decide +kernel) rfl) pa_nil)))))
          (pw_or1 (pt_not (pt_val (pe_callB (cr_all rfl) (by rfl) T.all (by decide +kernel) (pa_cons (pe_lc (own := [("position", 2)]) (g := gName 2) (tt := tYes) (te := tCall spIsInt [] E0 (tCons (tVar 2) tNil)) (by rfl) scIsOrder.nd (pi_tup (pv 0)) (blkOk_by (own := [("position", 2)]) (N := nIsOrder) (sc := defScope sIsOrder) (by decide +kernel))
            (fun _ _ _ _ _ => pg_name (i := 2) scIsOrder.nd rfl (Or.inl rfl)) (fun _ _ _ _ _ => pts_nil) (fun _ _ _ _ _ => pe_df DI hr (by rfl) (pa_cons (pv 2) pa_nil))) pa_nil))))))) (pss_one ps_never) pss_nil)
        (pss_cons (ps_if (pt_cmpR (op_neD hu) (pe_callB cr_sortTI (by rfl) T.sorted (by decide +kernel) (pa_cons (pv 0) pa_nil)) (pe_listRg rfl (by rfl) T.list (prg_1 (by rfl) T.range (pe_callB call_len_seq (by rfl) T.len PySem.boot_len (pa_cons (pv 1) pa_nil)))) (nomark _)) (pss_one ps_never) pss_nil)
        (pss_one (ps_ret (pe_callB (cr_all rfl) (by rfl) T.all (by decide +kernel) (pa_cons (pe_lc (own := [("position", 2), ("sort", 3)]) (g := gTup K 2 (gCons (gName 2) (gCons (gName 3) gNil))) (tt := tYes) (te := tOp rEq (tOp (rIxT K) (tVar 1) (tVar 2)) (tVar 3)) (by rfl) scIsOrder.nd (RZ.pi_zipA (by rfl) T.zip (pa_cons (pv 0) (pa_cons (pv 1) pa_nil)))
          (blkOk_by (own := [("position", 2), ("sort", 3)]) (N := nIsOrder) (sc := defScope sIsOrder) (by decide +kernel))
          (fun _ _ _ _ _ => pg_tup rfl (pgs_cons (pg_name (i := 2) scIsOrder.nd rfl (Or.inl rfl)) (pgs_cons (pg_name (i := 3) scIsOrder.nd rfl (Or.inl rfl)) pgs_nil))) (fun _ _ _ _ _ => pts_nil) (fun _ _ _ _ _ => pe_cmpR op_eq (pe_ix ix_tup (pv 1) (pv 2) (fun _ _ => rfl)) (pv 3) (nomark _))) pa_nil))))), ?_⟩
      refine ⟨_, rfl, _, _, _, _, true, rfl, .ty "tuple", tyX_tup ht, kit_ty (by decide +kernel), true, rfl, ?_⟩
      refine iteF ⟨_, rfl, t, rfl, ⟨_, ht⟩, fun D hD => ?_⟩
      refine lc_new (walk_tup (K := K) (a := t) (xs := o.map V.int)) (fun i => if i < o.length then some (.bl true) else none) (by rw [List.length_map]; exact lt_line (by omega)) hD (fun H1 s1 => sTup s1 ht) ?_ ?_
      · rintro i x H1 _ hi s1 ⟨rfl, hx⟩ Kt Kn kt kn
        obtain ⟨j, hj, rfl⟩ := map_get hx
        rw [List.length_map] at hi
        exact ⟨rfl, _, rfl, j, rfl, kt _ _ (if_pos hi) (Same.refl _)⟩
      · intro H1 s1 at_
        rw [List.length_map, kept_const, ← List.map_replicate] at at_
        refine ⟨D, _, rfl, SqL.of at_, ?_⟩
        rw [List.all_replicate_of]
        refine ⟨true, rfl, iteF ?_⟩
        refine ⟨_, rfl, t, o, rfl, sTup s1 ht, by omega, fun ns' p pm up hp => ?_⟩
        obtain rfl : ns' = idn ss.length := perm_up (pm.trans perm) up (idn_up _)
        have s2 := sNew (o := .lst ((idn ss.length).map V.int)) s1 hp
        refine ⟨_, rfl, a, _, rfl, .inr (sTup s2 ha), _, rfl, RgOk.of_le (by decide) (by rw [List.length_map]; omega) (by decide) (by omega), fun r hr2 => ?_⟩
        rw [List.length_map, rg_idn]
        have s3 := sNew (o := .lst ((idn ss.length).map V.int)) s2 hr2
        refine ⟨_, _, .lst (SqL.of (old upd_same hr2)) (dp_ints _), .lst (SqL.of upd_same) (dp_ints _), sh_intsL _, sh_intsL _, ?_⟩
        rw [eqv_intsL, decide_eq_true rfl]
        refine ⟨false, rfl, iteF ?_⟩
        refine ⟨_, rfl, _, rfl, t, a, _, _, rfl, .inr ⟨sTup s3 ht, sTup s3 ha, fun D2 hD2 => ?_⟩⟩
        refine lc_new (walk_zipTT (K := K) (a := t) (b := a) (xs := o.map V.int) (ys := ss.map V.str) (n := ss.length) (by rw [List.length_map, len]) (List.length_map _)) (fun i => if i < ss.length then some (.bl true) else none) (lt_line (by omega)) hD2 (fun H4 s4 => ⟨sTup s4 (sTup s3 ht), sTup s4 (sTup s3 ha)⟩) ?_ ?_
        · rintro i x H4 _ hi s4 ⟨TT, x1, x2, rfl, hT, rfl, e1, e2⟩ Kt Kn kt kn
          obtain ⟨j, z, rfl, rfl, hz, j0⟩ := elem i x1 x2 e1 e2
          have s5 := sNew (o := .tup [V.int j, V.str z]) s4 hT
          refine ⟨TT, _, rfl, .inl (.inl upd_same), rfl, _, _, rfl, _, _, rfl, rfl, rfl, _, rfl, _, rfl, a, _, j, V.str z, rfl, rfl, sTup s5 (sTup s3 ha), at_of (j := j.toNat) (by omega) hz, _, rfl, rfl, ?_⟩
          exact kt _ _ ((if_pos hi).trans (congrArg (fun b => some (V.bl b)) (decide_eq_true rfl).symm)) (sNew (Same.refl _) hT)
        · intro H4 s4 at4
          rw [kept_const, ← List.map_replicate] at at4
          refine ⟨D2, _, rfl, SqL.of at4, ?_⟩
          rw [List.all_replicate_of]
          exact q _ (Same.trans s3 s4)
end
end S16

namespace S16
open PySem L2 GM
def IsTurn (K : PySem.W.Frag) (H : Hp) (v : V) (p : Turn) : Prop := ∃ t u, v = .ref t ∧ SqT K H t [.ref u, .int p.2] ∧ SqT K H u (p.1.map V.int)
theorem IsTurn.same {K : PySem.W.Frag} {H H' : Hp} {v : V} {p : Turn} (e : Same H H') (h : IsTurn K H v p) : IsTurn K H' v p := by
  obtain ⟨t, u, rfl, h1, h2⟩ := h
  exact ⟨t, u, rfl, sTup e h1, sTup e h2⟩
/-- turns in a row -/
def TurnsAre (K : PySem.W.Frag) (H : Hp) : List V → List Turn → Prop
  | [], [] => True
  | v :: vs, p :: ps => IsTurn K H v p ∧ TurnsAre K H vs ps
  | _, _ => False
theorem TurnsAre.same {K : PySem.W.Frag} {H H' : Hp} (e : Same H H') : ∀ {vs : List V} {ps : List Turn}, TurnsAre K H vs ps → TurnsAre K H' vs ps
  | [], [], _ => trivial
  | _ :: _, _ :: _, h => ⟨h.1.same e, TurnsAre.same e h.2⟩
  | [], _ :: _, h => h.elim
  | _ :: _, [], h => h.elim
theorem TurnsAre.len {K : PySem.W.Frag} {H : Hp} : ∀ {vs : List V} {ps : List Turn}, TurnsAre K H vs ps → vs.length = ps.length
  | [], [], _ => rfl
  | _ :: vs, _ :: ps, h => congrArg (· + 1) (TurnsAre.len (vs := vs) (ps := ps) h.2)
  | [], _ :: _, h => h.elim
  | _ :: _, [], h => h.elim
theorem TurnsAre.get {K : PySem.W.Frag} {H : Hp} : ∀ {vs : List V} {ps : List Turn} {i : Nat} {v : V}, TurnsAre K H vs ps → vs[i]? = some v → ∃ p, ps[i]? = some p ∧ IsTurn K H v p
  | [], [], _, _, _, e => by cases e
  | _ :: _, p :: _, 0, _, h, e => by
    obtain rfl := Option.some.inj e
    exact ⟨p, rfl, h.1⟩
  | _ :: _, _ :: _, i + 1, _, h, e => TurnsAre.get (i := i) h.2 e
  | [], _ :: _, _, _, h, _ => h.elim
  | _ :: _, [], _, _, h, _ => h.elim
theorem TurnsAre.snoc {K : PySem.W.Frag} {H : Hp} {v : V} {p : Turn} : ∀ {vs : List V} {ps : List Turn}, TurnsAre K H vs ps → IsTurn K H v p → TurnsAre K H (vs ++ [v]) (ps ++ [p])
  | [], [], _, h => ⟨h, trivial⟩
  | _ :: _, _ :: _, h1, h => ⟨h1.1, TurnsAre.snoc h1.2 h⟩
  | [], _ :: _, h, _ => h.elim
  | _ :: _, [], h, _ => h.elim
theorem TurnsAre.app {K : PySem.W.Frag} {H : Hp} {ws : List V} {qs : List Turn} (h2 : TurnsAre K H ws qs) : ∀ {vs : List V} {ps : List Turn}, TurnsAre K H vs ps → TurnsAre K H (vs ++ ws) (ps ++ qs)
  | [], [], _ => h2
  | _ :: _, _ :: _, h1 => ⟨h1.1, TurnsAre.app h2 h1.2⟩
  | [], _ :: _, h => h.elim
  | _ :: _, [], h => h.elim
theorem TurnsAre.take {K : PySem.W.Frag} {H : Hp} : ∀ (n : Nat) {vs : List V} {ps : List Turn}, TurnsAre K H vs ps → TurnsAre K H (vs.take n) (ps.take n)
  | 0, _, _, _ => trivial
  | _ + 1, [], [], _ => trivial
  | n + 1, _ :: _, _ :: _, h => ⟨h.1, TurnsAre.take n h.2⟩
  | _ + 1, [], _ :: _, h => h.elim
  | _ + 1, _ :: _, [], h => h.elim
/-- a turn for these slots -/
def TurnOk (ss : List Str) (p : Turn) : Prop := Keeps ss p.1 ∧ Sgn p.2
section
variable {P : Program} {w : World} {K : PySem.W.Frag} {mg : Str → Option Value} {base : Heap}
/-! ### is_turn -/
def spIsTurn (K : PySem.W.Frag) : Sp := fun vs H Q _ => ∃ (v : V) (a : Addr) (p : Turn) (ss : List Str), vs = [v, .ref a] ∧ IsTurn K H v p ∧ TextsAt K H a ss ∧ ss.length ≤ 4 ∧ TurnOk ss p ∧ ∀ H', Same H H' → Q (.bl true) H'
theorem scIsTurn : FnScope ["value", "slots"] ["value", "slots"] (defScope sIsTurn) := ⟨rfl, rfl, rfl, by decide +kernel, rfl, by decide +kernel, by decide +kernel⟩
theorem ok_isTurn {f : Addr} {fd : FuncData} (F : Fun K "is_turn" "is_turn" sIsTurn f fd) (T : Bn mg) (DI : Df P w K mg base "is_integer" ["value"] 1 spIsInt) (DO : Df P w K mg base "is_order" ["value", "slots"] 2 (spIsOrder K)) : FnOk P w K mg base CX0 3 f fd ["value", "slots"] (spIsTurn K) := by
  refine F.ok scIsTurn (fun vs H Q E h => ?_) (fun cdv A outer s H vs Q E hr h => ?_)
  · obtain ⟨v, a, p, ss, rfl, _⟩ := h
    rfl
  · obtain ⟨_, a, ⟨o, sg⟩, ss, rfl, ⟨t, u, rfl, ht, hu⟩, ha, few, ⟨kp, sgn⟩, q⟩ := h
    have h1 : Room 1 _ := hr.mono (by decide)
    refine ⟨_, pss_cons (ps_if (PW.pt (pw_or (pt_not (pt_val (pe_callB call_isi (by rfl) T.isi (by decide +kernel) (pa_cons (pv 0) (pa_cons (pe_bltn (v := .ty "tuple") (by rfl) T.tuple (by decide +kernel) rfl) pa_nil)))))
        (pw_or1 (pt_cmpR op_ne (pe_callB call_len_seq (by rfl) T.len PySem.boot_len (pa_cons (pv 0) pa_nil)) pe_int (nomark _))))) (pss_one ps_never) pss_nil)
      (pss_one (ps_ret (pe_and (pe_df DO hr (by rfl) (pa_cons (pe_ix ix_tup (pv 0) pe_int (fun _ _ => rfl)) (pa_cons (pv 1) pa_nil))) (pe_and (pe_df DI h1 (by rfl) (pa_cons (pe_ix ix_tup (pv 0) pe_int (fun _ _ => rfl)) pa_nil))
        (pe_one (pe_cmpR op_in_seq (pe_ix ix_tup (pv 0) pe_int (fun _ _ => rfl)) (pe_tup (pa_cons pe_int (pa_cons (pe_un un_neg pe_int) pa_nil))) (by rfl))))))), ?_⟩
    refine ⟨_, rfl, _, _, _, _, true, rfl, .ty "tuple", tyX_tup ht, kit_ty (by decide +kernel), true, rfl, ?_⟩
    refine iteF ⟨_, rfl, t, _, rfl, .inr ht, rfl, false, rfl, iteF ?_⟩
    refine ⟨_, rfl, t, _, _, _, rfl, rfl, ht, at_of (j := 0) rfl rfl, _, rfl, u, a, o, ss, rfl, hu, ha, few, kp, fun H1 s1 => ⟨true, rfl, iteT ?_⟩⟩
    refine ⟨_, rfl, t, _, _, _, rfl, rfl, sTup s1 ht, at_of (j := 1) rfl rfl, sg, rfl, true, rfl, iteT ?_⟩
    refine ⟨_, rfl, t, _, _, _, rfl, rfl, sTup s1 ht, at_of (j := 1) rfl rfl, ⟨1, rfl, (by show 2 ≤ sizeLine; decide), fun p hp => ?_⟩⟩
    refine ⟨p, _, rfl, .inr (.inl (.inl upd_same)), rfl, rfl, ?_⟩
    have yes : inV (.int sg) [.int 1, .int (-1)] = true := by
      rcases sgn with e | e
      · have e' : sg = 1 := e
        subst e'
        rfl
      · have e' : sg = -1 := e
        subst e'
        rfl
    show Q (.bl (inV (.int sg) [.int 1, .int (-1)])) _
    rw [yes]
    exact q _ (sNew s1 hp)
end
end S16

namespace S16
open PySem L2 GM
theorem NameOk.shown {z : Str} (h : NameOk z) : (reprText z).length ≤ 82 := by
  have small : ∀ c ∈ letters.cps.toList, c < 16 ^ 8 := by decide +kernel
  have := StrLaws.reprText_len z fun c m => small c (h.2.2 c m)
  have := h.2.1
  omega
abbrev veTail : List Value := [.type "ValueError", .type "Exception", .type "BaseException", .type "object"]
abbrev fN : Str := "name"
/-- a def with __class__ captured -/
abbrev fnC (name qual : Str) (params : Arguments) (body : List Stmt) (scope : Scope) (dV kV doc pm : Value) (an : Option Addr) (cdv ct : Value) (cc : Addr) : FuncData :=
  { name, qualname := qual, params, body := .stmts body, scope, globals := mainGlobals, closure := [(("__class__" : Str), cc)], defaults := dV, kwdefaults := kV, doc, pyModule := pm, annotations := an, code := cdv, closureTuple := ct, builtins := builtinsNs }
section
variable {P : Program} {w : World} {K : PySem.W.Frag} {mg : Str → Option Value} {base : Heap}
def spVN (D : Addr) : Sp := fun vs H Q _ => ∃ (a : Addr) (z : Str), vs = [.ref a, .str z] ∧ H a = some (exo a D none) ∧ NameOk z ∧ ∀ dx, H dx = none → dx ≠ a → Q .non (upd (upd H dx (exd dx [(fN, .str z)])) a (exo a D (some dx)))
/-! ### Vanishing.__init__ -/
def vnArg : Arg := ((defArgs sVInit).posonlyargs ++ (defArgs sVInit).args).headD (Arg.mk "" none ⟨0, 0, 0, 0⟩)
abbrev vnHead : Str := "all entries of the table would be 0: "
theorem vn_len : vnHead.length = 37 := rfl
theorem e_len : Str.empty.length = 0 := rfl
theorem ok_vn {f D cc : Addr} {cd1 : Option Addr} {sl1 : Array (Option Value)} {kV doc pm cdv ct : Value} {an : Option Addr} (hcd : PySem.W.codeIn K cdv "Vanishing.__init__" = true) (hcc : K.lookup cc = some ⟨.type "cell", cd1, .cell (some (.ref D)), sl1⟩)
    (T : SupK "ValueError" "ValueError.__new__" "ValueError.__init__" veTail P K mg D f (fnC "__init__" "Vanishing.__init__" (defArgs sVInit) (defBody sVInit) (defScope sVInit) .none kV doc pm an cdv ct cc) vnArg)
    (O : OexC K D) (hno : PySem.W.findIn K (.ref D) "name" = some none) :
    FnG P w K mg base CX0 3 f (fnC "__init__" "Vanishing.__init__" (defArgs sVInit) (defBody sVInit) (defScope sVInit) .none kV doc pm an cdv ct cc) ["self", "name"] (spVN D) := by
  refine fn_sup (k := 2) (N := ["self", "name"]) ⟨rfl, rfl, rfl, by decide, rfl, by show ∀ x ∈ [("self" : Str), "name"], (defScope sVInit).names.lookup x = some .local; decide +kernel, by show ∀ y ∈ (defScope sVInit).names, y.2 ≠ .cell; decide +kernel, by show ∀ y ∈ (defScope sVInit).names, y.2 = .free → y.1 = ("__class__" : Str); decide +kernel, rfl, rfl, rfl, rfl, rfl⟩ hcc F.excBase_ValueError PySem.W.kxs_ValueError T rfl hcd rfl (fun vs H Q E h => ?_) (fun env => rfl) (fun env => rfl) (fun L => rfl) (fun L => rfl) (fun A outer s H vs Q E gd hr h => ?_)
  · obtain ⟨a, z, rfl, _⟩ := h
    rfl
  · obtain ⟨a, z, rfl, ha, ok, q⟩ := h
    refine ⟨a, _, _, rfl, ha, pa_cons (pe_joined (PJ.cons pe_str (PJ.cons (pe_fmtG (k := 2) (deeper_guards.trans gd) hr (pv 1)) PJ.nil))) pa_nil, pss_one (ps_ost (pv 0) (pv 1)), ?_⟩
    have sl : sizeLine = 16777216 := sizeLine_eq
    have hl := ok.shown
    refine ⟨_, rfl, ?_, _, rfl, reprText z, fun H' => H' = H, fun _ => False, rfl, sg_str (by omega), by omega, fun H' j => ?_⟩
    · rw [strLen_append, e_len, vn_len, sl]; decide
    subst j
    refine ⟨_, rfl, ?_, by show 1 ≤ 1000; decide, ha, ?_⟩
    · show (Str.empty ++ vnHead ++ reprText z).length ≤ _
      rw [strLen_append, strLen_append, e_len, vn_len]; omega
    refine ⟨_, rfl, _, rfl, a, D, rfl, O, hno, .inl ⟨ha, q⟩⟩
/-- Vanishing -/
structure Vn (P : Program) (w : World) (K : PySem.W.Frag) (mg : Str → Option Value) (base : Heap) (D : Addr) : Prop where
  cl : OexC K D
  mgD : mg "Vanishing" = some (.ref D)
  ex : ∃ fI fd, PySem.W.findIn K (.ref D) "__init__" = some (some (.ref fI)) ∧ PySem.W.typeIn K (.ref fI) = some (.type "function") ∧ Binds K fd ["self", "name"] [] ∧ FnG P w K mg base CX0 3 fI fd ["self", "name"] (spVN D)
  me : PySem.W.exmOne K (.ref D) (.ref D) = some true
  xf : XfC K D
  no : PySem.W.findIn K (.ref D) "name" = some none
end
theorem pmk_vn {X : Cx} {D : Addr} {e : Expr} {es : List Expr} {ta : TA} {p pos : Pos} (Z : Vn X.prog X.w X.K X.mg X.base D) (gd : X.A.guards = some []) (hr : Room 4 X.A) (hg : Gl X "Vanishing") (ha : PA X (e :: es) ta)
    (he : starEach (e :: es) X.env = (false, eval e X.env) :: starEach es X.env := by rfl) (hpl : (backTo pos (starEach es X.env)).any (·.1) = false := by rfl) : L2.PMk X (.Call (.Name "Vanishing" p) (e :: es) [] pos) (tMkO D (spVN D) [] ta) := by
  obtain ⟨fI, fd, h1, h2, h3, h4⟩ := Z.ex
  exact pmk_oexG (CX := CX0) Z.cl h1 h2 h4 gd hr h3 .nil pass0 hg Z.mgD ha (by decide) he hpl
/-- what is let out -/
def XV (D : Addr) (z : Str) (H : Hp) (E : XK) : Prop := ∀ (H' : Hp) (d : Addr), Same H H' → H d = none → H' d = some (.xd [(fN, .str z)]) → E (.ref D) (some d) H'
theorem XV.same {D : Addr} {z : Str} {H H' : Hp} {E : XK} (s : Same H H') (h : XV D z H E) : XV D z H' E := fun H2 d s2 hn e => h H2 d (Same.trans s s2) (s.free hn) e
theorem raisedV {D : Addr} {z : Str} {H H1 : Hp} {E : XK} (s1 : Same H H1) (ok : NameOk z) (x : XV D z H E) : [V.str z].length ≤ 1000 ∧ ∀ a, H1 a = none → spVN D (.ref a :: ([V.str z] ++ [])) (upd H1 a (exo a D none))
  (fun r H2 => r = .non ∧ ∃ (d : Addr) (fs : List (Str × V)), H2 a = some (exo a D (some d)) ∧ H2 d = some (exd d fs) ∧ H1 d = none ∧ E (.ref D) (some d) (upd (del H2 a) d (.xd fs))) (fun _ _ _ => False) := by
  refine ⟨by show 1 ≤ 1000; decide, fun a ha => ⟨a, z, rfl, upd_same, ok, fun dx hdx ne => ⟨rfl, dx, [(fN, .str z)], upd_same, ?_, ?_, ?_⟩⟩⟩
  · rw [upd_ne ne]; exact upd_same
  · rw [upd_ne ne] at hdx; exact hdx
  · rw [upd_ne ne] at hdx
    refine x _ dx (fun b o hb => ?_) (s1.free hdx) upd_same
    have hb1 := s1 _ _ hb
    have n1 : b ≠ a := ne_of_none hb1 ha
    have n2 : b ≠ dx := ne_of_none hb1 hdx
    rw [upd_ne n2, del_ne n1, upd_ne n1, upd_ne n2, upd_ne n1]
    exact hb1
/-- where nothing is raised -/
theorem passF {X : Cx} : Passes (L2.CX X.prog X.w) X E0 := fun _ _ _ _ _ _ _ h => by
  obtain ⟨_, _, _, _, _, _, _, _, _, _, _, _, z⟩ := h
  exact z.elim
end S16

/-! turns in order -/
namespace GM
open PySem PySem.W
abbrev ordD (o : List Int) : PyData := .tuple (o.map PyData.int)
abbrev turnD (p : Turn) : PyData := .tuple [ordD p.1, .int p.2]
theorem eqvAll_ints : ∀ a b : List Int, PyData.eqvAll (a.map PyData.int) (b.map PyData.int) = decide (a = b)
  | [], b => by cases b <;> simp [PyData.eqvAll]
  | _ :: _, [] => by simp [PyData.eqvAll]
  | x :: a, y :: b => by
    show PyData.eqvAll (.int x :: a.map PyData.int) (.int y :: b.map PyData.int) = _
    rw [eqv_all_cons, eqvAll_ints a b, PyData.eqv]
    by_cases h : x = y
    · subst h
      by_cases h2 : a = b <;> simp [h2]
    · simp [h]
theorem eqv_ord (a b : List Int) : PyData.eqv (ordD a) (ordD b) = decide (a = b) := by rw [ordD, ordD, PyData.eqv, eqvAll_ints]
theorem alike_ord (a b : List Int) : alike (ordD a) (ordD b) = true := by rw [alike]; exact alike_ints a b
theorem lt_ord (a b : List Int) : dataLt (ordD a) (ordD b) = decide (a < b) := by rw [dataLt_tuple]; exact dataLt_ints a b
theorem alike_turn (p q : Turn) : alike (turnD p) (turnD q) = true := by
  rw [alike, alikeAll, alike_ord, alikeAll, alikeAll]
  simp [alike]
/-- p ahead of q -/
def tlt (p q : Turn) : Prop := p.1 < q.1 ∨ (p.1 = q.1 ∧ p.2 < q.2)
theorem lt_turn (p q : Turn) : dataLt (turnD p) (turnD q) = true ↔ tlt p q := by
  rw [dataLt_pair (alike_ord _ _) (by simp [alike]), eqv_ord, lt_ord, PyData.eqv, dataLt_int]
  unfold tlt
  by_cases h : p.1 = q.1
  · have irr : ¬ q.1 < q.1 := List.lt_irrefl _
    by_cases h2 : p.2 = q.2
    · simp [h, h2, irr]
    · simp [h, h2, irr]
  · simp [h]
def tle (p q : Turn) : Prop := ¬ tlt q p
theorem tle_anti {p q : Turn} (a : tle p q) (b : tle q p) : p = q := by
  unfold tle tlt at a b
  rw [not_or] at a b
  have e : p.1 = q.1 := List.le_antisymm (fun z => a.1 z) (fun z => b.1 z)
  have e2 : p.2 = q.2 := by
    have h1 : ¬ q.2 < p.2 := fun z => a.2 ⟨e.symm, z⟩
    have h2 : ¬ p.2 < q.2 := fun z => b.2 ⟨e, z⟩
    omega
  exact Prod.ext e e2
def Srt (L : List Turn) : Prop := L.Pairwise tle
theorem srt_one {L M : List Turn} (p : L.Perm M) (a : Srt L) (b : Srt M) : L = M := p.eq_of_pairwise (fun _ _ _ _ h1 h2 => tle_anti h1 h2) a b
theorem srt_same {L M : List Turn} (nl : L.Nodup) (nm : M.Nodup) (h : ∀ p, p ∈ L ↔ p ∈ M) (a : Srt L) (b : Srt M) : L = M := srt_one ((List.perm_ext_iff_of_nodup nl nm).mpr h) a b
/-- what sorted leaves -/
theorem sorted_turns {β : Type} (f : β → Turn) (bs : List β) : Srt ((bs.mergeSort (dataLe false fun b => turnD (f b))).map f) := by
  unfold Srt
  rw [List.pairwise_map]
  have t : TotalLe (dataLe false fun b => turnD (f b)) := sortLe_total _ false _
  refine List.Pairwise.imp (fun {x y} h => ?_) (sort_pairwise t bs)
  rw [dataLe_eq] at h
  intro z
  have := (lt_turn (f y) (f x)).mpr z
  simp only [cond_false, this] at h
  cases h
end GM

namespace S16
open PySem L2 GM
/-! ### the dict of signs -/
abbrev keyOf (o : List Int) : List Key := o.map Sum.inl
theorem keyOf_kV (o : List Int) : (keyOf o).map kV = o.map V.int := by
  unfold keyOf
  rw [List.map_map]
  exact List.map_congr_left fun _ _ => rfl
theorem keyOf_inj : ∀ {a b : List Int}, keyOf a = keyOf b → a = b
  | [], [], _ => rfl
  | [], _ :: _, h => by cases h
  | _ :: _, [], h => by cases h
  | x :: a, y :: b, h => by
    have h1 := (List.cons.inj (show Sum.inl x :: keyOf a = Sum.inl y :: keyOf b from h))
    rw [Sum.inl.inj h1.1, keyOf_inj h1.2]
def kvsOf (L : List Turn) : List (List Key × V) := L.map fun p => (keyOf p.1, V.int p.2)
theorem kvs_snoc (L : List Turn) (p : Turn) : kvsOf (L ++ [p]) = kvsOf L ++ [(keyOf p.1, V.int p.2)] := by unfold kvsOf; rw [List.map_append]; rfl
theorem kvs_none {o : List Int} : ∀ {L : List Turn}, o ∉ L.map Prod.fst → valV (kvsOf L) (keyOf o) = none
  | [], _ => rfl
  | p :: L, h => by
    rw [List.map_cons, List.mem_cons, not_or] at h
    show valV ((keyOf p.1, V.int p.2) :: kvsOf L) (keyOf o) = none
    rw [valV_neg (fun e => h.1 (keyOf_inj e).symm)]
    exact kvs_none h.2
theorem kvs_some {o : List Int} {s : Int} : ∀ {L : List Turn}, (L.map Prod.fst).Nodup → (o, s) ∈ L → valV (kvsOf L) (keyOf o) = some (.int s)
  | p :: L, nd, h => by
    show valV ((keyOf p.1, V.int p.2) :: kvsOf L) (keyOf o) = some (.int s)
    rw [List.map_cons, List.nodup_cons] at nd
    rcases List.mem_cons.mp h with e | h
    · subst e
      exact valV_pos rfl
    · rw [valV_neg (fun e => nd.1 (by rw [keyOf_inj e]; exact List.mem_map.mpr ⟨_, h, rfl⟩))]
      exact kvs_some nd.2 h
/-! ### rows of orders as data -/
theorem dp_ord {K : PySem.W.Frag} {H : Hp} {a : Addr} {o : List Int} (h : SqT K H a (o.map V.int)) : Dp K H (.ref a) (ordD o) := .tup h (dp_ints o)
theorem lay_ords : ∀ W : List (List Int), PyData.canLayAll0 (W.map ordD) = true
  | [] => by simp [PyData.canLayAll0]
  | o :: W => by
    show PyData.canLayAll0 (ordD o :: W.map ordD) = true
    rw [PyData.canLayAll0, lay_ords W, ordD, PyData.canLay0, lay_ints o]
    rfl
theorem deep_ords : ∀ W : List (List Int), PyData.depthAll (W.map ordD) ≤ 1
  | [] => by simp [PyData.depthAll]
  | o :: W => by
    have h := deep_ords W
    have d := PySem.W.depth_ints o
    show PyData.depthAll (ordD o :: W.map ordD) ≤ 1
    rw [PyData.depthAll, ordD, PyData.depth, d]
    omega
theorem sh_ords (W : List (List Int)) : SeqAt.shaped (.list (W.map ordD)) = true := by
  have d := deep_ords W
  unfold SeqAt.shaped
  rw [Bool.and_eq_true, decide_eq_true_eq, PyData.canLay0, PyData.depth]
  exact ⟨lay_ords W, by omega⟩
abbrev OrdIs (H : Hp) (p : Addr × List Int) : Prop := H p.1 = some (.tup (p.2.map V.int))
theorem dp_ords {K : PySem.W.Frag} {H : Hp} : ∀ {ws : List (Addr × List Int)}, (∀ p ∈ ws, OrdIs H p) → DpAll K H (ws.map fun p => V.ref p.1) ((ws.map Prod.snd).map ordD)
  | [], _ => .nil
  | p :: ws, h => .cons (dp_ord (.inl (.inl (h p List.mem_cons_self)))) (dp_ords fun q m => h q (List.mem_cons_of_mem _ m))
theorem eqv_empty : ∀ W : List (List Int), PyData.eqv (.list (W.map ordD)) (.list []) = W.isEmpty
  | [] => by rw [PyData.eqv]; rfl
  | _ :: _ => by rw [PyData.eqv]; rfl
section
variable {P : Program} {w : World} {K : PySem.W.Frag} {mg : Str → Option Value} {base : Heap}
/-! ### closed_group -/
def spClosed (K : PySem.W.Frag) (D : Addr) : Sp := fun vs H Q E => ∃ (z : Str) (n : Nat) (ta : Addr) (tvs : List V) (T : List Turn), vs = [.str z, .int n, .ref ta] ∧ NameOk z ∧ n ≤ 4 ∧ SqT K H ta tvs ∧ TurnsAre K H tvs T ∧ Are n T ∧ T.length ≤ 100 ∧ (¬ Single n T → XV D z H E) ∧
  ∀ H' d L, Same H H' → H d = none → H' d = some (.dT (kvsOf L)) → Lists n T L → (L.map Prod.fst).Nodup → L.length ≤ 24 → Q (.ref d) H'
abbrev nClosed : List Str := ["name", "many", "turns", "signs", "waiting", "here", "order", "sign", "further", "product"]
theorem scClosed : FnScope nClosed ["name", "many", "turns"] (defScope sClosed) := ⟨rfl, rfl, rfl, by decide +kernel, rfl, by decide +kernel, by decide +kernel⟩
theorem ok_closed {f D : Addr} {fd : FuncData} (F : Fun K "closed_group" "closed_group" sClosed f fd) (B : Bn mg) (Z : Vn P w K mg base D) (DM : Df P w K mg base "moved" ["places", "order"] 1 (spMoved K)) :
    FnG P w K mg base (L2.CX P w) 5 f fd ["name", "many", "turns"] (spClosed K D) := by
  obtain ⟨oc, od, kV, doc, pm, an, cdv, ct, osl, rfl, lk, hcd⟩ := F.ex
  refine fn_ofG lk hcd scClosed (fun vs H Q E h => ?_) fun A outer s H vs Q E gd hr h => ?_
  · obtain ⟨z, n, ta, tvs, T, rfl, _⟩ := h
    rfl
  · obtain ⟨z, n, ta, tvs, T, rfl, zok, n4, hta, hts, are, few, xv, q⟩ := h
    have hu := hr.units
    have hu1 := hu_of hr
    have h1 : Room 1 _ := hr.mono (by decide)
    refine ⟨_, pss_cons (ps_set (i := 3) scClosed.nd rfl (Or.inl rfl) (pe_oneT hu1 (pe_tupRg rfl (by rfl) B.tuple (prg_1 (by rfl) B.range (pv 1))) pe_int))
      (pss_cons (ps_set (i := 4) scClosed.nd rfl (Or.inl rfl) (pe_lst (pa_cons (pe_tupRg rfl (by rfl) B.tuple (prg_1 (by rfl) B.range (pv 1))) pa_nil)))
      (pss_cons (ps_while (passes_of rfl) (pt_cmpR (op_neD hu) (pv 4) (pe_lst pa_nil) (nomark _))
        (pss_cons (ps_set (i := 5) scClosed.nd rfl (Or.inl rfl) (pe_bm0 PySem.F.plainAttrs_list PySem.F.slot_list_pop PySem.F.type_list_pop mt_pop (pv 4)))
        (pss_one (ps_for (passes_of rfl) rfl (pi_tup (pv 2)) (pg_tup rfl (pgs_cons (pg_name (i := 6) scClosed.nd rfl (Or.inl rfl)) (pgs_cons (pg_name (i := 7) scClosed.nd rfl (Or.inl rfl)) pgs_nil)))
          (pss_cons (ps_par (i := 8) (j := 9) (by rfl) scClosed.nd rfl rfl (by decide) rfl rfl (pa_cons (pe_df DM h1 (by rfl) (pa_cons (pv 5) (pa_cons (pv 6) pa_nil))) (pa_cons (pe_op op_mul (pe_dget hu1 (pv 3) (pv 5) (fun _ _ => rfl)) (pv 7)) pa_nil)) (by rfl))
          (pss_one (ps_if (pt_cmp (pc_dnotin hu1 (pv 8) (pv 3)))
            (pss_cons (ps_dput hu1 (pv 3) (pv 8) (pv 9) rfl) (pss_one (ps_expr (pe_bm PySem.F.plainAttrs_list PySem.F.slot_list_append PySem.F.type_list_append mt_append (pv 4) (pa_cons (pv 8) pa_nil)))))
            (pss_one (ps_if (pt_cmpR op_ne (pe_dget hu1 (pv 3) (pv 8) (fun _ _ => rfl)) (pv 9) (nomark _)) (pss_one (L2.ps_raise (by rfl) (L2.takes_of (E := E) rfl rfl rfl rfl) (pmk_vn Z (deeper_guards.trans gd) hr (by rfl) (pa_cons (pv 0) pa_nil)))) pss_nil)))))))))
      (pss_one (ps_ret (pv 3))))), ?_⟩
    intro d hd
    have s1 := sNew (o := .dT []) (Same.refl H) hd
    refine ⟨_, rfl, _, rfl, RgOk.of_le (by decide) (by omega) (by decide) (by omega), fun k0 hk0 => ?_⟩
    rw [rg_idn]
    have s2 := sNew (o := .tup ((idn n).map V.int)) s1 hk0
    refine ⟨old upd_same hk0, k0, keyOf (idn n), .int 1, rfl, by rw [keyOf_kV]; exact upd_same, ?_⟩
    have d2 : upd (upd (upd H d (.dT [])) k0 (.tup ((idn n).map V.int))) d (.dT [(keyOf (idn n), .int 1)]) d = some (.dT (kvsOf [(idn n, 1)])) := upd_same
    have s3 : Same H (upd (upd (upd H d (.dT [])) k0 (.tup ((idn n).map V.int))) d (.dT [(keyOf (idn n), .int 1)])) := sPut s2 hd
    generalize upd (upd (upd H d (.dT [])) k0 (.tup ((idn n).map V.int))) d (.dT [(keyOf (idn n), .int 1)]) = H3 at d2 s3
    refine ⟨_, rfl, _, rfl, RgOk.of_le (by decide) (by omega) (by decide) (by omega), fun k1 hk1 => ?_⟩
    rw [rg_idn]
    have s4 := sNew (o := .tup ((idn n).map V.int)) (Same.refl H3) hk1
    refine ⟨(by show 1 ≤ sizeLine; decide), fun wl hwl => ?_⟩
    have s5 := sNew (o := .lst [.ref k1]) s4 hwl
    have w5 : upd (upd H3 k1 (.tup ((idn n).map V.int))) wl (.lst [.ref k1]) wl = some (.lst [.ref k1]) := upd_same
    have t5 : upd (upd H3 k1 (.tup ((idn n).map V.int))) wl (.lst [.ref k1]) k1 = some (.tup ((idn n).map V.int)) := old upd_same hwl
    have hwl0 : H wl = none := s3.free (s4.free hwl)
    have d5 := s5 _ _ d2
    have s6 := Same.trans s3 s5
    generalize upd (upd H3 k1 (.tup ((idn n).map V.int))) wl (.lst [.ref k1]) = H5 at w5 t5 d5 s6
    refine ⟨fun m σ H' => ∃ (L : List Turn) (ws : List (Addr × List Int)) (x5 x6 x7 x8 x9 : Option V), σ = [some (.str z), some (.int n), some (.ref ta), some (.ref d), some (.ref wl), x5, x6, x7, x8, x9] ∧ Same H H' ∧ H' d = some (.dT (kvsOf L)) ∧
      H' wl = some (.lst (ws.map fun p => V.ref p.1)) ∧ (∀ p ∈ ws, OrdIs H' p) ∧ Srch n T L (ws.map Prod.snd) ∧ 2 * (24 - L.length) + ws.length = m ∧ m ≤ 100, ⟨_, [(idn n, 1)], [(k1, idn n)], none, none, none, none, none, rfl, s6, d5, w5, ?_, Srch.start, rfl, Nat.le_of_ble_eq_true rfl⟩, ?_⟩
    · intro p m
      rw [List.mem_singleton.mp m]
      exact t5
    rintro m σ H6 ⟨L, ws, x5, x6, x7, x8, x9, rfl, s7, d7, w7, t7, inv, rfl, mle⟩
    have Lfew : L.length ≤ 24 := Srch.few n4 are inv.nd inv.ok
    refine ⟨_, rfl, (by show 0 ≤ sizeLine; decide), fun e0 he0 => ?_⟩
    have s8 := sNew (o := .lst []) (Same.refl H6) he0
    refine ⟨_, _, .lst (SqL.of (s8 _ _ w7)) (dp_ords fun p m => s8 _ _ (t7 p m)), .lst (SqL.of upd_same) .nil, sh_ords _, by decide, ?_⟩
    rw [eqv_empty]
    have ends : ws = [] ∨ ∃ (ws' : List (Addr × List Int)) (b : Addr × List Int), ws = ws' ++ [b] := by
      rcases List.eq_nil_or_concat ws with e | ⟨ws', b, e⟩
      · exact .inl e
      · exact .inr ⟨ws', b, by rw [e, List.concat_eq_append]⟩
    rcases ends with rfl | ⟨ws', ⟨h, here⟩, rfl⟩
    · refine ⟨_, rfl, iteF ?_⟩
      exact ⟨_, rfl, q _ d L (Same.trans s7 s8) hd (s8 _ _ d7) inv.lists inv.nd Lfew⟩
    · rw [List.map_append] at inv
      refine ⟨_, rfl, ?_⟩
      have no : (!(List.map Prod.snd (ws' ++ [(h, here)])).isEmpty) = true := by
        rw [List.map_append]
        cases List.map Prod.snd ws' <;> rfl
      rw [no]
      refine iteT ⟨fun σ' H' => ∃ (L' : List Turn) (ws2 : List (Addr × List Int)) (x5 x6 x7 x8 x9 : Option V), σ' = [some (.str z), some (.int n), some (.ref ta), some (.ref d), some (.ref wl), x5, x6, x7, x8, x9] ∧ Same H H' ∧ H' d = some (.dT (kvsOf L')) ∧
        H' wl = some (.lst (ws2.map fun p => V.ref p.1)) ∧ (∀ p ∈ ws2, OrdIs H' p) ∧ Srch n T L' (ws2.map Prod.snd) ∧ 2 * (24 - L'.length) + ws2.length < 2 * (24 - L.length) + (ws' ++ [(h, here)]).length,
        fun σ' H' ⟨L', ws2, y5, y6, y7, y8, y9, c1, c2, c3, c4, c5, c6, c7⟩ => ⟨_, c7, L', ws2, y5, y6, y7, y8, y9, c1, c2, c3, c4, c5, c6, rfl, Nat.le_trans (Nat.le_of_lt c7) mle⟩, ?_⟩
      have w8 := s8 _ _ w7
      have d8 := s8 _ _ d7
      have t8 : ∀ p ∈ ws' ++ [(h, here)], OrdIs (upd H6 e0 (.lst [])) p := fun p m => s8 _ _ (t7 p m)
      have s9 := Same.trans s7 s8
      generalize upd H6 e0 (.lst []) = H8 at w8 d8 t8 s9
      have th := t8 (h, here) (by simp)
      refine ⟨_, rfl, .inl ⟨rfl, _, SqL.of w8⟩, wl, _, V.ref h, rfl, rfl, w8, ?_, ?_⟩
      · rw [List.map_append]
        simp
      have wd : d ≠ wl := ne_of d8 w8 (fun z => by cases z)
      rw [List.map_append, List.map_singleton, List.dropLast_concat]
      have notT : ∀ {p : Addr × List Int} {G : Hp} {v : List V}, OrdIs G p → G wl = some (.lst v) → p.1 ≠ wl := fun a b => ne_of a b (fun z => by cases z)
      have notD : ∀ {p : Addr × List Int} {G : Hp} {v : List (List Key × V)}, OrdIs G p → G d = some (.dT v) → p.1 ≠ d := fun a b => ne_of a b (fun z => by cases z)
      obtain ⟨sg, mid⟩ := inv.pop
      have w9 : upd H8 wl (.lst (ws'.map fun p => V.ref p.1)) wl = some (.lst (ws'.map fun p => V.ref p.1)) := upd_same
      have d9 : upd H8 wl (.lst (ws'.map fun p => V.ref p.1)) d = some (.dT (kvsOf L)) := by rw [upd_ne wd]; exact d8
      have t9 : ∀ p ∈ ws', OrdIs (upd H8 wl (.lst (ws'.map fun p => V.ref p.1))) p := fun p m => by
        have o := t8 p (List.mem_append_left _ m)
        show upd H8 wl _ p.1 = _
        rw [upd_ne (notT o w8)]
        exact o
      have h9 : upd H8 wl (.lst (ws'.map fun p => V.ref p.1)) h = some (.tup (here.map V.int)) := by
        rw [upd_ne (notT th w8)]
        exact th
      have s10 : Same H (upd H8 wl (.lst (ws'.map fun p => V.ref p.1))) := sPut s9 hwl0
      generalize upd H8 wl (.lst (ws'.map fun p => V.ref p.1)) = H9 at w9 d9 t9 h9 s10
      refine ⟨_, rfl, ta, rfl, ⟨_, sTup s10 hta⟩, for_it (walk_tup (K := K) (a := ta) (xs := tvs)) (fun i σ' H' => ∃ (L' : List Turn) (ws2 : List (Addr × List Int)) (x6 x7 x8 x9 : Option V), σ' = [some (.str z), some (.int n), some (.ref ta), some (.ref d), some (.ref wl), some (.ref h), x6, x7, x8, x9] ∧ Same H H' ∧ H' d = some (.dT (kvsOf L')) ∧
        H' wl = some (.lst (ws2.map fun p => V.ref p.1)) ∧ (∀ p ∈ ws2, OrdIs H' p) ∧ OrdIs H' (h, here) ∧ Mid n T L' (ws2.map Prod.snd) here sg i ∧ 2 * (24 - L'.length) + ws2.length < 2 * (24 - L.length) + (ws' ++ [(h, here)]).length)
        ⟨L, ws', x6, x7, x8, x9, rfl, s10, d9, w9, t9, h9, mid, ?_⟩ (fun i σ H' _ ⟨_, _, _, _, _, _, _, c, _⟩ => sTup c hta) ?_ ?_⟩
      · rw [List.length_append, List.length_singleton]
        omega
      · rintro i v σ H10 _ hi ⟨L', ws2, y6, y7, y8, y9, rfl, c2, c3, c4, c5, c6, c7, c8⟩ ⟨rfl, hv⟩
        obtain ⟨⟨o, g⟩, hT, t, u, rfl, ht, hu'⟩ := (hts.same c2).get hv
        have mem := List.mem_of_getElem? hT
        have operm : o.Perm (idn n) := (are _ mem).1
        have gsgn : Sgn g := (are _ mem).2
        have hr' := (c7.ok _ c7.at_).are are
        have hperm : here.Perm (idn n) := hr'.1
        have ssgn : Sgn sg := hr'.2
        have hlen : here.length = n := by rw [hperm.length_eq, idn_len]
        have olen : o.length = n := by rw [operm.length_eq, idn_len]
        refine ⟨t, _, rfl, ht, rfl, _, _, rfl, _, _, rfl, rfl, ?_⟩
        refine ⟨_, rfl, _, rfl, h, u, here, o, rfl, .inl (.inl c6), hu', by rw [hlen]; exact idn_fits operm, by omega, fun H11 p s11 hp ep => ?_⟩
        have ep2 : H11 p = some (.tup ((keyOf (mv here o)).map L2.kV)) := by rw [keyOf_kV]; exact ep
        have d11 := s11 _ _ c3
        have w11 := s11 _ _ c4
        have h11 : H11 h = some (.tup ((keyOf here).map L2.kV)) := by rw [keyOf_kV]; exact s11 _ _ c6
        have get : DGet H11 d (.ref h) (some (.int sg)) := by
          have z := DGet.t d11 h11
          rwa [kvs_some c7.nd c7.at_] at z
        have sz : -(2 ^ 64) < sg ∧ sg < 2 ^ 64 := by rcases ssgn with e | e <;> rw [e] <;> decide
        refine ⟨_, rfl, _, rfl, d, _, rfl, get, _, rfl, _, _, rfl, rfl, .inl sz, _, _, rfl, ?_⟩
        have s12 := Same.trans c2 s11
        have lfew : L'.length ≤ 24 := Srch.few n4 are c7.nd c7.ok
        by_cases new : mv here o ∈ L'.map Prod.fst
        · obtain ⟨⟨o', s'⟩, hm, e'⟩ := List.mem_map.mp new
          obtain rfl : o' = mv here o := e'
          have get2 : DGet H11 d (.ref p) (some (.int s')) := by
            have z := DGet.t d11 ep2
            rwa [kvs_some c7.nd hm] at z
          refine ⟨_, rfl, _, rfl, d, _, rfl, get2, _, rfl, iteF ?_⟩
          refine ⟨_, rfl, _, rfl, d, _, rfl, get2, _, rfl, rfl, _, rfl, ?_⟩
          by_cases eq : s' = sg * g
          · rw [show (!decide (V.int s' = V.int (sg * g))) = false by rw [eq, decide_eq_true rfl]; rfl]
            refine iteF ⟨L', ws2, _, _, _, _, rfl, s12, d11, w11, fun q m => s11 _ _ (c5 q m), s11 _ _ c6, c7.keep hT (eq ▸ hm), c8⟩
          · rw [show (!decide (V.int s' = V.int (sg * g))) = true by rw [decide_eq_false (fun z => eq (V.int.inj z))]; rfl]
            exact iteT ⟨_, rfl, raisedV s12 zok (xv (c7.clash hT hm eq))⟩
        · have get2 : DGet H11 d (.ref p) none := by
            have z := DGet.t d11 ep2
            rwa [kvs_none new] at z
          have mid2 := c7.add hT new
          have lfew2 : (L' ++ [(mv here o, sg * g)]).length ≤ 24 := Srch.few n4 are mid2.nd mid2.ok
          rw [List.length_append, List.length_singleton] at lfew2
          refine ⟨_, rfl, _, rfl, d, _, rfl, get2, _, rfl, iteT ?_⟩
          refine ⟨_, rfl, _, rfl, _, rfl, d, _, rfl, DPut.t d11 ep2 (by unfold kvsOf; rw [List.length_map]; exact lt_line (by omega)), ?_⟩
          rw [putK_new _ (kvs_none new), ← kvs_snoc L' (mv here o, sg * g)]
          have d13 : upd H11 d (.dT (kvsOf (L' ++ [(mv here o, sg * g)]))) d = some (.dT (kvsOf (L' ++ [(mv here o, sg * g)]))) := upd_same
          have w13 : upd H11 d (.dT (kvsOf (L' ++ [(mv here o, sg * g)]))) wl = some (.lst (ws2.map fun p => V.ref p.1)) := by rw [upd_ne (Ne.symm wd)]; exact w11
          have t13 : ∀ q ∈ (h, here) :: ws2 ++ [(p, mv here o)], OrdIs (upd H11 d (.dT (kvsOf (L' ++ [(mv here o, sg * g)])))) q := fun q m => by
            have z : OrdIs H11 q := by
              rcases List.mem_append.mp m with m | m
              · rcases List.mem_cons.mp m with rfl | m
                · exact s11 _ _ c6
                · exact s11 _ _ (c5 q m)
              · rw [List.mem_singleton.mp m]
                exact ep
            show upd H11 d _ q.1 = _
            rw [upd_ne (notD z d11)]
            exact z
          have s13 : Same H (upd H11 d (.dT (kvsOf (L' ++ [(mv here o, sg * g)])))) := sPut s12 hd
          generalize upd H11 d (.dT (kvsOf (L' ++ [(mv here o, sg * g)]))) = H13 at d13 w13 t13 s13
          refine ⟨_, rfl, .inl ⟨rfl, _, SqL.of w13⟩, _, rfl, wl, _, _, rfl, rfl, w13, by rw [List.length_map]; exact lt_line (by omega), ?_⟩
          have w14 : upd H13 wl (.lst ((ws2.map fun p => V.ref p.1) ++ [V.ref p])) wl = some (.lst ((ws2 ++ [(p, mv here o)]).map fun p => V.ref p.1)) := by rw [List.map_append]; exact upd_same
          have t14 : ∀ q ∈ (h, here) :: ws2 ++ [(p, mv here o)], OrdIs (upd H13 wl (.lst ((ws2.map fun p => V.ref p.1) ++ [V.ref p]))) q := fun q m => by
            have z := t13 q m
            show upd H13 wl _ q.1 = _
            rw [upd_ne (notT z w13)]
            exact z
          refine ⟨L' ++ [(mv here o, sg * g)], ws2 ++ [(p, mv here o)], _, _, _, _, rfl, sPut s13 hwl0, by rw [upd_ne wd]; exact d13, w14, fun q m => t14 q (by simp only [List.cons_append, List.mem_cons]; exact .inr m), t14 _ (by simp), ?_, ?_⟩
          · rw [List.map_append]
            exact mid2
          · rw [List.length_append, List.length_append, List.length_singleton, List.length_singleton]
            omega
      · rintro σ H' ⟨L', ws2, y6, y7, y8, y9, rfl, c2, c3, c4, c5, c6, c7, c8⟩
        rw [hts.len] at c7
        exact ⟨L', ws2, _, y6, y7, y8, y9, rfl, c2, c3, c4, c5, c7.finish, c8⟩
end
end S16

/-! C(e, .., *xs) by an __init__ with *args, where no repr is under way -/
namespace L2
open PySem PySem.Spec PyProof.Rows
theorem pe_makeSG {X : Cx} {CX : CXT} {n : Nat} {C g : Addr} {pr : Sp} {E : XK} {nm : Str} {e1 : Expr} {er : List Expr} {ta : TA} {pn pc : Pos} (mk : Mk X.K C g) (init : FnRG X.prog X.w X.K X.mg X.base CX n g pr) (quiet : X.A.guards = some []) (room : Room (n + 1) X.A)
    (gl : Gl X nm) (at_ : X.mg nm = some (.ref C)) (pass : Passes CX X E) (args : PA X (e1 :: er) ta) (nd : (nm == ("__debug__" : Str)) = false := by decide) (st : starEach (e1 :: er) X.env = (false, eval e1 X.env) :: starEach er X.env := by rfl)
    (star : (backTo pc (starEach er X.env)).any (·.1) = true := by rfl) : PE X (.Call (.Name nm pn) (e1 :: er) [] pc) (StX.tMakeR C pr E ta) := by
  refine ⟨fun pins s0 σ H W J w => wpAny_Call_Name_kw (ld_glob J gl at_ ?_ nd)⟩
  refine PySem.W.callWith_S2 (h₀ := X.base) J.ok.mod.kin mk.kp (thn (args.run pc pins s0 σ H _ J w) ?_) st star
  rintro us s1 ⟨as, H1, J1, rel, w1⟩
  exact ⟨J1.kIn, made_by mk init quiet room pass J1 rel w1⟩
end L2

namespace S16
open PySem L2 GM
open PySem.W (EachIs)
/-! ### tables -/
abbrev fS : Str := "own_slots"
abbrev fT : Str := "own_turns"
/-- a turn as the program makes them -/
def TurnS (H : Hp) (v : V) (p : Turn) : Prop := ∃ t u, v = .ref t ∧ H t = some (.tup [.ref u, .int p.2]) ∧ H u = some (.tup (p.1.map V.int))
theorem TurnS.same {H H' : Hp} {v : V} {p : Turn} (e : Same H H') (h : TurnS H v p) : TurnS H' v p := by
  obtain ⟨t, u, rfl, h1, h2⟩ := h
  exact ⟨t, u, rfl, e _ _ h1, e _ _ h2⟩
theorem TurnS.is {K : PySem.W.Frag} {H : Hp} {v : V} {p : Turn} (h : TurnS H v p) : IsTurn K H v p := by
  obtain ⟨t, u, rfl, h1, h2⟩ := h
  exact ⟨t, u, rfl, .inl (.inl h1), .inl (.inl h2)⟩
abbrev TurnsS (H : Hp) : List V → List Turn → Prop := EachIs (TurnS H)
theorem TurnsS.same {H H' : Hp} {vs : List V} {ps : List Turn} (e : Same H H') (h : TurnsS H vs ps) : TurnsS H' vs ps := h.mono fun _ _ z => z.same e
theorem TurnsS.are {K : PySem.W.Frag} {H : Hp} {vs : List V} {ps : List Turn} (h : TurnsS H vs ps) : TurnsAre K H vs ps := by
  induction h with
  | nil => exact trivial
  | cons a _ ih => exact ⟨a.is, ih⟩
theorem each_snoc {α β : Type} {R : α → β → Prop} {a : α} {b : β} {as : List α} {bs : List β} (h : EachIs R as bs) (r : R a b) : EachIs R (as ++ [a]) (bs ++ [b]) := by
  induction h with
  | nil => exact .cons r .nil
  | cons x _ ih => exact .cons x ih
theorem each_get {α β : Type} {R : α → β → Prop} {as : List α} {bs : List β} (h : EachIs R as bs) : ∀ {i : Nat} {a : α}, as[i]? = some a → ∃ b, bs[i]? = some b ∧ R a b := by
  induction h with
  | nil => intro i a e; cases e
  | @cons x y _ _ r _ ih =>
    intro i a e
    cases i with
    | zero =>
      obtain rfl : x = a := Option.some.inj e
      exact ⟨y, rfl, r⟩
    | succ i => exact ih e
theorem each_mem {α β : Type} {R : α → β → Prop} {as : List α} {bs : List β} (h : EachIs R as bs) {p : α × β} (m : p ∈ as.zip bs) : R p.1 p.2 := h.zip p m
/-- turns in a list -/
def GroupAt (H : Hp) (a : Addr) (L : List Turn) : Prop := ∃ vs, H a = some (.lst vs) ∧ TurnsS H vs L
theorem GroupAt.same {H H' : Hp} {a : Addr} {L : List Turn} (e : Same H H') (h : GroupAt H a L) : GroupAt H' a L := by
  obtain ⟨vs, h1, h2⟩ := h
  exact ⟨vs, e _ _ h1, TurnsS.same e h2⟩
/-- the group that T leads to, in order -/
structure Grp (n : Nat) (T L : List Turn) : Prop where
  srt : Srt L
  lists : Lists n T L
  nd : (L.map Prod.fst).Nodup
def TabAt (C : Addr) (H : Hp) (a : Addr) (z : Str) (ss : List Str) (L : List Turn) : Prop := ∃ dx sa ga, H a = some (.ins C dx [(fN, .str z), (fS, .ref sa), (fT, .ref ga)]) ∧ H sa = some (.tup (ss.map V.str)) ∧ GroupAt H ga L
theorem TabAt.same {C : Addr} {H H' : Hp} {a : Addr} {z : Str} {ss : List Str} {L : List Turn} (e : Same H H') (h : TabAt C H a z ss L) : TabAt C H' a z ss L := by
  obtain ⟨dx, sa, ga, h1, h2, h3⟩ := h
  exact ⟨dx, sa, ga, e _ _ h1, e _ _ h2, h3.same e⟩
structure Tc (K : PySem.W.Frag) (mg : Str → Option Value) (C : Addr) : Prop where
  cl : Cls K C
  nN : NoAttr K C fN
  nS : NoAttr K C fS
  nT : NoAttr K C fT
  mgC : mg "Table" = some (.ref C)
  ic : PySem.W.findIn K (.ref C) "__class__" = some (some (.builtin "object.__class__"))
  gt : PySem.W.specialIn K (.builtin "object.__class__") "__get__" = some (some (.builtin "getset_descriptor.__get__"))
  tk : PySem.W.takesIn K (.builtin "object.__class__") = some true
  mo : PySem.W.mroIn K C (.type "object") = some true
theorem SameX.same {x : Addr} {H H' H2 : Hp} (a : SameX x H H') (b : Same H' H2) : SameX x H H2 := fun c o hc e => b c o (a c o hc e)
theorem SameX.trans {x : Addr} {H H' H2 : Hp} (a : SameX x H H') (b : SameX x H' H2) : SameX x H H2 := fun c o hc e => b c o hc (a c o hc e)
theorem SameX.of {x : Addr} {H H' : Hp} (a : Same H H') : SameX x H H' := fun c o _ e => a c o e
theorem SameX.put {x : Addr} {H H' : Hp} {o : HO} (a : SameX x H H') : SameX x H (upd H' x o) := fun c p hc e => by rw [upd_ne hc]; exact a c p hc e
theorem SameX.free {x : Addr} {H H' : Hp} (a : SameX x H H') {l : Addr} (hl : l ≠ x) (h : H' l = none) : H l = none := by
  cases e : H l with
  | none => rfl
  | some o => rw [a l o hl e] at h; cases h
/-- behind a lock -/
theorem sUnlock {H G : Hp} {d : Addr} {x u : HO} (s : Same (upd H d x) G) (h : H d = some u) : Same H (upd G d u) := fun b o e => by
  by_cases hb : b = d
  · subst hb
    rw [upd_same]
    exact h.symm.trans e
  · rw [upd_ne hb]
    exact s b o (by rw [upd_ne hb]; exact e)
/-- texts in a list or a tuple, made by the program -/
def TextsS (H : Hp) (a : Addr) (ss : List Str) : Prop := H a = some (.lst (ss.map V.str)) ∨ H a = some (.tup (ss.map V.str))
theorem TextsS.at_ {K : PySem.W.Frag} {H : Hp} {a : Addr} {ss : List Str} (h : TextsS H a ss) : TextsAt K H a ss := h.imp (fun z => SqL.of z) (fun z => .inl (.inl z))
theorem TextsS.same {H H' : Hp} {a : Addr} {ss : List Str} (e : Same H H') (h : TextsS H a ss) : TextsS H' a ss := h.imp (e _ _) (e _ _)
theorem TextsS.x {H H' : Hp} {a x : Addr} {ss : List Str} (e : SameX x H H') (ne : a ≠ x) (h : TextsS H a ss) : TextsS H' a ss := h.imp (e _ _ ne) (e _ _ ne)
/-- tuple(texts) -/
def tTexts (i : Nat) : TE := fun σ H Q => ∃ (a : Addr) (ss : List Str), σ[i]? = some (some (.ref a)) ∧ TextsS H a ss ∧ ∀ (H' : Hp) (sa : Addr), Same H H' → H' sa = some (.tup (ss.map V.str)) → Q (.ref sa) H'
theorem pe_texts {X : Cx} {x : Str} {i : Nat} {p p2 pos : Pos} (hg : Gl X "tuple") (hm : X.mg "tuple" = none) (he : PE X (.Name x p2) (tVar i)) : PE X (.Call (.Name "tuple" p) [.Name x p2] [] pos) (tTexts i) := by
  refine PE.imp (pe_callTy call_tuple_of hg hm (by decide +kernel) (pa_cons he pa_nil)) ?_
  rintro σ H Q ⟨a, ss, h1, h2, k⟩
  rcases h2 with h2 | h2
  · exact ⟨_, h1, a, ss.map V.str, rfl, .inl ⟨SqL.of h2, fun p hp => k _ p (sNew (Same.refl _) hp) upd_same⟩⟩
  · exact ⟨_, h1, a, ss.map V.str, rfl, .inr ⟨.inl (.inl h2), k _ a (Same.refl _) h2⟩⟩
theorem are_of {ss : List Str} {T : List Turn} (h : ∀ p ∈ T, TurnOk ss p) : Are ss.length T := fun p m => ⟨(h p m).1.1, (h p m).2⟩
section
variable {P : Program} {w : World} {K : PySem.W.Frag} {mg : Str → Option Value} {base : Heap}
theorem sTupX {H H' : Hp} {a x C dx : Addr} {fs : List (Str × V)} {xs : List V} (e : SameX x H H') (hx : H x = some (.ins C dx fs)) (h : SqT K H a xs) : SqT K H' a xs := by
  rcases h with (h | ⟨o, h⟩) | h
  · exact .inl (.inl (e _ _ (ne_of h hx (fun z => by cases z)) h))
  · exact .inl (.inr ⟨o, e _ _ (ne_of h hx (fun z => by cases z)) h⟩)
  · exact .inr h
theorem TurnsAre.x {H H' : Hp} {x C dx : Addr} {fs : List (Str × V)} (e : SameX x H H') (hx : H x = some (.ins C dx fs)) : ∀ {vs : List V} {ps : List Turn}, TurnsAre K H vs ps → TurnsAre K H' vs ps
  | [], [], _ => trivial
  | _ :: _, _ :: _, ⟨⟨t, u, e1, h1, h2⟩, h⟩ => ⟨⟨t, u, e1, sTupX e hx h1, sTupX e hx h2⟩, TurnsAre.x e hx h⟩
  | [], _ :: _, h => h.elim
  | _ :: _, [], h => h.elim
theorem TurnS.thaw {H : Hp} {v : V} {p : Turn} {a : Addr} {o : Obj} {u : HO} {kvs : List (List Key × V)} (h : TurnS H v p) (ha : H a = some (.frz o (.dT kvs))) : TurnS (upd H a u) v p := by
  obtain ⟨t, w, rfl, h1, h2⟩ := h
  exact ⟨t, w, rfl, by rw [upd_ne (ne_of h1 ha (fun z => by cases z))]; exact h1, by rw [upd_ne (ne_of h2 ha (fun z => by cases z))]; exact h2⟩
theorem TurnS.dp {H : Hp} {v : V} {p : Turn} (h : TurnS H v p) : Dp K H v (turnD p) := by
  obtain ⟨t, w, rfl, h1, h2⟩ := h
  exact .tup (.inl (.inl h1)) (.cons (dp_ord (.inl (.inl h2))) (.cons (.int _) .nil))
theorem deep_turn (p : Turn) : (turnD p).depth ≤ 60 := by
  have d := PySem.W.depth_ints p.1
  simp only [PyData.depth, PyData.depthAll, d]
  omega
theorem TurnS.put {H : Hp} {v : V} {p : Turn} {a : Addr} {xs ys : List V} (h : TurnS H v p) (ha : H a = some (.lst xs)) : TurnS (upd H a (.lst ys)) v p := by
  obtain ⟨t, u, rfl, h1, h2⟩ := h
  exact ⟨t, u, rfl, by rw [upd_ne (ne_of h1 ha (fun z => by cases z))]; exact h1, by rw [upd_ne (ne_of h2 ha (fun z => by cases z))]; exact h2⟩
/-! ### Table.__init__ -/
def spTInit (K : PySem.W.Frag) (C D : Addr) : Sp := fun vs H Q E => ∃ (x dx a t : Addr) (z : Str) (ss : List Str) (tv : List V) (T : List Turn), vs = [.ref x, .str z, .ref a, .ref t] ∧ H x = some (.ins C dx []) ∧ NameOk z ∧ TextsS H a ss ∧ SlotsOk ss ∧
  H t = some (.tup tv) ∧ TurnsAre K H tv T ∧ (∀ p ∈ T, TurnOk ss p) ∧ T.length ≤ 100 ∧ (¬ Single ss.length T → ∀ (H' : Hp) (d : Addr), SameX x H H' → H d = none → H' d = some (.xd [(fN, .str z)]) → E (.ref D) (some d) H') ∧
  ∀ (H' : Hp) (sa ga : Addr) (L : List Turn), SameX x H H' → H' x = some (.ins C dx [(fN, .str z), (fS, .ref sa), (fT, .ref ga)]) → H' sa = some (.tup (ss.map V.str)) → GroupAt H' ga L → Grp ss.length T L → Q .non H'
abbrev nTInit : List Str := ["self", "name", "slots", "turns", "position", "turn", "signs", "order"]
theorem scTInit : FnScope nTInit (([("self" : Str), "name", "slots"] : List Str) ++ [("turns" : Str)]) (defScope sTInit) := ⟨rfl, rfl, rfl, by decide +kernel, rfl, by decide +kernel, by decide +kernel⟩
/-- the two parts of the module that the class calls -/
structure TDs (P : Program) (w : World) (K : PySem.W.Frag) (mg : Str → Option Value) (base : Heap) (D : Addr) : Prop where
  wn : Df P w K mg base "want_name" ["value"] 2 spWantName
  ws : Df P w K mg base "want_slots" ["slots"] 2 (spWantSlots K)
  it : Df P w K mg base "is_turn" ["value", "slots"] 3 (spIsTurn K)
  mv : Df P w K mg base "moved" ["places", "order"] 1 (spMoved K)
  cg : ∃ f fd, mg "closed_group" = some (.ref f) ∧ PySem.W.keepIn K (.ref f) = true ∧ Binds K fd ["name", "many", "turns"] [] ∧ FnG P w K mg base (L2.CX P w) 5 f fd ["name", "many", "turns"] (spClosed K D)
theorem ok_tinit {f C D : Addr} {fd : FuncData} (F : Fun K "__init__" "Table.__init__" sTInit f fd) (B : Bn mg) (N : Tc K mg C) (M : TDs P w K mg base D) :
    FnRG P w K mg base (L2.CX P w) 6 f (fun vs H Q E => ∃ ws rest, vs = ws ++ rest ∧ ws.length = (["self", "name", "slots"] : List Str).length ∧ rest.length ≤ sizeLine ∧ ∀ p, H p = Option.none → spTInit K C D (ws ++ [V.ref p]) (upd H p (.tup rest)) Q E) := by
  obtain ⟨oc, od, kV, doc, pm, an, cdv, ct, osl, rfl, lk, hcd⟩ := F.ex
  refine fn_starG (ps := ["self", "name", "slots"]) (pv := "turns") lk hcd scTInit StX.cxUp (fun us rest hl => ?_) (fun A outer s H vs Q E gd hr h => ?_)
  · match us, rest, hl with
    | [u, v, x], [], _ => rfl
    | [u, v, x], a :: b, _ => rfl
  · obtain ⟨x, dx, a, t, z, ss, tv, T, rfl, hx, zok, ha, sok, ht, hts, tok, few, xv, q⟩ := h
    obtain ⟨fc, fdc, mc, kc, bc, G⟩ := M.cg
    have hu := hr.units
    have hu1 := hu_of hr
    have room : (A.deeper (PyProof.Rows.envOfC "Table.__init__" (defScope sTInit) s.heap.objs.size f cdv)).units + 70 < cLine := by
      have := hr.un
      omega
    have h2 : Room 2 _ := hr.mono (by decide)
    have h3 : Room 3 _ := hr.mono (by decide)
    refine ⟨_, pss_cons (ps_expr (pe_df M.wn h2 (by rfl) (pa_cons (pv 1) pa_nil))) (pss_cons (ps_expr (pe_df M.ws h2 (by rfl) (pa_cons (pv 2) pa_nil)))
      (pss_cons (ps_for (passes_of rfl) rfl (pi_enumT (by rfl) B.enum (pa_cons (pv 3) pa_nil)) (pg_tup rfl (pgs_cons (pg_name (i := 4) scTInit.nd rfl (Or.inl rfl)) (pgs_cons (pg_name (i := 5) scTInit.nd rfl (Or.inl rfl)) pgs_nil)))
        (pss_one (ps_if (pt_not (pt_val (pe_df M.it h3 (by rfl) (pa_cons (pv 5) (pa_cons (pv 2) pa_nil))))) (pss_one ps_never) pss_nil)))
      (pss_cons (ps_fld (pv 0) (pv 1) rfl)
      (pss_cons (ps_fld (pv 0) (pe_texts (by rfl) B.tuple (pv 2)) rfl)
      (pss_cons (ps_set (i := 6) scTInit.nd rfl (Or.inr rfl) (pe_callG G (deeper_guards.trans gd) hr (by rfl) mc kc bc .nil (L2.passes_call (L2.takes_of (E := E) rfl rfl rfl rfl) fun _ _ _ _ z => z) (pa_cons (pv 1) (pa_cons (pe_callB call_len_seq (by rfl) B.len PySem.boot_len (pa_cons (pv 2) pa_nil)) (pa_cons (pv 3) pa_nil))) (by decide) (by rfl) (by rfl)))
      (pss_one (ps_fld (pv 0) (pe_callB (cr_sortB room) (by rfl) B.sorted (by decide +kernel) (pa_cons (pe_lock (pe_lc (own := [("order", 7)]) (g := gName 7) (tt := tYes) (te := tTup (tCons (tVar 7) (tCons (tDGet (tVar 6) (tVar 7)) tNil))) (by rfl) scTInit.nd (pi_keys (pv 6)) (blkOk_by (own := [("order", 7)]) (N := nTInit) (sc := defScope sTInit) (by decide +kernel))
        (fun _ _ _ _ _ => pg_name (i := 7) scTInit.nd rfl (Or.inl rfl)) (fun _ _ _ _ _ => pts_nil) (fun _ _ _ _ _ => pe_tup (pa_cons (pv 7) (pa_cons (pe_dget hu1 (pv 6) (pv 7) (fun _ _ => rfl)) pa_nil))))) pa_nil)) rfl))))))), ?_⟩
    have nxa : a ≠ x := by
      rcases ha with h | h
      · exact ne_of h hx (fun z => by cases z)
      · exact ne_of h hx (fun z => by cases z)
    have nxt : t ≠ x := ne_of ht hx (fun z => by cases z)
    refine ⟨_, rfl, z, rfl, zok, fun H1 s1 => ?_⟩
    refine ⟨_, rfl, a, ss, rfl, (ha.same s1).at_, sok, fun H2 s2 => ?_⟩
    have s3 := Same.trans s1 s2
    refine ⟨_, rfl, t, _, rfl, .inl (.inl (s3 _ _ ht)), for_it (walk_enumT (K := K) (a := t) (xs := tv)) (fun i σ H' => Same H H' ∧ ∃ y4 y5, σ = [some (.ref x), some (.str z), some (.ref a), some (.ref t), y4, y5, none, none]) ⟨s3, none, none, rfl⟩ (fun i σ H' _ h => .inl (.inl (h.1 _ _ ht))) ?_ ?_⟩
    · rintro i y σ H4 _ hi ⟨s4, y4, y5, rfl⟩ ⟨TT, x1, x2, rfl, hT, rfl, e1, e2⟩
      have s5 := sNew (o := .tup [x1, x2]) s4 hT
      obtain ⟨p, hp, pt⟩ := (hts.same s5).get e2
      refine ⟨TT, _, rfl, .inl (.inl upd_same), rfl, _, _, rfl, _, _, rfl, rfl, ?_⟩
      exact ⟨_, rfl, _, rfl, _, a, p, ss, rfl, pt, (ha.same s5).at_, sok.2.1, tok p (List.mem_of_getElem? hp), fun H6 s6 => ⟨true, rfl, Same.trans s5 s6, _, _, rfl⟩⟩
    rintro σ H4 ⟨s4, y4, y5, rfl⟩
    refine ⟨_, rfl, _, rfl, x, C, dx, [], rfl, s4 _ _ hx, N.cl, N.nN, (by show 0 < 1000; decide), ?_⟩
    have x5 : SameX x H (upd H4 x (.ins C dx [(fN, .str z)])) := SameX.put (SameX.of s4)
    have hx5 : upd H4 x (.ins C dx [(fN, .str z)]) x = some (.ins C dx [(fN, .str z)]) := upd_same
    show tSeq _ _ _ _ (upd H4 x (.ins C dx [(fN, .str z)]))
    generalize upd H4 x (.ins C dx [(fN, .str z)]) = H5 at x5 hx5
    refine ⟨a, ss, rfl, ha.x x5 nxa, fun H6 sa s6 hsa => ?_⟩
    refine ⟨_, rfl, x, C, dx, _, rfl, s6 _ _ hx5, N.cl, N.nS, (by show 1 < 1000; decide), ?_⟩
    have nsa : sa ≠ x := ne_of hsa (s6 _ _ hx5) (fun z => by cases z)
    have x7 : SameX x H (upd H6 x (.ins C dx [(fN, .str z), (fS, .ref sa)])) := SameX.put (x5.same s6)
    have hx7 : upd H6 x (.ins C dx [(fN, .str z), (fS, .ref sa)]) x = some (.ins C dx [(fN, .str z), (fS, .ref sa)]) := upd_same
    have hsa7 : upd H6 x (.ins C dx [(fN, .str z), (fS, .ref sa)]) sa = some (.tup (ss.map V.str)) := by rw [upd_ne nsa]; exact hsa
    show tSeq _ _ _ _ (upd H6 x (.ins C dx [(fN, .str z), (fS, .ref sa)]))
    generalize upd H6 x (.ins C dx [(fN, .str z), (fS, .ref sa)]) = H7 at x7 hx7 hsa7
    have len : (((ss.map V.str).length : Nat) : Int) = ((ss.length : Nat) : Int) := by rw [List.length_map]
    have ht7 : H7 t = some (.tup tv) := x7 _ _ nxt ht
    have ha7 := ha.x x7 nxa
    refine ⟨_, rfl, _, rfl, a, _, rfl, ha7.at_, _, rfl, z, ss.length, t, tv, T, congrArg (fun i : Int => [V.str z, V.int i, V.ref t]) len, zok, sok.2.1, .inl (.inl ht7), ?_, are_of tok, few, fun no => ?_, fun H8 d L s8 hd hd8 lists nd lfew => ?_⟩
    · exact hts.x x7 hx
    · intro H' d s' hd e
      have ndx : d ≠ x := fun e' => by rw [e', hx7] at hd; cases hd
      exact xv no H' d (x7.same s') (x7.free ndx hd) e
    have x8 := x7.same s8
    have hx8 := s8 _ _ hx7
    have hsa8 := s8 _ _ hsa7
    refine ⟨d, .dT (kvsOf L), hd8, True.intro, fun ofz => ⟨_, rfl, d, ofz, rfl, .inr ⟨kvsOf L, upd_same, fun E1 hE1 => ?_⟩⟩⟩
    have fz : upd H8 d (.frz ofz (.dT (kvsOf L))) d = some (.frz ofz (.dT (kvsOf L))) := upd_same
    have back : ∀ G, Same (upd H8 d (.frz ofz (.dT (kvsOf L)))) G → Same H8 (upd G d (.dT (kvsOf L))) := fun G s => sUnlock s hd8
    generalize upd H8 d (.frz ofz (.dT (kvsOf L))) = G0 at fz back hE1
    refine lc_it (walk_keysT (d := d) (o := ofz) (kvs := kvsOf L)) (fun i G => Same G0 G ∧ ∃ vs, G E1 = some (.lst vs) ∧ TurnsS G vs (L.take i)) ⟨sNew (Same.refl G0) hE1, [], upd_same, .nil⟩ (fun i G _ h => h.1 _ _ fz) ?_ ?_
    · rintro i v _ G hi ⟨sG, vs, hvs, tvs⟩ ⟨rfl, k, y, u, hk, rfl, hu'⟩
      obtain ⟨p, hp, e⟩ : ∃ p, L[i]? = some p ∧ (keyOf p.1, V.int p.2) = (k, y) := by
        have z := hk
        unfold kvsOf at z
        rw [List.getElem?_map] at z
        cases hq : L[i]? with
        | none => rw [hq] at z; cases z
        | some p => rw [hq] at z; exact ⟨p, rfl, Option.some.inj z⟩
      obtain ⟨rfl, rfl⟩ := Prod.mk.inj e
      have pm := List.mem_of_getElem? hp
      have get : DGet G d (.ref u) (some (.int p.2)) := .inr ⟨kvsOf L, keyOf p.1, u, .inr ⟨ofz, sG _ _ fz⟩, rfl, hu', (kvs_some nd (by exact pm)).symm⟩
      refine ⟨rfl, _, rfl, _, rfl, _, rfl, d, _, rfl, get, (by show 2 ≤ sizeLine; decide), fun TT hTT => ?_⟩
      have sT := sNew (o := .tup [.ref u, .int p.2]) (Same.refl G) hTT
      have tl : (L.take i).length = vs.length := (EachIs.length tvs).symm
      have vfew : vs.length ≤ 24 := by
        rw [← tl, List.length_take]
        omega
      have eE : upd G TT (.tup [.ref u, .int p.2]) E1 = some (.lst vs) := sT _ _ hvs
      have made : TurnS (upd G TT (.tup [.ref u, .int p.2])) (.ref TT) p := ⟨TT, u, rfl, upd_same, by
        have z := sT _ _ hu'
        rwa [keyOf_kV] at z⟩
      refine ⟨vs, eE, lt_line (by omega), sPut (Same.trans sG sT) hE1, vs ++ [V.ref TT], upd_same, ?_⟩
      rw [List.take_add_one, hp]
      exact each_snoc ((TurnsS.same sT tvs).mono fun _ _ h => h.put eE) (made.put eE)
    · rintro G ⟨sG, vs, hvs, tvs⟩
      have all : L.take (kvsOf L).length = L := by
        unfold kvsOf
        rw [List.length_map, List.take_length]
      rw [all] at tvs
      have sU := back G sG
      refine ⟨sG _ _ fz, E1, V × Turn, Prod.fst, fun b => turnD b.2, vs.zip L, rfl, ?_, ?_, ?_, ?_, ?_, fun ga hga => ?_⟩
      · rw [List.map_fst_zip (Nat.le_of_eq (EachIs.length tvs))]
        refine SqL.of ?_
        rw [upd_ne (ne_of hvs (sG _ _ fz) (fun z => by cases z))]
        exact hvs
      · intro b m
        exact ((each_mem tvs m).thaw (sG _ _ fz)).dp
      · exact fun b _ => deep_turn b.2
      · exact PySem.W.AllAlike.of fun b b' => alike_turn b.2 b'.2
      · exact PySem.W.Sortable.tuples fun b => ⟨ordD b.2.1, [.int b.2.2], rfl⟩
      · have tU : ∀ b ∈ vs.zip L, TurnS (upd G d (.dT (kvsOf L))) b.1 b.2 := fun b m => (each_mem tvs m).thaw (sG _ _ fz)
        have xU := x8.same sU
        have hxU := sU _ _ hx8
        have hsaU := sU _ _ hsa8
        generalize upd G d (.dT (kvsOf L)) = G1 at tU xU hxU hsaU hga
        have srt := sorted_turns (fun b : V × Turn => b.2) (vs.zip L)
        have pm : ((vs.zip L).mergeSort (PySem.W.dataLe false fun b : V × Turn => turnD b.2)).Perm (vs.zip L) := List.mergeSort_perm _ _
        generalize (vs.zip L).mergeSort (PySem.W.dataLe false fun b : V × Turn => turnD b.2) = out at srt pm hga ⊢
        have sg := sNew (o := .lst (out.map Prod.fst)) (Same.refl G1) hga
        have pL : (out.map Prod.snd).Perm L := by
          have z := pm.map Prod.snd
          rwa [List.map_snd_zip (Nat.le_of_eq (EachIs.length tvs).symm)] at z
        have nga : ga ≠ x := fun e => by rw [e, hxU] at hga; cases hga
        have xg := xU.same sg
        have hxg := sg _ _ hxU
        have hsag := sg _ _ hsaU
        have grp : GroupAt (upd G1 ga (.lst (out.map Prod.fst))) ga (out.map Prod.snd) := ⟨_, upd_same, by
          have z : ∀ b ∈ out, TurnS (upd G1 ga (.lst (out.map Prod.fst))) b.1 b.2 := fun b m => (tU b (pm.mem_iff.mp m)).same sg
          exact EachIs.of z⟩
        generalize upd G1 ga (.lst (out.map Prod.fst)) = G2 at xg hxg hsag grp
        refine ⟨_, rfl, x, C, dx, _, rfl, hxg, N.cl, N.nT, (by show 2 < 1000; decide), ?_⟩
        obtain ⟨gv, g1, g2⟩ := grp
        have ngx : ga ≠ x := ne_of g1 hxg (fun z => by cases z)
        refine q _ sa ga (out.map Prod.snd) (SameX.put xg) upd_same (by rw [upd_ne (ne_of hsag hxg (fun z => by cases z))]; exact hsag) ⟨gv, by rw [upd_ne ngx]; exact g1, ?_⟩ ⟨srt, fun p => pL.mem_iff.trans (lists p), (pL.map Prod.fst).nodup_iff.mpr nd⟩
        exact g2.mono fun v p ⟨t', u', e1, e2, e3⟩ => ⟨t', u', e1, by rw [upd_ne (ne_of e2 hxg (fun z => by cases z))]; exact e2, by rw [upd_ne (ne_of e3 hxg (fun z => by cases z))]; exact e3⟩
end
end S16

namespace S16
open PySem L2 GM
open PySem.W (EachIs)
/-- a method of Table -/
structure Mt (P : Program) (w : World) (K : PySem.W.Frag) (mg : Str → Option Value) (base : Heap) (C : Addr) (m : Str) (ps : List Str) (k : Nat) (sp : Sp) : Prop where
  ex : ∃ f fd, Meth K C m f ∧ Binds K fd ps [] ∧ FnOk P w K mg base CX0 k f fd ps sp
theorem fld_none {z sa ga : V} {m : Str} (h1 : m ≠ fN) (h2 : m ≠ fS) (h3 : m ≠ fT) : ([(fN, z), (fS, sa), (fT, ga)] : List (Str × V)).lookup m = none := by
  simp only [List.lookup]
  rw [show (m == fN) = false from beq_eq_false_iff_ne.mpr h1, show (m == fS) = false from beq_eq_false_iff_ne.mpr h2, show (m == fT) = false from beq_eq_false_iff_ne.mpr h3]
section
variable {P : Program} {w : World} {K : PySem.W.Frag} {mg : Str → Option Value} {base : Heap}
/-! ### slots, turns -/
def spTSlots (C : Addr) : Sp := fun vs H Q _ => ∃ (p : Addr) (z : Str) (ss : List Str) (L : List Turn), vs = [.ref p] ∧ TabAt C H p z ss L ∧ ∀ sa, H sa = some (.tup (ss.map V.str)) → Q (.ref sa) H
theorem scTSlots : FnScope ["self"] ["self"] (defScope sTSlots) := ⟨rfl, rfl, rfl, by decide +kernel, rfl, by decide +kernel, by decide +kernel⟩
theorem ok_tslots {f C : Addr} {fd : FuncData} (F : Fun K "slots" "Table.slots" sTSlots f fd) (N : Tc K mg C) : FnOk P w K mg base CX0 1 f fd ["self"] (spTSlots C) := by
  refine F.ok scTSlots (fun vs H Q E h => ?_) (fun cdv A outer s H vs Q E hr h => ?_)
  · obtain ⟨p, z, ss, L, rfl, _⟩ := h
    rfl
  · obtain ⟨p, z, ss, L, rfl, ⟨dx, sa, ga, h1, h2, h3⟩, q⟩ := h
    refine ⟨_, pss_one (ps_ret (pe_fld (pv 0) rfl)), ?_⟩
    exact ⟨_, rfl, p, C, dx, _, _, rfl, h1, N.cl, N.nS, rfl, q sa h2⟩
def spTTurns (C : Addr) : Sp := fun vs H Q _ => ∃ (p : Addr) (z : Str) (ss : List Str) (L : List Turn), vs = [.ref p] ∧ TabAt C H p z ss L ∧ ∀ H' l, Same H H' → H l = none → GroupAt H' l L → Q (.ref l) H'
theorem scTTurns : FnScope ["self"] ["self"] (defScope sTTurns) := ⟨rfl, rfl, rfl, by decide +kernel, rfl, by decide +kernel, by decide +kernel⟩
theorem ok_tturns {f C : Addr} {fd : FuncData} (F : Fun K "turns" "Table.turns" sTTurns f fd) (B : Bn mg) (N : Tc K mg C) : FnOk P w K mg base CX0 1 f fd ["self"] (spTTurns C) := by
  refine F.ok scTTurns (fun vs H Q E h => ?_) (fun cdv A outer s H vs Q E hr h => ?_)
  · obtain ⟨p, z, ss, L, rfl, _⟩ := h
    rfl
  · obtain ⟨p, z, ss, L, rfl, ⟨dx, sa, ga, h1, h2, gv, h3, h4⟩, q⟩ := h
    refine ⟨_, pss_one (ps_ret (pe_callTy call_list_of (by rfl) B.list (by decide +kernel) (pa_cons (pe_fld (pv 0) rfl) pa_nil))), ?_⟩
    refine ⟨_, rfl, p, C, dx, _, _, rfl, h1, N.cl, N.nT, rfl, ga, _, rfl, .inl (SqL.of h3), fun l hl => ?_⟩
    have s1 := sNew (o := .lst gv) (Same.refl H) hl
    exact q _ l s1 hl ⟨gv, upd_same, TurnsS.same s1 h4⟩
/-! ### changes_sign -/
def spTSign (C : Addr) : Sp := fun vs H Q _ => ∃ (p : Addr) (z : Str) (ss : List Str) (L : List Turn), vs = [.ref p] ∧ TabAt C H p z ss L ∧ L.length ≤ 100 ∧ ∀ H', Same H H' → Q (.bl (L.any fun t => decide (t.2 < 0))) H'
abbrev nTSign : List Str := ["self", "order", "sign"]
theorem scTSign : FnScope nTSign ["self"] (defScope sTSign) := ⟨rfl, rfl, rfl, by decide +kernel, rfl, by decide +kernel, by decide +kernel⟩
theorem ok_tsign {f C : Addr} {fd : FuncData} (F : Fun K "changes_sign" "Table.changes_sign" sTSign f fd) (B : Bn mg) (N : Tc K mg C) : FnOk P w K mg base CX0 1 f fd ["self"] (spTSign C) := by
  refine F.ok scTSign (fun vs H Q E h => ?_) (fun cdv A outer s H vs Q E hr h => ?_)
  · obtain ⟨p, z, ss, L, rfl, _⟩ := h
    rfl
  · obtain ⟨p, z, ss, L, rfl, ⟨dx, sa, ga, h1, h2, gv, h3, h4⟩, few, q⟩ := h
    refine ⟨_, pss_one (ps_ret (pe_callB (cr_any rfl) (by rfl) B.any (by decide +kernel) (pa_cons (pe_lc (own := [("order", 1), ("sign", 2)]) (g := gTup K 2 (gCons (gName 1) (gCons (gName 2) gNil))) (tt := tYes) (te := tOp (rI0 fun i j => .bl (decide (i < j))) (tVar 2) (tC (.int 0))) (by rfl) scTSign.nd (pi_list (pe_fld (pv 0) rfl))
      (blkOk_by (own := [("order", 1), ("sign", 2)]) (N := nTSign) (sc := defScope sTSign) (by decide +kernel))
      (fun _ _ _ _ _ => pg_tup rfl (pgs_cons (pg_name (i := 1) scTSign.nd rfl (Or.inl rfl)) (pgs_cons (pg_name (i := 2) scTSign.nd rfl (Or.inl rfl)) pgs_nil))) (fun _ _ _ _ _ => pts_nil) (fun _ _ _ _ _ => pe_cmpR op_lt (pv 2) pe_int (nomark _))) pa_nil))), ?_⟩
    refine ⟨_, rfl, p, C, dx, _, _, rfl, h1, N.cl, N.nT, rfl, ga, rfl, ⟨_, SqL.of h3⟩, fun D hD => ?_⟩
    have len : gv.length = L.length := EachIs.length h4
    refine lc_new (walk_list (K := K) (a := ga) (xs := gv)) (fun i => (L.map fun t => V.bl (decide (t.2 < 0)))[i]?) (by rw [len]; exact lt_line (by omega)) hD (fun H1 s1 => SqL.of (s1 _ _ h3)) ?_ ?_
    · rintro i v H1 _ hi s1 ⟨rfl, hv⟩ Kt Kn kt kn
      obtain ⟨t, ht, T, u, rfl, e1, e2⟩ := each_get (TurnsS.same s1 h4) hv
      refine ⟨T, _, rfl, .inl (.inl e1), rfl, _, _, rfl, _, _, rfl, rfl, rfl, _, rfl, _, _, rfl, rfl, kt _ _ ?_ (Same.refl _)⟩
      show (L.map fun t => V.bl (decide (t.2 < 0)))[i]? = _
      rw [List.getElem?_map, ht] <;> rfl
    · intro H1 s1 at_
      have e : kept (fun i => (L.map fun t => V.bl (decide (t.2 < 0)))[i]?) gv.length = (L.map fun t => decide (t.2 < 0)).map V.bl := by
        have z := kept_all (ys := L.map fun t => V.bl (decide (t.2 < 0))) (f := fun i => (L.map fun t => V.bl (decide (t.2 < 0)))[i]?) fun _ => rfl
        rw [List.length_map, ← len] at z
        rw [z, List.map_map] <;> rfl
      rw [e] at at_
      refine ⟨D, _, rfl, SqL.of at_, ?_⟩
      have a : (L.map fun t => decide (t.2 < 0)).any id = L.any fun t => decide (t.2 < 0) := by rw [List.any_map]; rfl
      rw [a]
      exact q H1 s1
/-! ### is_slot_places, want_places -/
def spTIsPl (K : PySem.W.Frag) (C : Addr) : Sp := fun vs H Q _ => ∃ (p t : Addr) (z : Str) (ss : List Str) (L : List Turn) (ns : List Int), vs = [.ref p, .ref t] ∧ TabAt C H p z ss L ∧ SqT K H t (ns.map V.int) ∧ ns.length ≤ 100 ∧ (∀ i ∈ ns, 0 ≤ i) ∧
  ∀ H', Same H H' → Q (.bl (decide (ns.length = ss.length))) H'
abbrev nTIsPl : List Str := ["self", "value", "place"]
theorem scTIsPl : FnScope nTIsPl ["self", "value"] (defScope sTIsPl) := ⟨rfl, rfl, rfl, by decide +kernel, rfl, by decide +kernel, by decide +kernel⟩
theorem ok_tispl {f C : Addr} {fd : FuncData} (F : Fun K "is_slot_places" "Table.is_slot_places" sTIsPl f fd) (B : Bn mg) (N : Tc K mg C) (DC : Df P w K mg base "is_count" ["value"] 2 spIsCount) : FnOk P w K mg base CX0 3 f fd ["self", "value"] (spTIsPl K C) := by
  refine F.ok scTIsPl (fun vs H Q E h => ?_) (fun cdv A outer s H vs Q E hr h => ?_)
  · obtain ⟨p, t, z, ss, L, ns, rfl, _⟩ := h
    rfl
  · obtain ⟨p, t, z, ss, L, ns, rfl, ⟨dx, sa, ga, h1, h2, h3⟩, ht, few, pos, q⟩ := h
    refine ⟨_, pss_cons (ps_if (PW.pt (pw_or (pt_not (pt_val (pe_callB call_isi (by rfl) B.isi (by decide +kernel) (pa_cons (pv 1) (pa_cons (pe_bltn (v := .ty "tuple") (by rfl) B.tuple (by decide +kernel) rfl) pa_nil)))))
        (pw_or1 (pt_cmpR op_ne (pe_callB call_len_seq (by rfl) B.len PySem.boot_len (pa_cons (pv 1) pa_nil)) (pe_callB call_len_seq (by rfl) B.len PySem.boot_len (pa_cons (pe_fld (pv 0) rfl) pa_nil)) (nomark _))))) (pss_one (ps_ret pe_bl)) pss_nil)
      (pss_one (ps_ret (pe_callB (cr_all rfl) (by rfl) B.all (by decide +kernel) (pa_cons (pe_lc (own := [("place", 2)]) (g := gName 2) (tt := tYes) (te := tCall spIsCount [] E0 (tCons (tVar 2) tNil)) (by rfl) scTIsPl.nd (pi_tup (pv 1)) (blkOk_by (own := [("place", 2)]) (N := nTIsPl) (sc := defScope sTIsPl) (by decide +kernel))
        (fun _ _ _ _ _ => pg_name (i := 2) scTIsPl.nd rfl (Or.inl rfl)) (fun _ _ _ _ _ => pts_nil) (fun _ _ _ _ _ => pe_df DC hr (by rfl) (pa_cons (pv 2) pa_nil))) pa_nil)))), ?_⟩
    refine ⟨_, rfl, _, _, _, _, true, rfl, .ty "tuple", tyX_tup ht, kit_ty (by decide +kernel), true, rfl, ?_⟩
    refine iteF ⟨_, rfl, t, _, rfl, .inr ht, _, rfl, p, C, dx, _, _, rfl, h1, N.cl, N.nS, rfl, sa, _, rfl, .inr (.inl (.inl h2)), rfl, _, rfl, ?_⟩
    by_cases e : ns.length = ss.length
    · have no : (!decide (V.int (((ns.map V.int).length : Nat) : Int) = V.int (((ss.map V.str).length : Nat) : Int))) = false := by
        rw [List.length_map, List.length_map, e, decide_eq_true rfl] <;> rfl
      rw [no]
      refine iteF ⟨_, rfl, t, rfl, ⟨_, ht⟩, fun D hD => ?_⟩
      refine lc_new (walk_tup (K := K) (a := t) (xs := ns.map V.int)) (fun i => if i < ns.length then some (.bl true) else none) (by rw [List.length_map]; exact lt_line (by omega)) hD (fun H1 s1 => sTup s1 ht) ?_ ?_
      · rintro i x H1 _ hi s1 ⟨rfl, hx⟩ Kt Kn kt kn
        obtain ⟨j, hj, rfl⟩ := map_get hx
        rw [List.length_map] at hi
        exact ⟨rfl, _, rfl, j, rfl, pos j (List.mem_of_getElem? hj), kt _ _ (if_pos hi) (Same.refl _)⟩
      · intro H1 s1 at_
        rw [List.length_map, kept_const, ← List.map_replicate] at at_
        refine ⟨D, _, rfl, SqL.of at_, ?_⟩
        rw [List.all_replicate_of]
        have z := q H1 s1
        rwa [decide_eq_true e] at z
    · have yes : (!decide (V.int (((ns.map V.int).length : Nat) : Int) = V.int (((ss.map V.str).length : Nat) : Int))) = true := by
        rw [List.length_map, List.length_map, decide_eq_false (fun z => e (by have := V.int.inj z; omega))] <;> rfl
      rw [yes]
      refine iteT ?_
      have z := q H (Same.refl H)
      rwa [decide_eq_false e] at z
def spTWant (K : PySem.W.Frag) (C : Addr) : Sp := fun vs H Q _ => ∃ (p t : Addr) (z : Str) (ss : List Str) (L : List Turn) (ns : List Int), vs = [.ref p, .ref t] ∧ TabAt C H p z ss L ∧ SqT K H t (ns.map V.int) ∧ ns.length = ss.length ∧ ss.length ≤ 100 ∧ (∀ i ∈ ns, 0 ≤ i) ∧ ∀ H', Same H H' → Q .non H'
theorem scTWant : FnScope ["self", "places"] ["self", "places"] (defScope sTWant) := ⟨rfl, rfl, rfl, by decide +kernel, rfl, by decide +kernel, by decide +kernel⟩
theorem ok_twant {f C : Addr} {fd : FuncData} (F : Fun K "want_places" "Table.want_places" sTWant f fd) (N : Tc K mg C) (DP : Mt P w K mg base C "is_slot_places" ["self", "value"] 3 (spTIsPl K C)) : FnOk P w K mg base CX0 4 f fd ["self", "places"] (spTWant K C) := by
  obtain ⟨fm, fdm, hm, hb, G⟩ := DP.ex
  refine F.ok scTWant (fun vs H Q E h => ?_) (fun cdv A outer s H vs Q E hr h => ?_)
  · obtain ⟨p, t, z, ss, L, ns, rfl, _⟩ := h
    rfl
  · obtain ⟨p, t, z, ss, L, ns, rfl, tab, ht, e, few, pos, q⟩ := h
    obtain ⟨dx, sa, ga, h1, h2, h3⟩ := id tab
    refine ⟨_, pss_one (ps_if (pt_not (pt_val (pe_meth (pv 0) N.cl hm G hr hb .nil pass0 (pa_cons (pv 1) pa_nil)))) (pss_one ps_never) pss_nil), ?_⟩
    refine ⟨_, rfl, p, dx, _, rfl, h1, fld_none (by decide) (by decide) (by decide), _, rfl, p, t, z, ss, L, ns, rfl, tab, ht, by omega, pos, fun H1 s1 => ?_⟩
    rw [decide_eq_true e]
    exact ⟨true, rfl, q H1 s1⟩
end
end S16

/-! places: classes, least ones -/
namespace GM
/-- above all places -/
def bnd (ns : List Int) : Int := ns.foldr max 0 + 1
theorem le_bnd : ∀ {ns : List Int} {i : Int}, i ∈ ns → i < bnd ns
  | n :: ns, i, h => by
    have e : bnd (n :: ns) = max n (ns.foldr max 0) + 1 := rfl
    rcases List.mem_cons.mp h with rfl | h
    · omega
    · have := le_bnd h
      have e2 : bnd ns = ns.foldr max 0 + 1 := rfl
      omega
theorem bnd_pos (ns : List Int) : 0 < bnd ns := by
  have : ∀ l : List Int, 0 ≤ l.foldr max 0 := by
    intro l
    induction l with
    | nil => exact Int.le_refl _
    | cons a l ih =>
      show 0 ≤ max a (l.foldr max 0)
      omega
  have := this ns
  unfold bnd
  omega
theorem bd_mv {ns o : List Int} (h : ∀ i ∈ ns, 0 ≤ i) : TS.Bd (bnd ns) (mv ns o) := by
  intro m hm
  unfold mv at hm
  obtain ⟨i, _, rfl⟩ := List.mem_map.mp hm
  rw [List.getD_eq_getElem?_getD]
  cases e : ns[i.toNat]? with
  | none => exact ⟨Int.le_refl _, bnd_pos ns⟩
  | some x =>
    have z := List.mem_of_getElem? e
    exact ⟨h x z, le_bnd z⟩
theorem code_inj {B : Int} : ∀ {a b : List Int}, a.length = b.length → TS.Bd B a → TS.Bd B b → TS.code B a = TS.code B b → a = b
  | [], [], _, _, _, _ => rfl
  | x :: a, y :: b, l, ha, hb, h => by
    have l' : a.length = b.length := by simpa using l
    rcases Int.lt_trichotomy x y with z | z | z
    · have := TS.code_lt l' ha.tail hb.tail z
      omega
    · subst z
      have e : TS.code B a = TS.code B b := by
        have : x * B ^ a.length + TS.code B a = x * B ^ b.length + TS.code B b := h
        rw [l'] at this
        omega
      rw [code_inj l' ha.tail hb.tail e]
    · have := TS.code_lt l'.symm hb.tail ha.tail z
      omega
/-- the class of places, in order -/
structure Cls (ns : List Int) (L : List Turn) (D : List (List Int)) : Prop where
  nd : D.Nodup
  mem : ∀ x, x ∈ D ↔ ∃ t ∈ L, x = mv ns t.1
  srt : D.Pairwise fun a b => TS.code (bnd ns) a ≤ TS.code (bnd ns) b
theorem Cls.one {ns : List Int} {L : List Turn} {D E : List (List Int)} {d : Nat} (pos : ∀ i ∈ ns, 0 ≤ i) (len : ∀ t ∈ L, t.1.length = d) (a : Cls ns L D) (b : Cls ns L E) : D = E := by
  have p : D.Perm E := (List.perm_ext_iff_of_nodup a.nd b.nd).mpr fun x => (a.mem x).trans (b.mem x).symm
  refine p.eq_of_pairwise (fun x y hx hy h1 h2 => ?_) a.srt b.srt
  obtain ⟨t, ht, rfl⟩ := (a.mem x).mp hx
  obtain ⟨u, hu, rfl⟩ := (b.mem y).mp hy
  have l : (mv ns t.1).length = (mv ns u.1).length := by unfold mv; rw [List.length_map, List.length_map, len t ht, len u hu]
  exact code_inj l (bd_mv pos) (bd_mv pos) (Int.le_antisymm h1 h2)
/-- the turned places with their signs -/
def mates (ns : List Int) (L : List Turn) : List Turn := L.map fun t => (mv ns t.1, t.2)
/-- least places among M, and the sign of theirs -/
structure LeastIs (M : List Turn) (lo : List Int) (g : Int) : Prop where
  mem : ∃ m ∈ M, m.1 = lo
  low : ∀ m ∈ M, ¬ m.1 < lo
  sign : (∀ m ∈ M, m.1 = lo → m.2 = g) ∨ (g = 0 ∧ ∃ m m', m ∈ M ∧ m' ∈ M ∧ m.1 = lo ∧ m'.1 = lo ∧ m.2 ≠ m'.2)
theorem LeastIs.one {M : List Turn} {lo lo' : List Int} {g g' : Int} (a : LeastIs M lo g) (b : LeastIs M lo' g') : lo = lo' ∧ g = g' := by
  obtain ⟨m, hm, rfl⟩ := a.mem
  obtain ⟨n, hn, rfl⟩ := b.mem
  have e : m.1 = n.1 := List.le_antisymm (fun z => a.low n hn z) (fun z => b.low m hm z)
  refine ⟨e, ?_⟩
  rcases a.sign with s | ⟨g0, x, y, hx, hy, ex, ey, ne⟩
  · rcases b.sign with s' | ⟨_, x, y, hx, hy, ex, ey, ne⟩
    · rw [← s m hm rfl, s' m hm e]
    · exact absurd ((s x hx (ex.trans e.symm)).trans (s y hy (ey.trans e.symm)).symm) ne
  · rcases b.sign with s' | ⟨g1, _⟩
    · exact absurd ((s' x hx (ex.trans e)).trans (s' y hy (ey.trans e)).symm) ne
    · rw [g0, g1]
/-- the signs of the first ones -/
def signsAt (lo : List Int) (Ms : List Turn) : List Int := (Ms.filter fun m => decide (m.1 = lo)).map Prod.snd
theorem mem_signsAt {lo : List Int} {Ms : List Turn} {s : Int} : s ∈ signsAt lo Ms ↔ ∃ m ∈ Ms, m.1 = lo ∧ m.2 = s := by
  unfold signsAt
  rw [List.mem_map]
  constructor
  · rintro ⟨m, h, rfl⟩
    obtain ⟨h1, h2⟩ := List.mem_filter.mp h
    exact ⟨m, h1, of_decide_eq_true h2, rfl⟩
  · rintro ⟨m, h, e, rfl⟩
    exact ⟨m, List.mem_filter.mpr ⟨h, decide_eq_true e⟩, rfl⟩
theorem signs_up {lo : List Int} {Ms : List Turn} (h : Srt Ms) : (signsAt lo Ms).Pairwise (· ≤ ·) := by
  unfold signsAt
  rw [List.pairwise_map]
  refine List.Pairwise.imp_of_mem (fun {p q} hp hq z => ?_) (List.Pairwise.sublist List.filter_sublist h)
  have e1 : p.1 = lo := of_decide_eq_true (List.mem_filter.mp hp).2
  have e2 : q.1 = lo := of_decide_eq_true (List.mem_filter.mp hq).2
  have z' : ¬ tlt q p := z
  unfold tlt at z'
  rw [not_or] at z'
  have : ¬ q.2 < p.2 := fun y => z'.2 ⟨e2.trans e1.symm, y⟩
  omega
/-- what least tells: the head of the sorted mates, and the first and last sign -/
theorem least_of {M Ms : List Turn} {m0 : Turn} {s0 s1 : Int} (h : Srt Ms) (p : Ms.Perm M) (hd : Ms[0]? = some m0) (h0 : (signsAt m0.1 Ms)[0]? = some s0) (h1 : (signsAt m0.1 Ms)[(signsAt m0.1 Ms).length - 1]? = some s1) :
    LeastIs M m0.1 (if s0 = s1 then s0 else 0) := by
  obtain ⟨rest, rfl⟩ : ∃ rest, Ms = m0 :: rest := by
    cases Ms with
    | nil => cases hd
    | cons a r => exact ⟨r, by rw [Option.some.inj hd]⟩
  have hp := List.pairwise_cons.mp h
  refine ⟨⟨m0, p.mem_iff.mp List.mem_cons_self, rfl⟩, fun m hm z => ?_, ?_⟩
  · rcases List.mem_cons.mp (p.mem_iff.mpr hm) with rfl | hm
    · exact List.lt_irrefl _ z
    · exact hp.1 m hm (.inl z)
  · have up := signs_up (lo := m0.1) h
    by_cases e : s0 = s1
    · rw [if_pos e]
      refine .inl fun m hm em => ?_
      have hs : m.2 ∈ signsAt m0.1 (m0 :: rest) := mem_signsAt.mpr ⟨m, p.mem_iff.mpr hm, em, rfl⟩
      obtain ⟨i, hi, ei⟩ := List.getElem_of_mem hs
      have b0 : s0 ≤ m.2 := by
        rcases Nat.eq_zero_or_pos i with z | z
        · subst z
          rw [List.getElem?_eq_getElem hi] at h0
          have := Option.some.inj h0
          omega
        · obtain ⟨z0, e0⟩ := List.getElem?_eq_some_iff.mp h0
          have := List.pairwise_iff_getElem.mp up 0 i z0 hi z
          omega
      have b1 : m.2 ≤ s1 := by
        obtain ⟨z1, e1⟩ := List.getElem?_eq_some_iff.mp h1
        rcases Nat.lt_or_ge i ((signsAt m0.1 (m0 :: rest)).length - 1) with z | z
        · have := List.pairwise_iff_getElem.mp up i _ hi z1 z
          omega
        · have : i = (signsAt m0.1 (m0 :: rest)).length - 1 := by omega
          subst this
          omega
      omega
    · rw [if_neg e]
      obtain ⟨a, ha, ea, ea2⟩ := mem_signsAt.mp (List.mem_of_getElem? h0)
      obtain ⟨b, hb, eb, eb2⟩ := mem_signsAt.mp (List.mem_of_getElem? h1)
      exact .inr ⟨rfl, a, b, p.mem_iff.mp ha, p.mem_iff.mp hb, ea, eb, by rw [ea2, eb2]; exact e⟩
end GM

namespace S16
open PySem L2 GM
open PySem.W (EachIs)
/-- sorted, of a list of turns -/
theorem sort_turns {K : PySem.W.Frag} {G : Hp} {l : Addr} {vs : List V} {M : List Turn} {Q : VK} (h : G l = some (.lst vs)) (t : TurnsS G vs M) (q : ∀ (ga : Addr) (gv : List V) (Ms : List Turn), G ga = none → Srt Ms → Ms.Perm M → TurnsS (upd G ga (.lst gv)) gv Ms → Q (.ref ga) (upd G ga (.lst gv))) :
    rSortB K [.ref l] G Q := by
  refine ⟨l, V × Turn, Prod.fst, fun b => turnD b.2, vs.zip M, rfl, ?_, fun b m => (each_mem t m).dp, fun b _ => deep_turn b.2, PySem.W.AllAlike.of fun b b' => alike_turn b.2 b'.2, PySem.W.Sortable.tuples fun b => ⟨ordD b.2.1, [.int b.2.2], rfl⟩, fun ga hga => ?_⟩
  · rw [List.map_fst_zip (Nat.le_of_eq (EachIs.length t))]
    exact SqL.of h
  · have srt := sorted_turns (fun b : V × Turn => b.2) (vs.zip M)
    have pm : ((vs.zip M).mergeSort (PySem.W.dataLe false fun b : V × Turn => turnD b.2)).Perm (vs.zip M) := List.mergeSort_perm _ _
    generalize (vs.zip M).mergeSort (PySem.W.dataLe false fun b : V × Turn => turnD b.2) = out at srt pm ⊢
    have pL : (out.map Prod.snd).Perm M := by
      have z := pm.map Prod.snd
      rwa [List.map_snd_zip (Nat.le_of_eq (EachIs.length t).symm)] at z
    have sg := sNew (o := .lst (out.map Prod.fst)) (Same.refl G) hga
    have z : ∀ b ∈ out, TurnS (upd G ga (.lst (out.map Prod.fst))) b.1 b.2 := fun b m => (each_mem t (pm.mem_iff.mp m)).same sg
    exact q ga _ _ hga srt pL (EachIs.of z)
theorem kept_bind {α : Type} (xs : List α) (g : α → Option V) : kept (fun i => (xs[i]?).bind g) xs.length = xs.filterMap g := by
  unfold kept
  have e : ∀ n, n ≤ xs.length → (List.range n).filterMap (fun i => (xs[i]?).bind g) = (xs.take n).filterMap g := by
    intro n
    induction n with
    | zero => intro _; rfl
    | succ n ih =>
      intro h
      rw [List.range_succ, List.filterMap_append, ih (by omega), List.take_add_one, List.filterMap_append, List.getElem?_eq_getElem (by omega)]
      congr 1
      cases q : g xs[n] with
      | none => simp [List.filterMap_cons, List.getElem?_eq_getElem (show n < xs.length by omega), q]
      | some v => simp [List.filterMap_cons, List.getElem?_eq_getElem (show n < xs.length by omega), q]
  rw [e _ (Nat.le_refl _), List.take_length]
section
variable {P : Program} {w : World} {K : PySem.W.Frag} {mg : Str → Option Value} {base : Heap}
/-! ### least -/
def spTLeast (K : PySem.W.Frag) (C : Addr) : Sp := fun vs H Q _ => ∃ (p t : Addr) (z : Str) (ss : List Str) (L : List Turn) (ns : List Int), vs = [.ref p, .ref t] ∧ TabAt C H p z ss L ∧ SqT K H t (ns.map V.int) ∧ ns.length = ss.length ∧ ss.length ≤ 100 ∧ (∀ i ∈ ns, 0 ≤ i) ∧
  (∀ q ∈ L, q.1.Perm (idn ns.length)) ∧ L ≠ [] ∧ L.length ≤ 100 ∧ ∀ (H' : Hp) (r l : Addr) (lo : List Int) (g : Int), Same H H' → H' r = some (.tup [.int g, .ref l]) → H' l = some (.tup (lo.map V.int)) → LeastIs (mates ns L) lo g → Q (.ref r) H'
abbrev nTLeast : List Str := ["self", "places", "found", "order", "sign", "least", "signs", "other"]
theorem scTLeast : FnScope nTLeast ["self", "places"] (defScope sTLeast) := ⟨rfl, rfl, rfl, by decide +kernel, rfl, by decide +kernel, by decide +kernel⟩
theorem ok_tleast {f C : Addr} {fd : FuncData} (F : Fun K "least" "Table.least" sTLeast f fd) (B : Bn mg) (N : Tc K mg C) (DM : Df P w K mg base "moved" ["places", "order"] 1 (spMoved K)) (DW : Mt P w K mg base C "want_places" ["self", "places"] 4 (spTWant K C)) : FnOk P w K mg base CX0 5 f fd ["self", "places"] (spTLeast K C) := by
  obtain ⟨fm, fdm, hm, hb, G⟩ := DW.ex
  refine F.ok scTLeast (fun vs H Q E h => ?_) (fun cdv A outer s H vs Q E hr h => ?_)
  · obtain ⟨p, t, z, ss, L, ns, rfl, _⟩ := h
    rfl
  · obtain ⟨p, t, z, ss, L, ns, rfl, tab, ht, e, few, pos, perm, ne, lfew, q⟩ := h
    obtain ⟨dx, sa, ga, h1, h2, gv, h3, h4⟩ := id tab
    have hu := hr.units
    have h1' : Room 1 _ := hr.mono (by decide)
    have room : (A.deeper (PyProof.Rows.envOfC "Table.least" (defScope sTLeast) s.heap.objs.size f cdv)).units + 70 < cLine := by
      have := hr.un
      omega
    refine ⟨_, pss_cons (ps_expr (pe_meth (pv 0) N.cl hm G hr hb .nil pass0 (pa_cons (pv 1) pa_nil)))
      (pss_cons (ps_set (i := 2) scTLeast.nd rfl (Or.inl rfl) (pe_callB (cr_sortB room) (by rfl) B.sorted (by decide +kernel) (pa_cons (pe_lc (own := [("order", 3), ("sign", 4)]) (g := gTup K 2 (gCons (gName 3) (gCons (gName 4) gNil))) (tt := tYes) (te := tTup (tCons (tCall (spMoved K) [] E0 (tCons (tVar 1) (tCons (tVar 3) tNil))) (tCons (tVar 4) tNil))) (by rfl) scTLeast.nd (pi_list (pe_fld (pv 0) rfl))
        (blkOk_by (own := [("order", 3), ("sign", 4)]) (N := nTLeast) (sc := defScope sTLeast) (by decide +kernel))
        (fun _ _ _ _ _ => pg_tup rfl (pgs_cons (pg_name (i := 3) scTLeast.nd rfl (Or.inl rfl)) (pgs_cons (pg_name (i := 4) scTLeast.nd rfl (Or.inl rfl)) pgs_nil))) (fun _ _ _ _ _ => pts_nil)
        (fun _ _ _ _ _ => pe_tup (pa_cons (pe_df DM h1' (by rfl) (pa_cons (pv 1) (pa_cons (pv 3) pa_nil))) (pa_cons (pv 4) pa_nil)))) pa_nil)))
      (pss_cons (ps_set (i := 5) scTLeast.nd rfl (Or.inr rfl) (pe_ix ix_tup (pe_ix ix_list (pv 2) pe_int (fun _ _ => rfl)) pe_int (fun _ _ => rfl)))
      (pss_cons (ps_setLc (i := 6) (own := [("sign", 4), ("other", 7)]) (g := gTup K 2 (gCons (gName 7) (gCons (gName 4) gNil))) (tt := tTest (tOp (rEqD K) (tVar 7) (tVar 5))) (te := tVar 4) (by rfl) scTLeast.nd rfl rfl (sw_true rfl rfl rfl (by decide +kernel)) (pi_list (pv 2))
        (blkOk_by (own := [("sign", 4), ("other", 7)]) (N := nTLeast) (sc := defScope sTLeast) (by decide +kernel))
        (fun _ _ _ _ _ => pg_tup rfl (pgs_cons (pg_name (i := 7) scTLeast.nd rfl (Or.inl rfl)) (pgs_cons (pg_name (i := 4) scTLeast.nd rfl (Or.inl rfl)) pgs_nil))) (fun _ _ _ _ _ => pts_one (pt_cmpR (op_eqD hu) (pv 7) (pv 5) (nomark _))) (fun _ _ _ _ _ => pv 4))
      (pss_one (ps_ret (pe_tup (pa_cons (pe_ifExp (pt_cmpR op_eq (pe_ix ix_list (pv 6) pe_int (fun _ _ => rfl)) (pe_ix ix_list (pv 6) (pe_un un_neg pe_int) (fun _ _ => rfl)) (nomark _)) (pe_ix ix_list (pv 6) pe_int (fun _ _ => rfl)) pe_int) (pa_cons (pv 5) pa_nil)))))))), ?_⟩
    refine ⟨_, rfl, p, dx, _, rfl, h1, fld_none (by decide) (by decide) (by decide), _, rfl, p, t, z, ss, L, ns, rfl, tab, ht, e, few, pos, fun H1 s1 => ?_⟩
    refine ⟨_, rfl, p, C, dx, _, _, rfl, s1 _ _ h1, N.cl, N.nT, rfl, ga, rfl, ⟨_, SqL.of (s1 _ _ h3)⟩, fun D hD => ?_⟩
    have len : gv.length = L.length := EachIs.length h4
    refine lc_it (walk_list (K := K) (a := ga) (xs := gv)) (fun i G => Same H1 G ∧ ∃ vs, G D = some (.lst vs) ∧ TurnsS G vs ((mates ns L).take i)) ⟨sNew (Same.refl H1) hD, [], upd_same, .nil⟩ (fun i G _ h => SqL.of (h.1 _ _ (s1 _ _ h3))) ?_ ?_
    · rintro i v _ G hi ⟨sG, vs, hvs, tvs⟩ ⟨rfl, hv⟩
      have sHG := Same.trans s1 sG
      obtain ⟨q0, hq, T, u, rfl, e1, e2⟩ := each_get (TurnsS.same sHG h4) hv
      have perm0 := perm q0 (List.mem_of_getElem? hq)
      refine ⟨T, _, rfl, .inl (.inl e1), rfl, _, _, rfl, _, _, rfl, rfl, rfl, _, rfl, _, rfl, t, u, ns, q0.1, rfl, sTup sHG ht, .inl (.inl e2), idn_fits perm0, by rw [perm_len perm0]; omega, fun G2 pm s2 hpm em => ?_⟩
      refine ⟨_, rfl, (by show 2 ≤ sizeLine; decide), fun TT hTT => ?_⟩
      have sT := sNew (o := .tup [.ref pm, .int q0.2]) s2 hTT
      have eD : upd G2 TT (.tup [.ref pm, .int q0.2]) D = some (.lst vs) := sT _ _ hvs
      have made : TurnS (upd G2 TT (.tup [.ref pm, .int q0.2])) (.ref TT) (mv ns q0.1, q0.2) := ⟨TT, pm, rfl, upd_same, old em hTT⟩
      have vlen : vs.length ≤ 100 := by
        have := EachIs.length tvs
        rw [List.length_take] at this
        have l2 : (mates ns L).length = L.length := by unfold mates; rw [List.length_map]
        omega
      refine ⟨vs, eD, lt_line (by omega), sPut (Same.trans sG sT) hD, vs ++ [V.ref TT], upd_same, ?_⟩
      have hm : (mates ns L)[i]? = some (mv ns q0.1, q0.2) := by unfold mates; rw [List.getElem?_map, hq]; rfl
      rw [List.take_add_one, hm]
      exact each_snoc ((TurnsS.same sT tvs).mono fun _ _ h => h.put eD) (made.put eD)
    rintro G ⟨sG, vs, hvs, tvs⟩
    have ml : (mates ns L).length = gv.length := by unfold mates; rw [List.length_map, len]
    rw [← ml, List.take_length] at tvs
    dsimp only [tNil]
    refine sort_turns hvs tvs fun fa fv Ms hfa srt pms tfv => ?_
    have s2 : Same H (upd G fa (.lst fv)) := Same.trans s1 (sNew sG hfa)
    have hfa2 : upd G fa (.lst fv) fa = some (.lst fv) := upd_same
    generalize upd G fa (.lst fv) = G2 at s2 hfa2 tfv
    have flen : fv.length = Ms.length := EachIs.length tfv
    obtain ⟨m0, mr, rfl⟩ : ∃ m0 mr, Ms = m0 :: mr := by
      cases Ms with
      | nil =>
        have z := pms.length_eq
        rw [ml, len] at z
        exact absurd (List.length_eq_zero_iff.mp z.symm) ne
      | cons a b => exact ⟨a, b, rfl⟩
    obtain ⟨v0, vr, rfl⟩ : ∃ v0 vr, fv = v0 :: vr := by
      cases fv with
      | nil => cases flen
      | cons a b => exact ⟨a, b, rfl⟩
    obtain ⟨b0, hb0, T0, u0, e0, e1, e2⟩ := each_get tfv (i := 0) (a := v0) rfl
    obtain rfl : m0 = b0 := Option.some.inj hb0
    subst e0
    refine ⟨_, rfl, fa, _, _, V.ref T0, rfl, rfl, SqL.of hfa2, at_of (j := 0) rfl rfl, T0, _, _, V.ref u0, rfl, rfl, .inl (.inl e1), at_of (j := 0) rfl rfl, ?_⟩
    refine ⟨_, rfl, fa, rfl, ⟨_, SqL.of hfa2⟩, fun D2 hD2 => ?_⟩
    have mfew : (m0 :: mr).length ≤ 100 := by rw [pms.length_eq, ml, len]; exact lfew
    refine lc_new (walk_list (K := K) (a := fa) (xs := V.ref T0 :: vr)) (fun i => ((m0 :: mr)[i]?).bind fun m => if m.1 = m0.1 then some (V.int m.2) else none) (by rw [flen]; exact lt_line (by omega)) hD2 (fun G3 s3 => SqL.of (s3 _ _ hfa2)) ?_ ?_
    · rintro i v _ G3 hi s3 ⟨rfl, hv⟩ Kt Kn kt kn
      obtain ⟨m, hm, T, u, rfl, x1, x2⟩ := each_get (TurnsS.same s3 tfv) hv
      refine ⟨T, _, rfl, .inl (.inl x1), rfl, _, _, rfl, _, _, rfl, rfl, rfl, _, rfl, _, rfl, _, _, dp_ord (.inl (.inl x2)), dp_ord (.inl (.inl (s3 _ _ e2))), sh_intsT _, sh_intsT _, _, rfl, ?_⟩
      rw [eqv_ord]
      by_cases eq : m.1 = m0.1
      · rw [decide_eq_true eq]
        refine iteT ⟨_, rfl, kt _ _ ?_ (Same.refl _)⟩
        show ((m0 :: mr)[i]?).bind _ = _
        rw [hm]
        exact if_pos eq
      · rw [decide_eq_false eq]
        refine iteF (kn ?_ _ (Same.refl _))
        show ((m0 :: mr)[i]?).bind _ = _
        rw [hm]
        exact if_neg eq
    · intro G3 s3 at_
      rw [flen, kept_bind] at at_
      have fm : ((m0 :: mr).filterMap fun m => if m.1 = m0.1 then some (V.int m.2) else none) = (signsAt m0.1 (m0 :: mr)).map V.int := by
        unfold signsAt
        generalize m0 :: mr = X
        induction X with
        | nil => rfl
        | cons a X ih =>
          rw [List.filterMap_cons, List.filter_cons]
          by_cases eq : a.1 = m0.1
          · rw [if_pos eq, if_pos (decide_eq_true eq), List.map_cons, List.map_cons, ← ih]
          · rw [if_neg eq, if_neg (by simpa using eq), ih]
      rw [fm] at at_
      have in0 : m0.2 ∈ signsAt m0.1 (m0 :: mr) := mem_signsAt.mpr ⟨m0, List.mem_cons_self, rfl, rfl⟩
      have res := fun {s0 s1 : Int} => least_of (m0 := m0) (s0 := s0) (s1 := s1) srt pms rfl
      generalize signsAt m0.1 (m0 :: mr) = S at at_ in0 res
      obtain ⟨s0, sr, rfl⟩ : ∃ s0 sr, S = s0 :: sr := by
        cases S with
        | nil => cases in0
        | cons a b => exact ⟨a, b, rfl⟩
      obtain ⟨si, s1', es⟩ : ∃ si s1', s0 :: sr = si ++ [s1'] := ⟨_, _, (List.dropLast_concat_getLast (l := s0 :: sr) (by simp)).symm⟩
      have fin := res (s0 := s0) (s1 := s1') rfl (by rw [es]; simp)
      have first : atI ((s0 :: sr).map V.int) 0 = some (V.int s0) := at_of (j := 0) rfl rfl
      have last : atI ((s0 :: sr).map V.int) (-1) = some (V.int s1') := by
        rw [es, List.map_append]
        exact atI_last _ _
      refine ⟨_, rfl, D2, _, _, V.int s0, rfl, rfl, SqL.of at_, first, _, rfl, _, rfl, D2, _, _, V.int s1', rfl, rfl, SqL.of at_, last, rfl, _, rfl, ?_⟩
      have done : ∀ g : Int, LeastIs (mates ns L) m0.1 g → ∀ r, G3 r = none → Q (.ref r) (upd G3 r (.tup [.int g, .ref u0])) := fun g lg r hr' => q _ r u0 m0.1 g (Same.trans s2 (sNew s3 hr')) upd_same (old (s3 _ _ e2) hr') lg
      by_cases eq : s0 = s1'
      · rw [if_pos eq] at fin
        subst eq
        rw [decide_eq_true rfl]
        exact iteT ⟨_, rfl, D2, _, _, V.int s0, rfl, rfl, SqL.of at_, first, _, rfl, (by show 2 ≤ sizeLine; decide), done s0 fin⟩
      · rw [if_neg eq] at fin
        rw [decide_eq_false (fun y => eq (V.int.inj y))]
        exact iteF ⟨_, rfl, (by show 2 ≤ sizeLine; decide), done 0 fin⟩
end
end S16

namespace S16
open PySem L2 GM
open PySem.W (EachIs)
/-- sorted(set(..)) of turned places -/
theorem class_read {K : PySem.W.Frag} {P : Program} {w : World} {G : Hp} {l : Addr} {ks : List (Addr × List Int)} {ns : List Int} {L : List Turn} {d : Nat} {Q : VK} (h : G l = some (.lst (ks.map fun p => V.ref p.1))) (t : ∀ p ∈ ks, OrdIs G p) (e : ks.map Prod.snd = L.map fun t => mv ns t.1)
    (few : L.length < 64) (d1 : 1 ≤ d) (len : ∀ t ∈ L, t.1.length = d) (pos : ∀ i ∈ ns, 0 ≤ i)
    (q : ∀ (G' : Hp) (r : Addr) (js : List (Addr × List Int)), Same G G' → G r = none → G' r = some (.lst (js.map fun p => V.ref p.1)) → (∀ p ∈ js, OrdIs G' p) → Cls ns L (js.map Prod.snd) → Q (.ref r) G') :
    rSetOfT K P w [.ref l] G fun x G1 => rSortedT K P w [x] G1 Q := by
  have many : ks.length = L.length := by
    have := congrArg List.length e
    rwa [List.length_map, List.length_map] at this
  have each : ∀ p ∈ ks, ∃ t ∈ L, p.2 = mv ns t.1 := fun p m => by
    have z : p.2 ∈ ks.map Prod.snd := List.mem_map.mpr ⟨p, m, rfl⟩
    rw [e] at z
    obtain ⟨t, ht, x⟩ := List.mem_map.mp z
    exact ⟨t, ht, x.symm⟩
  refine ⟨l, ks, rfl, SqL.of h, fun p m => .inl (.inl (t p m)), by omega, fun a Ls ha sub cov => ?_⟩
  have sa := sNew (o := SetTO P w a Ls) (Same.refl G) ha
  refine ⟨a, Ls, d, bnd ns, rfl, upd_same, fun p m => .inl (.inl (sa _ _ (t p (sub p m)))), d1, fun p m => ?_, fun L' r pm nd _ pw hr => ?_⟩
  · obtain ⟨u, hu, x⟩ := each p (sub p m)
    rw [x]
    exact ⟨by unfold mv; rw [List.length_map]; exact len u hu, bd_mv pos⟩
  · have sr := sNew (o := .lst (L'.map fun q => V.ref q.1)) sa hr
    refine q _ r L' sr (sa.free hr) upd_same (fun p m => sr _ _ (t p (sub p (pm.mem_iff.mp m)))) ⟨nd, fun x => ?_, List.pairwise_map.mpr pw⟩
    constructor
    · intro hx
      obtain ⟨p, hp, rfl⟩ := List.mem_map.mp hx
      exact each p (sub p (pm.mem_iff.mp hp))
    · rintro ⟨u, hu, rfl⟩
      have z : mv ns u.1 ∈ ks.map Prod.snd := by
        rw [e]
        exact List.mem_map.mpr ⟨u, hu, rfl⟩
      obtain ⟨p, hp, x⟩ := List.mem_map.mp z
      have y := cov p hp
      rw [x] at y
      exact (pm.map Prod.snd).mem_iff.mpr y
section
variable {P : Program} {w : World} {K : PySem.W.Frag} {mg : Str → Option Value} {base : Heap}
/-! ### class_of -/
def spTClass (K : PySem.W.Frag) (C : Addr) : Sp := fun vs H Q _ => ∃ (p t : Addr) (z : Str) (ss : List Str) (L : List Turn) (ns : List Int), vs = [.ref p, .ref t] ∧ TabAt C H p z ss L ∧ SqT K H t (ns.map V.int) ∧ ns.length = ss.length ∧ 1 ≤ ss.length ∧ ss.length ≤ 100 ∧ (∀ i ∈ ns, 0 ≤ i) ∧
  (∀ q ∈ L, q.1.Perm (idn ns.length)) ∧ L.length < 64 ∧ ∀ (H' : Hp) (r : Addr) (js : List (Addr × List Int)), Same H H' → H r = none → H' r = some (.lst (js.map fun p => V.ref p.1)) → (∀ p ∈ js, OrdIs H' p) → Cls ns L (js.map Prod.snd) → Q (.ref r) H'
abbrev nTClass : List Str := ["self", "places", "order", "sign"]
theorem scTClass : FnScope nTClass ["self", "places"] (defScope sTClass) := ⟨rfl, rfl, rfl, by decide +kernel, rfl, by decide +kernel, by decide +kernel⟩
theorem ok_tclass {f C : Addr} {fd : FuncData} (F : Fun K "class_of" "Table.class_of" sTClass f fd) (B : Bn mg) (N : Tc K mg C) (DM : Df P w K mg base "moved" ["places", "order"] 1 (spMoved K)) (DW : Mt P w K mg base C "want_places" ["self", "places"] 4 (spTWant K C)) : FnOk P w K mg base CX0 5 f fd ["self", "places"] (spTClass K C) := by
  obtain ⟨fm, fdm, hm, hb, G⟩ := DW.ex
  refine F.ok scTClass (fun vs H Q E h => ?_) (fun cdv A outer s H vs Q E hr h => ?_)
  · obtain ⟨p, t, z, ss, L, ns, rfl, _⟩ := h
    rfl
  · obtain ⟨p, t, z, ss, L, ns, rfl, tab, ht, e, n1, few, pos, perm, lfew, q⟩ := h
    obtain ⟨dx, sa, ga, h1, h2, gv, h3, h4⟩ := id tab
    have hu := hr.units
    have h1' : Room 1 _ := hr.mono (by decide)
    refine ⟨_, pss_cons (ps_expr (pe_meth (pv 0) N.cl hm G hr hb .nil pass0 (pa_cons (pv 1) pa_nil)))
      (pss_one (ps_ret (pe_callB (cr_sortedT rfl) (by rfl) B.sorted (by decide +kernel) (pa_cons (pe_callTy (cr_setOfT rfl hu) (by rfl) B.set (by decide +kernel) (pa_cons (pe_lc (own := [("order", 2), ("sign", 3)]) (g := gTup K 2 (gCons (gName 2) (gCons (gName 3) gNil))) (tt := tYes) (te := tCall (spMoved K) [] E0 (tCons (tVar 1) (tCons (tVar 2) tNil))) (by rfl) scTClass.nd (pi_list (pe_fld (pv 0) rfl))
        (blkOk_by (own := [("order", 2), ("sign", 3)]) (N := nTClass) (sc := defScope sTClass) (by decide +kernel))
        (fun _ _ _ _ _ => pg_tup rfl (pgs_cons (pg_name (i := 2) scTClass.nd rfl (Or.inl rfl)) (pgs_cons (pg_name (i := 3) scTClass.nd rfl (Or.inl rfl)) pgs_nil))) (fun _ _ _ _ _ => pts_nil)
        (fun _ _ _ _ _ => pe_df DM h1' (by rfl) (pa_cons (pv 1) (pa_cons (pv 2) pa_nil)))) pa_nil)) pa_nil)))), ?_⟩
    refine ⟨_, rfl, p, dx, _, rfl, h1, fld_none (by decide) (by decide) (by decide), _, rfl, p, t, z, ss, L, ns, rfl, tab, ht, e, few, pos, fun H1 s1 => ?_⟩
    refine ⟨_, rfl, p, C, dx, _, _, rfl, s1 _ _ h1, N.cl, N.nT, rfl, ga, rfl, ⟨_, SqL.of (s1 _ _ h3)⟩, fun D hD => ?_⟩
    have len : gv.length = L.length := EachIs.length h4
    refine lc_it (walk_list (K := K) (a := ga) (xs := gv)) (fun i G => Same H1 G ∧ ∃ ks : List (Addr × List Int), G D = some (.lst (ks.map fun p => V.ref p.1)) ∧ (∀ p ∈ ks, OrdIs G p) ∧ ks.map Prod.snd = (L.take i).map fun t => mv ns t.1) ⟨sNew (Same.refl H1) hD, [], upd_same, (fun _ m => absurd m List.not_mem_nil), rfl⟩ (fun i G _ h => SqL.of (h.1 _ _ (s1 _ _ h3))) ?_ ?_
    · rintro i v _ G hi ⟨sG, ks, hks, tks, eks⟩ ⟨rfl, hv⟩
      have sHG := Same.trans s1 sG
      obtain ⟨q0, hq, T, u, rfl, e1, e2⟩ := each_get (TurnsS.same sHG h4) hv
      have perm0 := perm q0 (List.mem_of_getElem? hq)
      refine ⟨T, _, rfl, .inl (.inl e1), rfl, _, _, rfl, _, _, rfl, rfl, rfl, _, rfl, _, rfl, t, u, ns, q0.1, rfl, sTup sHG ht, .inl (.inl e2), idn_fits perm0, by rw [perm_len perm0]; omega, fun G2 pm s2 hpm em => ?_⟩
      have klen : ks.length ≤ 64 := by
        have := congrArg List.length eks
        rw [List.length_map, List.length_map, List.length_take] at this
        omega
      have eD := s2 _ _ hks
      refine ⟨_, eD, lt_line (by rw [List.length_map]; omega), sPut (Same.trans sG s2) hD, ks ++ [(pm, mv ns q0.1)], by rw [upd_same, List.map_append]; rfl, fun x m => ?_, ?_⟩
      · have o : OrdIs G2 x := by
          rcases List.mem_append.mp m with m | m
          · exact s2 _ _ (tks x m)
          · rw [List.mem_singleton.mp m]
            exact em
        show upd G2 D _ x.1 = _
        rw [upd_ne (ne_of o eD (fun z => by cases z))]
        exact o
      · rw [List.map_append, eks, List.take_add_one, hq, List.map_append]
        rfl
    rintro G ⟨sG, ks, hks, tks, eks⟩
    rw [len, List.take_length] at eks
    dsimp only [tNil]
    refine class_read hks tks eks lfew (d := ns.length) (by omega) (fun t ht => perm_len (perm t ht)) pos fun G' r js sr hr' h1 h2 h3 => ?_
    exact q G' r js (Same.trans s1 (Same.trans sG sr)) (s1.free (sG.free hr')) h1 h2 h3
end
end S16

/-! repr(x), x an instance whose own __repr__ is told where no repr is under way -/
namespace L2
open PySem PySem.Spec PyProof.Rows
theorem in1_guards {A : Around} : A.in1.guards = A.guards := by first | rfl | simp [Around.in1]
theorem call_reprOG {X : Cx} {k : Nat} {C g : Addr} {fd : FuncData} {sp : Sp} (own : PySem.W.findIn X.K (.ref C) "__repr__" = some (some (.ref g))) (isf : PySem.W.isFn X.K (.ref g) = true) (F : FnG X.prog X.w X.K X.mg X.base CX0 k g fd ["self"] sp) (b : Binds X.K fd ["self"] [])
    (quiet : X.A.guards = some []) (room : Room (k + 1) X.A) :
    CallR X (.builtin "repr") fun us H Q => ∃ a dx fs, us = [.ref a] ∧ H a = some (.ins C dx fs) ∧ sp [.ref a] H (fun v H' => ∃ t, v = .str t ∧ Q (.str t) H') E0 := by
  rintro pins s σ H _ us Q I r ⟨a, dx, fs, rfl, ha, q⟩
  rcases vals1 r with ⟨_, rfl, rfl⟩
  obtain ⟨od, It, _⟩ := (ins_get I.hok ha).choose_spec.1.look
  obtain ⟨m, frame⟩ := I.fr
  have fits : X.A.units + 1 < cLine := by
    have := room.un
    omega
  refine PySem.W.repr_K fits frame I.ok.mod.kin It own isf (wpAny_call (codeAny_mono (F.run X.A.in1 X.stack s H ⟨[.ref a], []⟩ [.ref a] [.ref a] _ E0 (in1_guards.trans quiet) room.in1' I.env0.in1 (b s [.ref a] I.kIn rfl) (.cons rfl .nil) q) ?_))
  rintro (er | fl) s1 z
  · exact z.elim
  cases fl with
  | ret u =>
    obtain ⟨_, H1, J1, rv, t, rfl, fin⟩ := I.after z
    obtain ⟨tk, rfl⟩ := rv
    exact ⟨.str t, H1, J1, ⟨tk, rfl⟩, fin⟩
  | _ => exact z.elim
end L2

namespace S16
open PySem L2 GM
open PySem.W (EachIs)
/-! ### data of tables -/
theorem dp_strs {K : PySem.W.Frag} {H : Hp} : ∀ ss : List Str, DpAll K H (ss.map V.str) (ss.map PyData.str)
  | [] => .nil
  | s :: ss => .cons (.str s) (dp_strs ss)
theorem deep_strs : ∀ ss : List Str, PyData.depthAll (ss.map PyData.str) = 0
  | [] => by simp [PyData.depthAll]
  | s :: ss => by
    show PyData.depthAll (.str s :: ss.map PyData.str) = 0
    rw [PyData.depthAll, deep_strs ss]
    simp [PyData.depth]
theorem NameOk.fit {z : Str} (h : NameOk z) : PyData.strOk z = true := by
  have small : ∀ c ∈ letters.cps.toList, c < 0x110000 := by decide +kernel
  unfold PyData.strOk
  rw [← Array.all_toList, List.all_eq_true]
  exact fun c m => decide_eq_true (small c (h.2.2 c m))
theorem lay_strs : ∀ ss : List Str, (∀ z ∈ ss, NameOk z) → PyData.canLayAll0 (ss.map PyData.str) = true
  | [], _ => by simp [PyData.canLayAll0]
  | s :: ss, h => by
    show PyData.canLayAll0 (.str s :: ss.map PyData.str) = true
    rw [PyData.canLayAll0, lay_strs ss fun z m => h z (List.mem_cons_of_mem _ m)]
    simp [PyData.canLay0, (h s List.mem_cons_self).fit]
theorem sh_strsT {ss : List Str} (h : SlotsOk ss) : SeqAt.shaped (.tuple (ss.map PyData.str)) = true := by
  have d := deep_strs ss
  unfold SeqAt.shaped
  rw [Bool.and_eq_true, decide_eq_true_eq, PyData.canLay0, PyData.depth]
  exact ⟨lay_strs ss h.2.2, by omega⟩
theorem kit_self {K : PySem.W.Frag} {C : Addr} : PySem.W.kitOne K (.ref C) (.ref C) = some true := by
  unfold PySem.W.kitOne
  rw [if_pos (by simp)]
theorem eqv_strs : ∀ a b : List Str, PyData.eqvAll (a.map PyData.str) (b.map PyData.str) = decide (a = b)
  | [], b => by cases b <;> simp [PyData.eqvAll]
  | _ :: _, [] => by simp [PyData.eqvAll]
  | x :: a, y :: b => by
    show PyData.eqvAll (.str x :: a.map PyData.str) (.str y :: b.map PyData.str) = _
    rw [PySem.W.eqv_all_cons, eqv_strs a b, PyData.eqv]
    by_cases h : x = y
    · subst h
      by_cases h2 : a = b <;> simp [h2]
    · simp [h]
theorem eqv_strsT (a b : List Str) : PyData.eqv (.tuple (a.map PyData.str)) (.tuple (b.map PyData.str)) = decide (a = b) := by rw [PyData.eqv, eqv_strs]
theorem eqv_turn (p q : Turn) : PyData.eqv (turnD p) (turnD q) = decide (p = q) := by
  rw [turnD, turnD, PyData.eqv, PySem.W.eqv_all_cons, PySem.W.eqv_all_cons, eqv_ord, PyData.eqv]
  obtain ⟨o, s⟩ := p
  obtain ⟨o', s'⟩ := q
  by_cases h : o = o'
  · by_cases h2 : s = s'
    · simp [h, h2, PyData.eqvAll]
    · simp [h, h2]
  · simp [h]
theorem eqv_turns : ∀ a b : List Turn, PyData.eqvAll (a.map turnD) (b.map turnD) = decide (a = b)
  | [], b => by cases b <;> simp [PyData.eqvAll]
  | _ :: _, [] => by simp [PyData.eqvAll]
  | x :: a, y :: b => by
    show PyData.eqvAll (turnD x :: a.map turnD) (turnD y :: b.map turnD) = _
    rw [PySem.W.eqv_all_cons, eqv_turns a b, eqv_turn]
    by_cases h : x = y
    · subst h
      by_cases h2 : a = b <;> simp [h2]
    · simp [h]
theorem eqv_turnsL (a b : List Turn) : PyData.eqv (.list (a.map turnD)) (.list (b.map turnD)) = decide (a = b) := by rw [PyData.eqv, eqv_turns]
theorem lay_turn (p : Turn) : (turnD p).canLay0 = true := by
  rw [turnD, PyData.canLay0, PyData.canLayAll0, ordD, PyData.canLay0, lay_ints p.1]
  simp [PyData.canLayAll0, PyData.canLay0]
theorem lay_turns : ∀ L : List Turn, PyData.canLayAll0 (L.map turnD) = true
  | [] => by simp [PyData.canLayAll0]
  | p :: L => by
    show PyData.canLayAll0 (turnD p :: L.map turnD) = true
    rw [PyData.canLayAll0, lay_turns L, lay_turn]
    rfl
theorem deep2_turn (p : Turn) : (turnD p).depth = 2 := by
  have d := PySem.W.depth_ints p.1
  simp only [PyData.depth, PyData.depthAll, d]
  omega
theorem deep_turns : ∀ L : List Turn, PyData.depthAll (L.map turnD) ≤ 2
  | [] => by simp [PyData.depthAll]
  | p :: L => by
    have h := deep_turns L
    have d := deep2_turn p
    show PyData.depthAll (turnD p :: L.map turnD) ≤ 2
    rw [PyData.depthAll]
    omega
theorem sh_turns (L : List Turn) : SeqAt.shaped (.list (L.map turnD)) = true := by
  have d := deep_turns L
  unfold SeqAt.shaped
  rw [Bool.and_eq_true, decide_eq_true_eq, PyData.canLay0, PyData.depth]
  exact ⟨lay_turns L, by omega⟩
theorem dp_turns {K : PySem.W.Frag} {H : Hp} {vs : List V} {L : List Turn} (h : TurnsS H vs L) : DpAll K H vs (L.map turnD) := by
  induction h with
  | nil => exact .nil
  | cons a _ ih => exact .cons a.dp ih
theorem GroupAt.dp {K : PySem.W.Frag} {H : Hp} {a : Addr} {L : List Turn} (h : GroupAt H a L) : Dp K H (.ref a) (.list (L.map turnD)) := by
  obtain ⟨vs, h1, h2⟩ := h
  exact .lst (SqL.of h1) (dp_turns h2)
/-- how a table is shown -/
def tabText (z : Str) (ss : List Str) : Str := "Table(" ++ reprText z ++ ", " ++ tupleText (ss.map reprText) ++ ")"
section
variable {P : Program} {w : World} {K : PySem.W.Frag} {mg : Str → Option Value} {base : Heap}
/-! ### __eq__ -/
def spTEq (C : Addr) : Sp := fun vs H Q _ => (∃ (p q : Addr) (z z' : Str) (ss ss' : List Str) (L L' : List Turn), vs = [.ref p, .ref q] ∧ TabAt C H p z ss L ∧ TabAt C H q z' ss' L' ∧ SlotsOk ss ∧ SlotsOk ss' ∧ Q (.bl (decide (z = z' ∧ ss = ss' ∧ L = L'))) H) ∨
  ∃ (p t : Addr) (xs : List V) (z : Str) (ss : List Str) (L : List Turn), vs = [.ref p, .ref t] ∧ TabAt C H p z ss L ∧ H t = some (.tup xs) ∧ Q (.bl false) H
theorem scTEq : FnScope ["self", "other"] ["self", "other"] (defScope sTEq) := ⟨rfl, rfl, rfl, by decide +kernel, rfl, by decide +kernel, by decide +kernel⟩
theorem ok_teq {f C : Addr} {fd : FuncData} (F : Fun K "__eq__" "Table.__eq__" sTEq f fd) (B : Bn mg) (N : Tc K mg C) (kt : PySem.W.kitOne K (.type "tuple") (.ref C) = some false) : FnOk P w K mg base CX0 1 f fd ["self", "other"] (spTEq C) := by
  refine F.ok scTEq (fun vs H Q E h => ?_) (fun cdv A outer s H vs Q E hr h => ?_)
  · rcases h with ⟨p, q, z, z', ss, ss', L, L', rfl, _⟩ | ⟨p, t, xs, z, ss, L, rfl, _⟩ <;> rfl
  · have hu := hr.units
    refine ⟨_, pss_cons (ps_if (PW.pt (pw_or (pt_not (pt_val (pe_callB call_isi (by rfl) B.isi (by decide +kernel) (pa_cons (pv 1) (pa_cons (pe_glob (v := .ref C) (by rfl) N.mgC rfl) pa_nil)))))
        (pw_or1 (pt_cmpR op_ne (pe_fld (pv 0) rfl) (pe_fld (pv 1) rfl) (nomark _))))) (pss_one (ps_ret pe_bl)) pss_nil)
      (pss_one (ps_ret (pe_and (pe_cmpR (op_eqD hu) (pe_fld (pv 0) rfl) (pe_fld (pv 1) rfl) (nomark _)) (pe_one (pe_cmpR (op_eqD hu) (pe_fld (pv 0) rfl) (pe_fld (pv 1) rfl) (nomark _)))))), ?_⟩
    rcases h with ⟨p, q, z, z', ss, ss', L, L', rfl, ⟨dx, sa, ga, h1, h2, h3⟩, ⟨dy, sb, gb, k1, k2, k3⟩, so, so', fin⟩ | ⟨p, t, xs, z, ss, L, rfl, tab, ht, fin⟩
    · refine ⟨_, rfl, _, _, _, _, true, rfl, .own C, .base (.ins k1 N.cl N.ic N.gt N.tk N.mo), kit_self, true, rfl, ?_⟩
      refine iteF ⟨_, rfl, p, C, dx, _, _, rfl, h1, N.cl, N.nN, rfl, _, rfl, q, C, dy, _, _, rfl, k1, N.cl, N.nN, rfl, rfl, _, rfl, ?_⟩
      by_cases ez : z = z'
      · subst ez
        rw [show (!decide (V.str z = V.str z)) = false by rw [decide_eq_true rfl]; rfl]
        refine iteF ⟨_, rfl, p, C, dx, _, _, rfl, h1, N.cl, N.nS, rfl, _, rfl, q, C, dy, _, _, rfl, k1, N.cl, N.nS, rfl, _, _, .tup (.inl (.inl h2)) (dp_strs ss), .tup (.inl (.inl k2)) (dp_strs ss'), sh_strsT so, sh_strsT so', _, rfl, ?_⟩
        rw [eqv_strsT]
        by_cases es : ss = ss'
        · rw [decide_eq_true es]
          refine iteT ⟨_, rfl, p, C, dx, _, _, rfl, h1, N.cl, N.nT, rfl, _, rfl, q, C, dy, _, _, rfl, k1, N.cl, N.nT, rfl, _, _, h3.dp, k3.dp, sh_turns _, sh_turns _, ?_⟩
          rw [eqv_turnsL]
          have e : decide (z = z ∧ ss = ss' ∧ L = L') = decide (L = L') := by
            by_cases x : L = L' <;> simp [es, x]
          rwa [e] at fin
        · rw [decide_eq_false es]
          refine iteF ?_
          have e : decide (z = z ∧ ss = ss' ∧ L = L') = false := by simp [es]
          rwa [e] at fin
      · rw [show (!decide (V.str z = V.str z')) = true by rw [decide_eq_false (fun y => ez (V.str.inj y))]; rfl]
        refine iteT ?_
        have e : decide (z = z' ∧ ss = ss' ∧ L = L') = false := by simp [ez]
        rwa [e] at fin
    · refine ⟨_, rfl, _, _, _, _, false, rfl, .own C, .base (.tup ht), kt, false, rfl, ?_⟩
      exact iteT fin
/-! ### __repr__ -/
def spTRepr (C : Addr) : Sp := fun vs H Q _ => ∃ (p : Addr) (z : Str) (ss : List Str) (L : List Turn), vs = [.ref p] ∧ TabAt C H p z ss L ∧ NameOk z ∧ SlotsOk ss ∧ ∀ H', Same H H' → Q (.str (tabText z ss)) H'
theorem scTRepr : FnScope ["self"] ["self"] (defScope sTRepr) := ⟨rfl, rfl, rfl, by decide +kernel, rfl, by decide +kernel, by decide +kernel⟩
theorem ok_trepr {f C : Addr} {fd : FuncData} (F : Fun K "__repr__" "Table.__repr__" sTRepr f fd) (N : Tc K mg C) : FnG P w K mg base CX0 3 f fd ["self"] (spTRepr C) := by
  refine F.okG scTRepr (fun vs H Q E h => ?_) (fun cdv A outer s H vs Q E gd hr h => ?_)
  · obtain ⟨p, z, ss, L, rfl, _⟩ := h
    rfl
  · obtain ⟨p, z, ss, L, rfl, ⟨dx, sa, ga, h1, h2, h3⟩, zok, sok, q⟩ := h
    refine ⟨_, pss_one (ps_ret (pe_joined (PJ.cons pe_str (PJ.cons (pe_fmtG (k := 2) (deeper_guards.trans gd) hr (pe_fld (pv 0) rfl)) (PJ.cons pe_str (PJ.cons (pe_fmtG (k := 2) (deeper_guards.trans gd) hr (pe_fld (pv 0) rfl)) (PJ.cons pe_str PJ.nil))))))), ?_⟩
    have sl : sizeLine = 16777216 := sizeLine_eq
    have zl := zok.shown
    have parts : ∀ t ∈ ss.map reprText, t.length ≤ 82 := fun t m => by
      obtain ⟨y, hy, rfl⟩ := List.mem_map.mp m
      exact (sok.2.2 y hy).shown
    have sum : ∀ ts : List Str, (∀ t ∈ ts, t.length ≤ 82) → (ts.map (·.length)).sum ≤ 82 * ts.length := by
      intro ts
      induction ts with
      | nil => intro _; exact Nat.le_refl _
      | cons t ts ih =>
        intro h
        have a := h t List.mem_cons_self
        have b := ih fun x m => h x (List.mem_cons_of_mem _ m)
        rw [List.map_cons, List.sum_cons, List.length_cons]
        omega
    have tl : (tupleText (ss.map reprText)).length ≤ 400 := by
      have a := tupleText_len_le (ss.map reprText)
      have b := sum _ parts
      rw [List.length_map] at a b
      have := sok.2.1
      omega
    have all : ∀ xs : List Str, (∀ y ∈ xs, NameOk y) → SgAll (cxOf CX0 P w K mg base ["self"] "Table.__repr__" (defScope sTRepr) f cdv A outer s H E).nox 1 (fun G => G = H) (fun _ => False) (xs.map V.str) (xs.map reprText) := by
      intro xs
      induction xs with
      | nil => intro _; exact .nil
      | cons x xs ih =>
        intro h
        have := (h x List.mem_cons_self).shown
        exact .cons (sg_str (by omega)) (ih fun y m => h y (List.mem_cons_of_mem _ m))
    refine ⟨_, rfl, (by rw [strLen_append, e_len, sl]; decide), ?_⟩
    refine ⟨_, rfl, p, C, dx, _, _, rfl, h1, N.cl, N.nN, rfl, reprText z, fun G => G = H, fun _ => False, rfl, sg_str (by omega), by omega, fun G j => ?_⟩
    have j' := j.symm
    subst j'
    refine ⟨_, rfl, (by simp only [strLen_append, e_len]; rw [sl]; have : ("Table(" : Str).length = 6 := rfl; omega), ?_⟩
    refine ⟨_, rfl, (by simp only [strLen_append, e_len]; rw [sl]; have : ("Table(" : Str).length = 6 := rfl; have : (", " : Str).length = 2 := rfl; omega), ?_⟩
    refine ⟨_, rfl, p, C, dx, _, _, rfl, h1, N.cl, N.nS, rfl, tupleText (ss.map reprText), fun G => G = H, fun c => c = sa ∨ False, rfl, sg_tup (fun G j => j ▸ h2) id (all ss sok.2.2), by omega, fun G j => ?_⟩
    have j' := j.symm
    subst j'
    refine ⟨_, rfl, (by simp only [strLen_append, e_len]; rw [sl]; have : ("Table(" : Str).length = 6 := rfl; have : (", " : Str).length = 2 := rfl; omega), ?_⟩
    refine ⟨_, rfl, (by simp only [strLen_append, e_len]; rw [sl]; have : ("Table(" : Str).length = 6 := rfl; have : (", " : Str).length = 2 := rfl; have : (")" : Str).length = 1 := rfl; omega), ?_⟩
    have e : Str.empty ++ ("Table(" : Str) ++ reprText z ++ (", " : Str) ++ tupleText (ss.map reprText) ++ (")" : Str) = tabText z ss := by
      unfold tabText
      rw [show Str.empty ++ ("Table(" : Str) = ("Table(" : Str) by decide +kernel]
    show Q (.str (Str.empty ++ ("Table(" : Str) ++ reprText z ++ (", " : Str) ++ tupleText (ss.map reprText) ++ (")" : Str))) _
    rw [e]
    exact q _ (Same.refl _)
end
end S16

/-! groups made anew -/
namespace GM
theorem mv_mv {o a b : List Int} (h : ∀ i ∈ b, 0 ≤ i ∧ i < a.length) : mv (mv o a) b = mv o (mv a b) := by
  unfold mv
  rw [List.map_map]
  refine List.map_congr_left fun i hi => ?_
  have z := h i hi
  have lt : i.toNat < a.length := by omega
  show (a.map fun i => o.getD i.toNat 0).getD i.toNat 0 = o.getD (a.getD i.toNat 0).toNat 0
  rw [List.getD_eq_getElem?_getD, List.getElem?_map, List.getD_eq_getElem?_getD (l := a), List.getElem?_eq_getElem lt] <;> rfl
theorem fits_perm {n : Nat} {a b : List Int} (ha : a.Perm (idn n)) (hb : b.Perm (idn n)) : ∀ i ∈ b, 0 ≤ i ∧ i < a.length := fun i hi => by
  have z := mem_idn.mp (hb.mem_iff.mp hi)
  have l : a.length = n := by rw [ha.length_eq, idn_len]
  omega
theorem Reach.mul {n : Nat} {T : List Turn} (h : Are n T) {o a : List Int} {s t : Int} (r : Reach n T o s) (q : Reach n T a t) : Reach n T (mv o a) (s * t) := by
  induction q with
  | one =>
    have l : o.length = n := by rw [(r.are h).1.length_eq, idn_len]
    have e := mv_idn o
    rw [l] at e
    rw [e, Int.mul_one]
    exact r
  | @step a t u q m ih =>
    rw [← mv_mv (fits_perm (q.are h).1 (h u m).1), ← Int.mul_assoc]
    exact .step ih m
theorem mv_left {n : Nat} {a : List Int} (h : a.Perm (idn n)) : mv (idn n) a = a := by
  unfold mv
  refine (List.map_congr_left (g := id) fun i hi => ?_).trans (List.map_id a)
  have z := mem_idn.mp (h.mem_iff.mp hi)
  unfold idn
  rw [List.getD_eq_getElem?_getD, List.getElem?_map, List.getElem?_range (by omega)]
  show ((i.toNat : Nat) : Int) = i
  omega
theorem Reach.self {n : Nat} {T : List Turn} (h : Are n T) {t : Turn} (m : t ∈ T) : Reach n T t.1 t.2 := by
  have z := Reach.step (.one (n := n) (T := T)) m
  rwa [mv_left (h t m).1, Int.one_mul] at z
/-- turns taken from a group lead to no more -/
theorem Reach.sub {n : Nat} {T S : List Turn} (h : Are n T) (hs : ∀ t ∈ S, Reach n T t.1 t.2) {o : List Int} {s : Int} (r : Reach n S o s) : Reach n T o s := by
  induction r with
  | one => exact .one
  | step r m ih => exact ih.mul h (hs _ m)
theorem Reach.mono {n : Nat} {S T : List Turn} (hs : ∀ t ∈ S, t ∈ T) {o : List Int} {s : Int} (r : Reach n S o s) : Reach n T o s := by
  induction r with
  | one => exact .one
  | step r m ih => exact .step ih (hs _ m)
theorem Single.sub {n : Nat} {T S : List Turn} (h : Are n T) (hs : ∀ t ∈ S, Reach n T t.1 t.2) (sg : Single n T) : Single n S := fun o s s' a b => sg o s s' (a.sub h hs) (b.sub h hs)
theorem nodup_of_keys {L : List Turn} (h : (L.map Prod.fst).Nodup) : L.Nodup := by
  induction L with
  | nil => exact List.nodup_nil
  | cons p L ih =>
    rw [List.map_cons, List.nodup_cons] at h
    exact List.nodup_cons.mpr ⟨fun m => h.1 (List.mem_map.mpr ⟨p, m, rfl⟩), ih h.2⟩
theorem single_of {n : Nat} {T L : List Turn} (l : Lists n T L) (nd : (L.map Prod.fst).Nodup) : Single n T := fun o s s' a b => keys_nodup nd ((l (o, s)).mpr a) ((l (o, s')).mpr b)
end GM

namespace S16
open PySem L2 GM
open PySem.W (EachIs)
def spStarT (K : PySem.W.Frag) (C D : Addr) : Sp := fun vs H Q E => ∃ ws rest, vs = ws ++ rest ∧ ws.length = (["self", "name", "slots"] : List Str).length ∧ rest.length ≤ sizeLine ∧ ∀ p, H p = Option.none → spTInit K C D (ws ++ [V.ref p]) (upd H p (.tup rest)) Q E
/-- what comes of Table(z, ss, *T) -/
def MadeT (C D : Addr) (H1 : Hp) (z : Str) (ss : List Str) (T : List Turn) (Q : VK) (E : XK) : Prop := (¬ Single ss.length T → XV D z H1 E) ∧ ∀ (H' : Hp) (p : Addr) (L : List Turn), Same H1 H' → H1 p = none → TabAt C H' p z ss L → Grp ss.length T L → Q (.ref p) H'
theorem made_t {K : PySem.W.Frag} {C D : Addr} {H1 : Hp} {z : Str} {a : Addr} {ss : List Str} {tv : List V} {T : List Turn} {Q : VK} {E : XK} (zok : NameOk z) (ha : TextsS H1 a ss) (sok : SlotsOk ss) (hts : TurnsAre K H1 tv T) (tok : ∀ p ∈ T, TurnOk ss p) (few : T.length ≤ 100) (m : MadeT C D H1 z ss T Q E)
    (x dx : Addr) (hx : H1 x = none) (hdx : H1 dx = none) (ne : dx ≠ x) : spStarT K C D (V.ref x :: V.str z :: V.ref a :: tv) (upd (upd H1 dx (.own x)) x (.ins C dx [])) (fun v H2 => v = .non ∧ Q (.ref x) H2) E := by
  have tl := hts.len
  refine ⟨[.ref x, .str z, .ref a], tv, rfl, rfl, le_line (by omega), fun p hp => ?_⟩
  have npx : p ≠ x := fun e => by rw [e, upd_same] at hp; cases hp
  have npd : p ≠ dx := fun e => by rw [e, upd_ne ne, upd_same] at hp; cases hp
  have hp0 : H1 p = none := by rw [upd_ne npx, upd_ne npd] at hp; exact hp
  have same : Same H1 (upd (upd (upd H1 dx (.own x)) x (.ins C dx [])) p (.tup tv)) := fun b o e => by
    have nbx : b ≠ x := ne_of_none e hx
    have nbd : b ≠ dx := ne_of_none e hdx
    have nbp : b ≠ p := ne_of_none e hp0
    rw [upd_ne nbp, upd_ne nbx, upd_ne nbd]
    exact e
  have past : ∀ H', SameX x (upd (upd (upd H1 dx (.own x)) x (.ins C dx [])) p (.tup tv)) H' → Same H1 H' := fun H' sx b o e => sx b o (ne_of_none e hx) (same b o e)
  refine ⟨x, dx, a, p, z, ss, tv, T, rfl, ?_, zok, ha.same same, sok, upd_same, hts.same same, tok, few, fun no H' d sx hd e => ?_, fun H' sa ga L sx hx' hsa hg grp => ⟨rfl, ?_⟩⟩
  · rw [upd_ne npx.symm, upd_same]
  · refine m.1 no H' d (past H' sx) ?_ e
    cases h : H1 d with
    | none => rfl
    | some o => rw [same d o h] at hd; cases hd
  · exact m.2 H' x L (past H' sx) hx ⟨dx, sa, ga, hx', hsa, hg⟩ grp
structure TMk (P : Program) (w : World) (K : PySem.W.Frag) (mg : Str → Option Value) (base : Heap) (C D : Addr) : Prop where
  tc : Tc K mg C
  ex : ∃ g, Mk K C g ∧ FnRG P w K mg base (L2.CX P w) 6 g (spStarT K C D)
theorem pe_tab {X : Cx} {C D : Addr} {E : XK} {e1 : Expr} {er : List Expr} {ta : TA} {pn pc : Pos} (M : TMk X.prog X.w X.K X.mg X.base C D) (gd : X.A.guards = some []) (hr : Room 7 X.A) (hg : Gl X "Table") (hx : Passes (L2.CX X.prog X.w) X E) (ha : PA X (e1 :: er) ta)
    (st : starEach (e1 :: er) X.env = (false, eval e1 X.env) :: starEach er X.env := by rfl) (pl : (backTo pc (starEach er X.env)).any (·.1) = false := by rfl) : PE X (.Call (.Name "Table" pn) (e1 :: er) [] pc) (StX.tMakeR C (spStarT X.K C D) E ta) := by
  obtain ⟨g, mk, F⟩ := M.ex
  exact pe_makeRG mk F gd hr hg M.tc.mgC hx ha (by decide) st pl
theorem pe_tabS {X : Cx} {C D : Addr} {E : XK} {e1 : Expr} {er : List Expr} {ta : TA} {pn pc : Pos} (M : TMk X.prog X.w X.K X.mg X.base C D) (gd : X.A.guards = some []) (hr : Room 7 X.A) (hg : Gl X "Table") (hx : Passes (L2.CX X.prog X.w) X E) (ha : PA X (e1 :: er) ta)
    (st : starEach (e1 :: er) X.env = (false, eval e1 X.env) :: starEach er X.env := by rfl) (star : (backTo pc (starEach er X.env)).any (·.1) = true := by rfl) : PE X (.Call (.Name "Table" pn) (e1 :: er) [] pc) (StX.tMakeR C (spStarT X.K C D) E ta) := by
  obtain ⟨g, mk, F⟩ := M.ex
  exact pe_makeSG mk F gd hr hg M.tc.mgC hx ha (by decide) st star
/-- the group of a group -/
theorem Grp.again {n : Nat} {T L L' : List Turn} (are : Are n T) (g : Grp n T L) (g' : Grp n L L') : L' = L := by
  refine srt_same (nodup_of_keys g'.nd) (nodup_of_keys g.nd) (fun p => ?_) g'.srt g.srt
  rw [g'.lists p, g.lists p]
  exact ⟨fun r => r.sub are fun t m => (g.lists t).mp m, fun r => r.mono fun t m => (g.lists t).mpr (Reach.self are m)⟩
section
variable {P : Program} {w : World} {K : PySem.W.Frag} {mg : Str → Option Value} {base : Heap}
/-! ### renamed -/
def spTNamed (C : Addr) : Sp := fun vs H Q _ => ∃ (p : Addr) (z z' : Str) (ss : List Str) (T L : List Turn), vs = [.ref p, .str z'] ∧ TabAt C H p z ss L ∧ NameOk z' ∧ SlotsOk ss ∧ (∀ q ∈ L, TurnOk ss q) ∧ Are ss.length T ∧ Grp ss.length T L ∧ L.length ≤ 24 ∧
  ∀ (H' : Hp) (r : Addr), Same H H' → H r = none → TabAt C H' r z' ss L → Q (.ref r) H'
theorem scTNamed : FnScope ["self", "name", "turns"] ["self", "name"] (defScope sTNamed) := ⟨rfl, rfl, rfl, by decide +kernel, rfl, by decide +kernel, by decide +kernel⟩
theorem ok_tnamed {f C D : Addr} {fd : FuncData} (F : Fun K "renamed" "Table.renamed" sTNamed f fd) (N : Tc K mg C) (M : TMk P w K mg base C D) : FnG P w K mg base CX0 8 f fd ["self", "name"] (spTNamed C) := by
  refine F.okG scTNamed (fun vs H Q E h => ?_) (fun cdv A outer s H vs Q E gd hr h => ?_)
  · obtain ⟨p, z, z', ss, T, L, rfl, _⟩ := h
    rfl
  · obtain ⟨p, z, z', ss, T, L, rfl, ⟨dx, sa, ga, h1, h2, gv, h3, h4⟩, zok, sok, tok, are, grp, few, q⟩ := h
    refine ⟨_, pss_cons (ps_set (i := 2) scTNamed.nd rfl (Or.inl rfl) (pe_fld (pv 0) rfl)) (pss_one (ps_ret (pe_tabS (E := E0) M (deeper_guards.trans gd) hr (by rfl) passF (pa_cons (pv 1) (pa_cons (pe_fld (pv 0) rfl) (StX.pa_star (pv 2) pa_nil))) (by rfl) (by rfl)))), ?_⟩
    refine ⟨_, rfl, p, C, dx, _, _, rfl, h1, N.cl, N.nT, rfl, ?_⟩
    refine ⟨_, rfl, _, rfl, p, C, dx, _, _, rfl, h1, N.cl, N.nS, rfl, _, rfl, ga, gv, rfl, .inr (SqL.of h3), fun x dy hx hdy ne => ?_⟩
    have sg : Single ss.length L := Single.sub are (fun t m => (grp.lists t).mp m) (single_of grp.lists grp.nd)
    refine made_t (ss := ss) (T := L) zok (.inr h2) sok (by rw [List.append_nil]; exact TurnsS.are h4) tok (by omega) ⟨fun no => absurd sg no, fun H' r L' s' hr' tab g' => ?_⟩ x dy hx hdy ne
    rw [Grp.again are grp g'] at tab
    exact q H' r s' hr' tab
end
end S16

namespace S16
open PySem L2 GM
open PySem.W (EachIs)
/-- the two numbers that draw -/
def PotAt (H : Hp) (l : Addr) : Prop := ∃ x y : Int, H l = some (.lst [.int x, .int y]) ∧ 0 ≤ x ∧ 0 ≤ y ∧ y < 4294967296
theorem PotAt.same {H H' : Hp} {l : Addr} (s : Same H H') (h : PotAt H l) : PotAt H' l := by
  obtain ⟨x, y, e, r⟩ := h
  exact ⟨x, y, s _ _ e, r⟩
theorem PotAt.ne {H : Hp} {l t : Addr} (h : PotAt H l) (ht : H t = none) : t ≠ l := fun e => by
  obtain ⟨x, y, e1, _⟩ := h
  rw [e, e1] at ht
  cases ht
theorem PotAt.put {H : Hp} {l p : Addr} {o : HO} (h : PotAt H l) (n : l ≠ p) : PotAt (upd H p o) l := by
  obtain ⟨x, y, e, r⟩ := h
  exact ⟨x, y, by rw [upd_ne n]; exact e, r⟩
theorem SameX.new {x p : Addr} {H H' : Hp} {o : HO} (a : SameX x H H') (n : H p = none) : SameX x H (upd H' p o) := fun b u hb e => by
  rw [upd_ne (ne_of_none e n)]
  exact a b u hb e
section
variable {P : Program} {w : World} {K : PySem.W.Frag} {mg : Str → Option Value} {base : Heap}
/-! ### _law_pot -/
def spPot (K : PySem.W.Frag) : Sp := fun vs H Q _ => ∃ (a : Addr) (ns : List Int) (k : Nat), vs = [.ref a, .int k] ∧ SqL K H a (ns.map V.int) ∧ k < 4 ∧ ns.length ≤ 1000 ∧ ∀ H' l, Same H H' → H l = none → PotAt H' l → Q (.ref l) H'
abbrev nPot : List Str := ["_law_script", "_law_k", "_law_cell"]
theorem scPot : FnScope nPot ["_law_script", "_law_k"] (defScope sPot) := ⟨rfl, rfl, rfl, by decide +kernel, rfl, by decide +kernel, by decide +kernel⟩
theorem ok_pot {f : Addr} {fd : FuncData} (F : Fun K "_law_pot" "_law_pot" sPot f fd) (T : Bn mg) : FnOk P w K mg base CX0 1 f fd ["_law_script", "_law_k"] (spPot K) := by
  refine F.ok scPot (fun vs H Q E h => ?_) (fun cdv A outer s H vs Q E hr h => ?_)
  · obtain ⟨a, ns, k, rfl, _⟩ := h
    rfl
  · obtain ⟨a, ns, k, rfl, ha, hk, hl, q⟩ := h
    refine ⟨_, pss_cons (ps_set (i := 2) scPot.nd rfl (Or.inl rfl) (pe_ifExp (pt_cmpR op_lt (pv 1) (pe_callB call_len_seq (by rfl) T.len PySem.boot_len (pa_cons (pv 0) pa_nil)) (nomark _))
        (pe_callB call_abs (by rfl) T.abs (by decide +kernel) (pa_cons (pe_ix ix_list (pv 0) (pv 1) (fun _ _ => rfl)) pa_nil)) pe_int))
      (pss_one (ps_ret (pe_lst (pa_cons (pe_callB (call_max2 rfl) (by rfl) T.max (by decide +kernel) (pa_cons pe_int (pa_cons (pe_op op_sub (pv 2) (pe_op op_pow pe_int pe_int)) pa_nil)))
        (pa_cons (pe_op op_mod (pe_callTy call_int1 (by rfl) T.int (by decide +kernel) (pa_cons (pe_op op_add (pe_op op_add (pe_op op_mul (pe_op op_mod (pe_callTy call_int1 (by rfl) T.int (by decide +kernel) (pa_cons (pv 2) pa_nil)) pe_int) pe_int) (pe_op op_mul pe_int (pv 1))) pe_int) pa_nil)) pe_int) pa_nil))))), ?_⟩
    refine ⟨_, rfl, _, rfl, a, _, rfl, .inl ha, _, _, rfl, rfl, _, rfl, ?_⟩
    have rest : ∀ c : Int, 0 ≤ c → ∀ (R : VK), (∀ x y : Int, 0 ≤ x → 0 ≤ y → y < 4294967296 → ∀ l, H l = none → R (.ref l) (upd H l (.lst [.int x, .int y]))) →
        (tLst (tCons (tCB (fun xs H Q => ∃ i j, xs = [.int i, .int j] ∧ Q (.int (if j > i then j else i)) H) (tCons (tC (.int 0)) (tCons (tOp (rI0 fun i j => .int (i - j)) (tVar 2) (tOp (rI CPow fun i j => .int (i ^ j.toNat)) (tC (.int 10)) (tC (.int 18)))) tNil)))
          (tCons (tOp (rI (fun _ j => 0 < j) fun i j => .int (i % j))
            (tCB (fun xs H Q => (∃ i, xs = [.int i] ∧ Q (.int i) H) ∨ ∃ k, xs = [.bl k] ∧ Q (.int (if k then 1 else 0)) H) (tCons (tOp (rI0 fun i j => .int (i + j)) (tOp (rI0 fun i j => .int (i + j)) (tOp (rI CMul fun i j => .int (i * j)) (tOp (rI (fun _ j => 0 < j) fun i j => .int (i % j))
              (tCB (fun xs H Q => (∃ i, xs = [.int i] ∧ Q (.int i) H) ∨ ∃ k, xs = [.bl k] ∧ Q (.int (if k then 1 else 0)) H) (tCons (tVar 2) tNil)) (tC (.int 2147483579))) (tC (.int 39119))) (tOp (rI CMul fun i j => .int (i * j)) (tC (.int 50021)) (tVar 1))) (tC (.int 77))) tNil))
            (tC (.int 2147483647))) tNil))) [some (.ref a), some (.int k), some (.int c)] H R := by
      intro c hc R hR
      refine ⟨_, rfl, _, _, rfl, rfl, ⟨by decide, by decide, by decide⟩, _, _, rfl, rfl, _, _, rfl, ?_⟩
      refine ⟨_, rfl, .inl ⟨_, rfl, _, _, rfl, rfl, (by show (0 : Int) < 2147483579; decide), _, _, rfl, rfl, .inr ⟨by decide, by decide⟩, _, rfl, _, _, rfl, rfl, .inl ⟨by decide, by decide⟩, _, _, rfl, rfl, _, _, rfl, rfl, .inl ⟨_, rfl, ?_⟩⟩⟩
      refine ⟨_, _, rfl, rfl, (by show (0 : Int) < 2147483647; decide), (by show 2 ≤ sizeLine; decide), fun l hl => hR _ _ ?_ ?_ ?_ l hl⟩
      · split <;> omega
      · exact Int.emod_nonneg _ (by omega)
      · have := Int.emod_lt_of_pos (c % 2147483579 * 39119 + 50021 * (k : Int) + 77) (b := 2147483647) (by omega)
        omega
    have done : ∀ x y : Int, 0 ≤ x → 0 ≤ y → y < 4294967296 → ∀ l, H l = none → Q (.ref l) (upd H l (.lst [.int x, .int y])) := fun x y h1 h2 h3 l hl => q _ l (sNew (Same.refl H) hl) hl ⟨x, y, upd_same, h1, h2, h3⟩
    by_cases hlt : ((k : Nat) : Int) < ((ns.map V.int).length : Nat)
    · rw [decide_eq_true hlt]
      refine iteT ?_
      have hk2 : k < ns.length := by
        rw [List.length_map] at hlt
        omega
      refine ⟨_, rfl, _, rfl, a, _, _, V.int ns[k], rfl, rfl, ha, at_of (j := k) rfl (by rw [List.getElem?_map, List.getElem?_eq_getElem hk2]; rfl), _, rfl, ?_⟩
      exact rest _ (by split <;> omega) Q done
    · rw [decide_eq_false hlt]
      refine iteF ?_
      exact rest _ (by omega) Q done
/-! ### _law_draw -/
def spDraw : Sp := fun vs H Q _ => ∃ (l : Addr) (many : Int), vs = [.ref l, .int many] ∧ PotAt H l ∧ 1 ≤ many ∧ many < 1073741824 ∧ ∀ (H' : Hp) (d : Int), SameX l H H' → PotAt H' l → 0 ≤ d → d < many → Q (.int d) H'
abbrev nDraw : List Str := ["_law_pot_here", "_law_many", "_law_digit"]
theorem scDraw : FnScope nDraw ["_law_pot_here", "_law_many"] (defScope sDraw) := ⟨rfl, rfl, rfl, by decide +kernel, rfl, by decide +kernel, by decide +kernel⟩
theorem ok_draw {f : Addr} {fd : FuncData} (F : Fun K "_law_draw" "_law_draw" sDraw f fd) (T : Bn mg) : FnOk P w K mg base CX0 1 f fd ["_law_pot_here", "_law_many"] spDraw := by
  refine F.ok scDraw (fun vs H Q E h => ?_) (fun cdv A outer s H vs Q E hr h => ?_)
  · obtain ⟨l, many, rfl, _⟩ := h
    rfl
  · obtain ⟨l, many, rfl, ⟨x, y, hl, hx, hy, hy2⟩, m1, m2, q⟩ := h
    refine ⟨_, pss_cons (ps_if (pt_cmpR op_gt (pe_ix ix_list (pv 0) pe_int (fun _ _ => rfl)) pe_int (nomark _))
        (pss_cons (ps_asg (pe_callB call_divmodW (by rfl) T.divmod (by decide +kernel) (pa_cons (pe_ix ix_list (pv 0) pe_int (fun _ _ => rfl)) (pa_cons (pv 1) pa_nil)))
          (pg_tup rfl (pgs_cons (pg_sub (pv 0) pe_int set_list) (pgs_cons (pg_name (i := 2) scDraw.nd rfl (Or.inl rfl)) pgs_nil))))
        (pss_one (ps_ret (pv 2)))) pss_nil)
      (pss_cons (ps_asg (pe_op op_mod (pe_callTy call_int1 (by rfl) T.int (by decide +kernel) (pa_cons (pe_op op_add (pe_op op_mul (pe_ix ix_list (pv 0) pe_int (fun _ _ => rfl)) pe_int) pe_int) pa_nil)) pe_int) (pg_sub (pv 0) pe_int set_list))
      (pss_one (ps_ret (pe_op op_mod (pe_callTy call_int1 (by rfl) T.int (by decide +kernel) (pa_cons (pe_op op_fdiv (pe_op op_mod (pe_callTy call_int1 (by rfl) T.int (by decide +kernel) (pa_cons (pe_op op_mul (pe_ix ix_list (pv 0) pe_int (fun _ _ => rfl)) (pe_ix ix_list (pv 0) pe_int (fun _ _ => rfl))) pa_nil)) pe_int) pe_int) pa_nil)) (pv 1))))), ?_⟩
    refine ⟨_, rfl, l, _, _, V.int x, rfl, rfl, SqL.of hl, at_of (j := 0) rfl rfl, _, _, rfl, rfl, _, rfl, ?_⟩
    by_cases hp : x > 0
    · rw [decide_eq_true hp]
      refine iteT ?_
      refine ⟨_, rfl, l, _, _, V.int x, rfl, rfl, SqL.of hl, at_of (j := 0) rfl rfl, _, rfl, _, _, rfl, ⟨by omega, PyProof.noPylong_small (by omega)⟩, fun t ht => ?_⟩
      have s1 := sNew (o := .tup [V.int (x / many), V.int (x % many)]) (Same.refl H) ht
      refine ⟨t, _, rfl, .inl (.inl upd_same), rfl, _, _, rfl, _, rfl, l, _, _, 0, rfl, rfl, old hl ht, rfl, _, _, rfl, rfl, _, rfl, ?_⟩
      have e1 := Int.emod_nonneg x (b := many) (by omega)
      have e2 := Int.emod_lt_of_pos x (b := many) (by omega)
      have e3 : 0 ≤ x / many := Int.ediv_nonneg hx (by omega)
      exact q _ _ (SameX.put (SameX.of s1)) ⟨x / many, y, upd_same, e3, hy, hy2⟩ e1 e2
    · rw [decide_eq_false hp]
      refine iteF ?_
      refine ⟨_, rfl, l, _, _, V.int y, rfl, rfl, SqL.of hl, at_of (j := 1) rfl rfl, _, _, rfl, rfl, .inl ⟨by omega, by omega⟩, _, _, rfl, rfl, .inl ⟨_, rfl, ?_⟩⟩
      refine ⟨_, _, rfl, rfl, (by show (0 : Int) < 2147483549; decide), ?_⟩
      refine ⟨_, rfl, l, _, _, 1, rfl, rfl, hl, rfl, ?_⟩
      have e1 := Int.emod_nonneg (y * 48271 + 10007) (b := 2147483549) (by omega)
      have e2 := Int.emod_lt_of_pos (y * 48271 + 10007) (b := 2147483549) (by omega)
      have h2 : upd H l (.lst ([V.int x, V.int y].set 1 (V.int ((y * 48271 + 10007) % 2147483549)))) l = some (.lst [V.int x, V.int ((y * 48271 + 10007) % 2147483549)]) := upd_same
      have sx : SameX l H (upd H l (.lst ([V.int x, V.int y].set 1 (V.int ((y * 48271 + 10007) % 2147483549))))) := SameX.put (SameX.of (Same.refl H))
      generalize upd H l (.lst ([V.int x, V.int y].set 1 (V.int ((y * 48271 + 10007) % 2147483549)))) = H2 at h2 sx ⊢
      generalize (y * 48271 + 10007) % 2147483549 = z at e1 e2 h2 ⊢
      refine ⟨_, rfl, l, _, _, V.int z, rfl, rfl, SqL.of h2, at_of (j := 1) rfl rfl, _, rfl, l, _, _, V.int z, rfl, rfl, SqL.of h2, at_of (j := 1) rfl rfl, _, _, rfl, rfl, .inl ⟨by omega, by omega⟩, .inl ⟨_, rfl, ?_⟩⟩
      refine ⟨_, _, rfl, rfl, (by show (0 : Int) < 2147483497; decide), _, _, rfl, rfl, ⟨by decide, by decide⟩, .inl ⟨_, rfl, _, rfl, _, _, rfl, rfl, (by show (0 : Int) < many; omega), ?_⟩⟩
      exact q _ _ sx ⟨x, z, h2, hx, e1, by omega⟩ (Int.emod_nonneg _ (by omega)) (Int.emod_lt_of_pos _ (by omega))
/-! ### _law_pick -/
def spPick : Sp := fun vs H Q _ => ∃ (l s : Addr) (xs : List V), vs = [.ref l, .ref s] ∧ PotAt H l ∧ H s = some (.lst xs) ∧ s ≠ l ∧ 1 ≤ xs.length ∧ xs.length ≤ 1000 ∧ ∀ (H' : Hp) (v : V), SameX l H H' → PotAt H' l → v ∈ xs → Q v H'
theorem scPick : FnScope ["_law_pot_here", "_law_some"] ["_law_pot_here", "_law_some"] (defScope sPick) := ⟨rfl, rfl, rfl, by decide +kernel, rfl, by decide +kernel, by decide +kernel⟩
theorem ok_pick {f : Addr} {fd : FuncData} (F : Fun K "_law_pick" "_law_pick" sPick f fd) (T : Bn mg) (DD : Df P w K mg base "_law_draw" ["_law_pot_here", "_law_many"] 1 spDraw) : FnOk P w K mg base CX0 2 f fd ["_law_pot_here", "_law_some"] spPick := by
  refine F.ok scPick (fun vs H Q E h => ?_) (fun cdv A outer s H vs Q E hr h => ?_)
  · obtain ⟨l, s, xs, rfl, _⟩ := h
    rfl
  · obtain ⟨l, s, xs, rfl, hp, hs, ne, h1, h2, q⟩ := h
    refine ⟨_, pss_one (ps_ret (pe_ix ix_list (pv 1) (pe_df DD hr (by rfl) (pa_cons (pv 0) (pa_cons (pe_callB call_len_seq (by rfl) T.len PySem.boot_len (pa_cons (pv 1) pa_nil)) pa_nil))) (fun _ _ => rfl))), ?_⟩
    refine ⟨_, rfl, _, rfl, _, rfl, s, _, rfl, .inl (SqL.of hs), l, _, rfl, hp, by omega, by omega, fun H' d sx hp' d0 d1 => ?_⟩
    have hd : d.toNat < xs.length := by omega
    refine ⟨s, xs, d, xs[d.toNat], rfl, rfl, SqL.of (sx _ _ ne hs), at_of (j := d.toNat) (by omega) (List.getElem?_eq_getElem hd), ?_⟩
    exact q H' _ sx hp' (List.getElem_mem hd)
end
end S16

namespace S16
open PySem L2 GM
open PySem.W (EachIs)
theorem MadeT.same {C D : Addr} {H H1 : Hp} {z : Str} {ss : List Str} {T : List Turn} {Q : VK} {E : XK} (s : Same H H1) (m : MadeT C D H z ss T Q E) : MadeT C D H1 z ss T Q E := ⟨fun no => (m.1 no).same s, fun H' p L s' hp tab g => m.2 H' p L (Same.trans s s') (s.free hp) tab g⟩
section
variable {P : Program} {w : World} {K : PySem.W.Frag} {mg : Str → Option Value} {base : Heap}
/-! ### _law_table -/
def spLTable (C D : Addr) : Sp := fun vs H Q E => ∃ (z : Str) (a ta : Addr) (ss : List Str) (T : List Turn), vs = [.str z, .ref a, .ref ta] ∧ NameOk z ∧ TextsS H a ss ∧ SlotsOk ss ∧ GroupAt H ta T ∧ (∀ p ∈ T, TurnOk ss p) ∧ T.length ≤ 3 ∧ MadeT C D H z ss T Q E
abbrev nLTable : List Str := ["_law_title", "_law_slots", "_law_turns_here"]
theorem scLTable : FnScope nLTable nLTable (defScope sTable) := ⟨rfl, rfl, rfl, by decide +kernel, rfl, by decide +kernel, by decide +kernel⟩
theorem ok_ltable {f C D : Addr} {fd : FuncData} (F : Fun K "_law_table" "_law_table" sTable f fd) (B : Bn mg) (M : TMk P w K mg base C D) : FnG P w K mg base (L2.CX P w) 8 f fd nLTable (spLTable C D) := by
  obtain ⟨oc, od, kV, doc, pm, an, cdv, ct, osl, rfl, lk, hcd⟩ := F.ex
  refine fn_ofG lk hcd scLTable (fun vs H Q E h => ?_) fun A outer s H vs Q E gd hr h => ?_
  · obtain ⟨z, a, ta, ss, T, rfl, _⟩ := h
    rfl
  · obtain ⟨z, a, ta, ss, T, rfl, zok, ha, sok, ⟨tv, ht, hts⟩, tok, few, m⟩ := h
    have hu := hr.units
    have dg : (A.deeper (PyProof.Rows.envOfC "_law_table" (defScope sTable) s.heap.objs.size f cdv)).guards = some [] := deeper_guards.trans gd
    have ps : Passes (L2.CX P w) (cxOf (L2.CX P w) P w K mg base nLTable "_law_table" (defScope sTable) f cdv A outer s H E) E := L2.passes_call (L2.takes_of (E := E) rfl rfl rfl rfl) fun _ _ _ _ z => z
    refine ⟨_, pss_cons (ps_if (pt_cmpR (op_eqD hu) (pv 2) (pe_lst pa_nil) (nomark _)) (pss_one (ps_ret (pe_tab M dg hr (by rfl) ps (pa_cons (pv 0) (pa_cons (pv 1) pa_nil))))) pss_nil)
      (pss_cons (ps_if (pt_cmpR op_eq (pe_callB call_len_seq (by rfl) B.len PySem.boot_len (pa_cons (pv 2) pa_nil)) pe_int (nomark _)) (pss_one (ps_ret (pe_tab M dg hr (by rfl) ps (pa_cons (pv 0) (pa_cons (pv 1) (pa_cons (pe_ix ix_list (pv 2) pe_int (fun _ _ => rfl)) pa_nil)))))) pss_nil)
      (pss_cons (ps_if (pt_cmpR op_eq (pe_callB call_len_seq (by rfl) B.len PySem.boot_len (pa_cons (pv 2) pa_nil)) pe_int (nomark _)) (pss_one (ps_ret (pe_tab M dg hr (by rfl) ps (pa_cons (pv 0) (pa_cons (pv 1) (pa_cons (pe_ix ix_list (pv 2) pe_int (fun _ _ => rfl)) (pa_cons (pe_ix ix_list (pv 2) pe_int (fun _ _ => rfl)) pa_nil))))))) pss_nil)
      (pss_one (ps_ret (pe_tab M dg hr (by rfl) ps (pa_cons (pv 0) (pa_cons (pv 1) (pa_cons (pe_ix ix_list (pv 2) pe_int (fun _ _ => rfl)) (pa_cons (pe_ix ix_list (pv 2) pe_int (fun _ _ => rfl)) (pa_cons (pe_ix ix_list (pv 2) pe_int (fun _ _ => rfl)) pa_nil)))))))))), ?_⟩
    refine ⟨_, rfl, (by show 0 ≤ sizeLine; decide), fun l hl => ?_⟩
    have s1 := sNew (o := .lst []) (Same.refl H) hl
    have ht1 := s1 _ _ ht
    have hts1 := TurnsS.same s1 hts
    have ha1 := ha.same s1
    have m1 := m.same s1
    refine ⟨_, _, .lst (SqL.of ht1) (dp_turns hts1), .lst (SqL.of upd_same) (dp_turns (L := []) .nil), sh_turns _, sh_turns [], _, rfl, ?_⟩
    rw [eqv_turnsL]
    generalize upd H l (.lst []) = H1 at s1 ht1 hts1 ha1 m1
    cases hts1 with
    | nil =>
      rw [decide_eq_true rfl]
      exact iteT ⟨_, rfl, _, rfl, fun x dx hx hdx ne => made_t (K := K) (tv := []) (T := []) zok ha1 sok trivial tok (Nat.zero_le _) m1 x dx hx hdx ne⟩
    | @cons v1 p1 vs1 ps1 r1 h1 =>
      rw [decide_eq_false (fun e => by cases e)]
      refine iteF ⟨_, rfl, ta, _, rfl, .inl (SqL.of ht1), rfl, _, rfl, ?_⟩
      cases h1 with
      | nil =>
        refine iteT ⟨_, rfl, _, rfl, _, rfl, ta, _, _, v1, rfl, rfl, SqL.of ht1, at_of (j := 0) rfl rfl, fun x dx hx hdx ne => made_t (K := K) (tv := [v1]) (T := [p1]) zok ha1 sok ⟨r1.is, trivial⟩ tok (by show 1 ≤ 100; decide) m1 x dx hx hdx ne⟩
      | @cons v2 p2 vs2 ps2 r2 h2 =>
        have no1 : decide (V.int (((v1 :: v2 :: vs2).length : Nat) : Int) = V.int 1) = false := decide_eq_false fun e => by
          have z := V.int.inj e
          simp only [List.length_cons] at z
          omega
        rw [no1]
        refine iteF ⟨_, rfl, ta, _, rfl, .inl (SqL.of ht1), rfl, _, rfl, ?_⟩
        cases h2 with
        | nil =>
          refine iteT ⟨_, rfl, _, rfl, _, rfl, ta, _, _, v1, rfl, rfl, SqL.of ht1, at_of (j := 0) rfl rfl, _, rfl, ta, _, _, v2, rfl, rfl, SqL.of ht1, at_of (j := 1) rfl rfl, fun x dx hx hdx ne => made_t (K := K) (tv := [v1, v2]) (T := [p1, p2]) zok ha1 sok ⟨r1.is, r2.is, trivial⟩ tok (by show 2 ≤ 100; decide) m1 x dx hx hdx ne⟩
        | @cons v3 p3 vs3 ps3 r3 h3 =>
          have no2 : decide (V.int (((v1 :: v2 :: v3 :: vs3).length : Nat) : Int) = V.int 2) = false := decide_eq_false fun e => by
            have z := V.int.inj e
            simp only [List.length_cons] at z
            omega
          rw [no2]
          cases h3 with
          | nil =>
            exact iteF ⟨_, rfl, _, rfl, _, rfl, ta, _, _, v1, rfl, rfl, SqL.of ht1, at_of (j := 0) rfl rfl, _, rfl, ta, _, _, v2, rfl, rfl, SqL.of ht1, at_of (j := 1) rfl rfl, _, rfl, ta, _, _, v3, rfl, rfl, SqL.of ht1, at_of (j := 2) rfl rfl, fun x dx hx hdx ne => made_t (K := K) (tv := [v1, v2, v3]) (T := [p1, p2, p3]) zok ha1 sok ⟨r1.is, r2.is, r3.is, trivial⟩ tok (by show 3 ≤ 100; decide) m1 x dx hx hdx ne⟩
          | cons => simp only [List.length_cons] at few; omega
end
end S16

/-! How values are shown, also where an exception is handled. -/
namespace L2
open PySem PySem.Spec PyProof.Rows PySem.Builtin
/-- room; the exception that is handled, if any, stands at a pin -/
structure RmX (pn : List (Addr × Obj)) (k : Nat) (A : Around) : Prop where
  dp : A.depth + 3 * k + 5 < recursionLimit
  un : A.units + 16 * k + 200 < cLine
  hot : A.handled = none ∨ ∃ p ∈ pn, L2H.Hot1 A p
theorem hot_on {pn : List (Addr × Obj)} {A A' : Around} (e : A'.handled = A.handled) (h : A.handled = none ∨ ∃ p ∈ pn, L2H.Hot1 A p) : A'.handled = none ∨ ∃ p ∈ pn, L2H.Hot1 A' p :=
  h.imp (fun z => e.trans z) fun ⟨p, m, z, r⟩ => ⟨p, m, e.trans z, r⟩
section
variable {pn : List (Addr × Obj)} {k : Nat} {A : Around}
theorem RmX.mono {j : Nat} (r : RmX pn j A) (h : k ≤ j) : RmX pn k A := ⟨by have := r.dp; omega, by have := r.un; omega, r.hot⟩
theorem RmX.units0 (r : RmX pn k A) : A.units < cLine := by
  have := r.un
  omega
theorem RmX.in1' (r : RmX pn (k + 1) A) : RmX pn k A.in1 := ⟨by have := r.dp; have := @in1_depth A; omega, by have := r.un; have e : A.in1.units = A.units + 1 := rfl; omega, hot_on rfl r.hot⟩
theorem RmX.rl (r : RmX pn (k + 1) A) (args : Args) : RmX pn k (A.under (.builtin "list.__repr__.loop" args)) := ⟨by have := r.dp; have := @rl_depth A args; omega, by have := r.un; have := @rl_units A args; omega, hot_on rl_handled r.hot⟩
theorem RmX.tr (r : RmX pn (k + 1) A) (args : Args) : RmX pn k (A.under (.builtin "tuple.__repr__" args)) := ⟨by have := r.dp; have := @tr_depth A args; omega, by have := r.un; have := units_under_tuple_repr A args; omega, hot_on tr_handled r.hot⟩
theorem RmX.tu (r : RmX pn (k + 1) A) (args : Args) : RmX pn k (A.under (.builtin "tuple.__repr__.under" args)) := ⟨by have := r.dp; have := @tu_depth A args; omega, by have := r.un; have := units_under_tuple_repr_under A args; omega, hot_on tu_handled r.hot⟩
theorem Room.rmX (r : Room k A) : RmX pn k A := ⟨r.dp, r.un, .inl r.hd⟩
end
/-- v is shown as t: within a container, by !r, by repr(..); J holds of the heap before and behind -/
structure Sx (X : Cx) (k : Nat) (J : Hp → Prop) (B : Addr → Prop) (v : V) (t : Str) : Prop where
  under : ∀ (A' : Around) (g : List Code) (pins : List (Addr × Obj)) (s : Shared) (σ : St) (H : Hp) (u : Value) (b : Nat) (E : Value → Shared → Prop) (Q : Str → Shared → Prop), A'.frames = some X.stack → A'.guards = some g → Clr g B → RmX X.pn k A' → Inv X pins σ H s → J H → RelV v u → b + t.length ≤ sizeLine →
    (∀ s' H', Inv X pins σ H' s' → J H' → Q t s') → wpAny (model X.prog X.w) A' (pyReprUnder b u) Q E s
  obj : ∀ (A' : Around) (g : List Code) (pins : List (Addr × Obj)) (s : Shared) (σ : St) (H : Hp) (u : Value) (E : Value → Shared → Prop) (Q : Value → Shared → Prop), A'.frames = some X.stack → A'.guards = some g → Clr g B → RmX X.pn k A' → Inv X pins σ H s → J H → RelV v u → t.length ≤ sizeLine →
    (∀ s' H' tk, Inv X pins σ H' s' → J H' → Q (.str t tk) s') → wpAny (model X.prog X.w) A' (pyReprObj u) Q E s
  call : ∀ (A' : Around) (g : List Code) (pins : List (Addr × Obj)) (s : Shared) (σ : St) (H : Hp) (u : Value) (E : Value → Shared → Prop) (Q : Value → Shared → Prop), A'.frames = some X.stack → A'.guards = some g → Clr g B → RmX X.pn (k + 1) A' → Inv X pins σ H s → J H → RelV v u → t.length ≤ sizeLine →
    (∀ s' H' tk, Inv X pins σ H' s' → J H' → Q (.str t tk) s') → wpAny (model X.prog X.w) A' (PySem.call (.builtin "repr") [u]) Q E s
theorem Sx.mono {X : Cx} {j k : Nat} {J : Hp → Prop} {B B' : Addr → Prop} {v : V} {t : Str} (S : Sx X j J B v t) (h : j ≤ k) (hB : ∀ b, B b → B' b) : Sx X k J B' v t :=
  ⟨fun A' g pins s σ H u b E Q hf hg hc hr => S.under A' g pins s σ H u b E Q hf hg (fun c hc' => hc c (hB c hc')) (hr.mono h), fun A' g pins s σ H u E Q hf hg hc hr => S.obj A' g pins s σ H u E Q hf hg (fun c hc' => hc c (hB c hc')) (hr.mono h),
   fun A' g pins s σ H u E Q hf hg hc hr => S.call A' g pins s σ H u E Q hf hg (fun c hc' => hc c (hB c hc')) (hr.mono (Nat.succ_le_succ h))⟩
section
variable {X : Cx} {k : Nat} {J : Hp → Prop} {B : Addr → Prop}
theorem sx_int {i : Int} (hi : i.natAbs.log2 < 1920) : Sx X k J B (.int i) (toString i) :=
  ⟨fun A' g pins s σ H u b E Q hf hg hc hr I j r hb q => by
    obtain ⟨t, rfl⟩ := r
    exact ReprIs.int t hi b hb A' E s Q fun tk => q _ H (I.tok tk) j,
  fun A' g pins s σ H u E Q hf hg hc hr I j r hb q => by
    obtain ⟨t, rfl⟩ := r
    exact pyReprObj_int hi (q _ H _ (I.tok _) j),
  fun A' g pins s σ H u E Q hf hg hc hr I j r hb q => by
    obtain ⟨t, rfl⟩ := r
    exact PySem.P.repr_of_int hi (q _ H _ (I.tok _) j)⟩
theorem sx_str {x : Str} (hx : (reprText x).length ≤ sizeLine) : Sx X k J B (.str x) (reprText x) :=
  ⟨fun A' g pins s σ H u b E Q hf hg hc hr I j r hb q => by
    obtain ⟨t, rfl⟩ := r
    exact ReprIs.str x t hx b hb A' E s Q fun tk => q _ H (I.tok tk) j,
  fun A' g pins s σ H u E Q hf hg hc hr I j r hb q => by
    obtain ⟨t, rfl⟩ := r
    exact pyReprObj_str (q _ H _ (I.tok _) j) hx,
  fun A' g pins s σ H u E Q hf hg hc hr I j r hb q => by
    obtain ⟨t, rfl⟩ := r
    exact PySem.P.repr_of_str (q _ H _ (I.tok _) j) hx⟩
theorem sx_bl {x : Bool} : Sx X k J B (.bl x) (if x then "True" else "False") :=
  ⟨fun A' g pins s σ H u b E Q hf hg hc hr I j r hb q => by
    obtain rfl : u = Value.bool x := r
    exact ReprIs.bool x b hb A' E s Q fun tk => q _ H (I.tok tk) j,
  fun A' g pins s σ H u E Q hf hg hc hr I j r hb q => by
    obtain rfl : u = Value.bool x := r
    exact pyReprObj_bool (q _ H _ (I.tok _) j),
  fun A' g pins s σ H u E Q hf hg hc hr I j r hb q => by
    obtain rfl : u = Value.bool x := r
    exact PySem.P.repr_of_bool (q _ H _ (I.tok _) j)⟩
theorem sx_non : Sx X k J B .non "None" :=
  ⟨fun A' g pins s σ H u b E Q hf hg hc hr I j r hb q => by
    obtain rfl : u = Value.none := r
    exact ReprIs.none b hb A' E s Q fun tk => q _ H (I.tok tk) j,
  fun A' g pins s σ H u E Q hf hg hc hr I j r hb q => by
    obtain rfl : u = Value.none := r
    exact pyReprObj_none (q _ H _ (I.tok _) j),
  fun A' g pins s σ H u E Q hf hg hc hr I j r hb q => by
    obtain rfl : u = Value.none := r
    exact PySem.P.repr_of_none (q _ H _ (I.tok _) j)⟩
/-- the empty list -/
theorem sx_nil {a : Addr} (hJ : ∀ H, J H → H a = some (.lst [])) : Sx X k J B (.ref a) "[]" :=
  ⟨fun A' g pins s σ H u b E Q hf hg hc hr I j r hb q => by
    obtain rfl : u = Value.ref a := r
    obtain ⟨_, its, nn, rv, ha⟩ := (show ObjOk X.prog X.w H s.heap a (.lst []) from I.hok a _ (hJ H j))
    cases rv
    exact wpAny_pyReprUnder_ref (by omega) (wpAny_pyReprObjUnder_list_empty ⟨_, ha, rfl⟩ hr.units0 ha rfl ⟨_, _, rfl, q _ H (I.tok _) j⟩),
  fun A' g pins s σ H u E Q hf hg hc hr I j r hb q => by
    obtain rfl : u = Value.ref a := r
    obtain ⟨_, its, nn, rv, ha⟩ := (show ObjOk X.prog X.w H s.heap a (.lst []) from I.hok a _ (hJ H j))
    cases rv
    exact wpAny_pyReprObj_list_empty ⟨_, ha, rfl⟩ hr.units0 ha rfl (q _ H _ (I.tok _) j),
  fun A' g pins s σ H u E Q hf hg hc hr I j r hb q => by
    obtain rfl : u = Value.ref a := r
    obtain ⟨_, its, nn, rv, ha⟩ := (show ObjOk X.prog X.w H s.heap a (.lst []) from I.hok a _ (hJ H j))
    cases rv
    exact call_repr_slot (by have := hr.un; omega) ⟨_, ha, rfl⟩ F.slot_list_repr.toG (call_list_repr_empty ⟨_, ha, rfl⟩ ha rfl ⟨_, _, rfl, q _ H _ (I.tok _) j⟩)⟩
end
section
variable {X : Cx} {k : Nat} {J : Hp → Prop} {B : Addr → Prop}
theorem rx_run {A : Around} {g : List Code} {R : Result → Shared → Prop} {a P : Addr} {xs : List V} {ts : List Str} {b : Nat} {pins : List (Addr × Obj)} {σ : St} (hfr : A.frames = some X.stack) (hg : A.guards = some g) (hcl : Clr g B) (hna : ¬ B a) (hr : RmX X.pn (k + 1) A) (hJ : ∀ H, J H → H a = some (.lst xs))
    (hlen : ts.length = xs.length) (hT : ∀ (i : Nat) (v : V), xs[i]? = some v → ∃ t, ts[i]? = some t ∧ Sx X k J B v t) (hsz : b + (listText ts).length ≤ sizeLine)
    (hP1 : X.s_0.heap.objs.size ≤ P) (hP2 : ∀ p ∈ X.pn ++ pins, p.1 ≠ P)
    (hR : ∀ s' H' u, Inv X pins σ H' s' → J H' → R (.ok (.ret (.str (listText ts) u))) s') :
    ∀ (n i : Nat) (s : Shared) (H : Hp) (acc : Array Value) (c : Nat) (done : List (Str × Tok)), xs.length - i = n → i ≤ xs.length → Inv X ((P, lobj acc c) :: pins) σ H s → J H → acc.toList = strValues done → done.map (·.1) = ts.take i →
    codeAny (model X.prog X.w) A (.builtin "list.__repr__.loop" ⟨[.ref a, rawInt i, .ref P, rawInt ((b + piled (ts.take i) : Nat) : Int)], []⟩) R s := by
  obtain ⟨hsz1, hsz2⟩ := shown_in_line hlen (Nat.le_trans (Nat.le_add_left _ _) hsz)
  have hsz3 : (listText ts).length ≤ sizeLine := by omega
  have hp3 := piled_le_listText ts
  have drop : ∀ {acc : Array Value} {c : Nat} {H : Hp} {s : Shared}, Inv X ((P, lobj acc c) :: pins) σ H s → Inv X pins σ H s := fun I => I.pins_of fun p hp => I.pin p (List.mem_append_right _ (List.mem_cons_of_mem _ hp))
  intro n
  induction n with
  | zero =>
    intro i s H acc c done hk hi I j hacc hdone
    have hin : i = xs.length := by omega
    obtain ⟨_, its, nn, rv, ha⟩ := (show ObjOk X.prog X.w H s.heap a (.lst xs) from I.hok a _ (hJ H j))
    have hlv := rv.length
    obtain ⟨hPo, hPn, hPl, hPf, _⟩ := I.pin (P, lobj acc c) (List.mem_append_right _ List.mem_cons_self)
    refine codeAny_builtin F.entry_list_repr_loop ?_
    show wpAny _ _ (Builtin.«list.__repr__.loop» ⟨[.ref a, .int i 0, .ref P, .int ((b + piled (ts.take i) : Nat) : Int) 0], []⟩) _ _ s
    rw [repr_loop_tree]
    refine wpAny_bind (wpAny_listItems ha rfl ?_)
    have over : its.toArray[(i : Int).toNat]? = none := by simp [hin, hlv]
    have whole : done.map (·.1) = ts := by simpa [hin, ← hlen] using hdone
    rw [over]
    dsimp only
    unfold reprEnd
    exact wpAny_bind (wpAny_listItems hPo rfl (by rw [hacc, repr_fold, whole]; exact wpAny_bind (wpAny_pure (wpAny_bind (wpAny_mkStr (wpAny_pure (hR _ H _ ((drop I).tok _) j)) hsz3)))))
  | succ n ih =>
    intro i s H acc c done hk hi I j hacc hdone
    have hlt : i < xs.length := by omega
    obtain ⟨_, its, nn, rv, ha⟩ := (show ObjOk X.prog X.w H s.heap a (.lst xs) from I.hok a _ (hJ H j))
    have hlv := rv.length
    obtain ⟨t, ht, hrep⟩ := hT i xs[i] (by simp [hlt])
    obtain ⟨u, hu, ru⟩ := rv.get (show xs[i]? = some xs[i] by simp [hlt])
    have grown := And.intro (piled_take_succ ht) (piled_take_le ts (i + 1))
    obtain ⟨hp1, hp2⟩ := grown
    have here : its.toArray[(i : Int).toNat]? = some u := by simpa using hu
    refine codeAny_builtin F.entry_list_repr_loop ?_
    change wpAny _ _ (Builtin.«list.__repr__.loop» ⟨[.ref a, .int i 0, .ref P, .int ((b + piled (ts.take i) : Nat) : Int) 0], []⟩) _ _ s
    rw [repr_loop_tree]
    refine wpAny_bind (wpAny_listItems ha rfl ?_)
    rw [here, Int.toNat_natCast]
    dsimp only
    refine wpAny_bind (wpAny_holding (hrep.under _ _ ((P, lobj acc c) :: pins) s σ H u (b + piled (ts.take i) + 1) _ _ (by rw [rl_frames]; exact hfr) (guards_under_guard (isGuard_list_loop _) hg) (fun c hc => (hcl c hc).cons (a := a) fun e => hna (e ▸ hc)) (hr.rl _) I j ru (by omega) fun s1 H1 I1 j1 => ?_))
    have short := hsz2 t (List.mem_of_getElem? ht)
    refine wpAny_bind (wpAny_mkStr (wpAny_bind ?_) short)
    change wpAny _ _ (updateSeq P _) _ _ _
    have hasz : acc.size ≤ sizeLine := by
      have gathered := congrArg List.length hacc
      have told := congrArg List.length hdone
      simp only [strValues, List.length_map, List.length_take, Array.length_toList] at gathered told
      omega
    obtain ⟨hPo, hPn, hPl, hPf, _⟩ := I1.pin (P, lobj acc c) (List.mem_append_right _ List.mem_cons_self)
    refine wpAny_updateSeq hPo rfl (wpAny_pure ⟨F.quiet_list_repr_loop _, ?_⟩) hasz
    rw [show ((i : Int) + 1) = ((i + 1 : Nat) : Int) by omega, show b + piled (ts.take i) + (t.length + 2) = b + piled (ts.take (i + 1)) by omega]
    obtain ⟨c', hself⟩ : ∃ c', (s1.heap.update P (Obj.mapSeq (·.push (.str t s1.toks)))).get? P = some (lobj (acc.push (.str t s1.toks)) c') := ⟨_, Heap.get?_update_self _ hPo rfl⟩
    refine ih (i + 1) _ H1 (acc.push (.str t s1.toks)) c' (done ++ [(t, s1.toks)]) (by omega) hlt ?_ j1 (by simp [hacc, strValues]) (by simp [List.take_add_one, ht, hdone])
    refine Inv.pins_of (pins := pins) ?_ fun p hp => ?_
    · refine ((drop I1).tok (s1.toks + 1)).turned (it := P) (t' := s1.toks + 1) (fun b o hb e => (Heap.get?_update_other _ _ (fun h : P = b => hb h.symm)).trans e) hPn hPl (.inr hP1) (fun x c' hc z => ?_) hP2
      obtain ⟨v, o, ho, hd⟩ := I1.cell x c' hc
      rw [z, hPo] at ho
      cases ho
      cases hd
    · rcases List.mem_cons.mp hp with rfl | hp
      · exact ⟨hself, hPn, hPl, hPf, fun v z => by cases z⟩
      · obtain ⟨q1, q2, q3, q4, q5⟩ := I1.pin p (List.mem_append_right _ (List.mem_cons_of_mem _ hp))
        exact ⟨(Heap.get?_update_other _ _ (fun h : P = p.1 => hP2 p (List.mem_append_right _ hp) h.symm)).trans q1, q2, q3, q4, q5⟩
/-- what listReprAt does -/
theorem rx_at {A : Around} {g : List Code} {R : Result → Shared → Prop} {a : Addr} {xs : List V} {ts : List Str} {b : Nat} {pins : List (Addr × Obj)} {σ : St} {s : Shared} {H : Hp} (hfr : A.frames = some X.stack) (hg : A.guards = some g) (hcl : Clr g fun c => c = a ∨ B c) (hna : ¬ B a) (hr : RmX X.pn (k + 1) A) (I : Inv X pins σ H s) (j : J H) (hJ : ∀ H, J H → H a = some (.lst xs)) (hne : xs ≠ [])
    (hlen : ts.length = xs.length) (hT : ∀ (i : Nat) (v : V), xs[i]? = some v → ∃ t, ts[i]? = some t ∧ Sx X k J B v t) (hsz : b + (listText ts).length ≤ sizeLine)
    (hR : ∀ s' H' u, Inv X pins σ H' s' → J H' → R (.ok (.ret (.str (listText ts) u))) s') :
    wpAny (model X.prog X.w) A.in1 (Builtin.listReprAt b ⟨[.ref a], []⟩) (fun fin s' => match fin with | .done f => R (.ok f) s' | .again c' => c'.quiet = true ∧ codeAny (model X.prog X.w) A c' R s') (fun e s' => R (.error e) s') s := by
  obtain ⟨_, its, nn, rv, ha⟩ := (show ObjOk X.prog X.w H s.heap a (.lst xs) from I.hok a _ (hJ H j))
  cases its with
  | nil =>
    cases rv
    exact absurd rfl hne
  | cons x l =>
    have hca : Clear g a := hcl a (.inl rfl)
    refine wpAny_list_repr_head (A := A.in1) (g := g) hg (fun v rest kw hm => listSameRef_of_ne (hca _ _ _ _ hm)) ha rfl ?_
    refine wpAny_bind (m := newList []) (wpAny_newObj_type ?_)
    refine wpAny_pure ⟨F.quiet_list_repr_loop _, ?_⟩
    have kk : ∀ b o, s.heap.get? b = some o → (s.heap.push (lobj #[] 0)).get? b = some o := fun b o e => Heap.get?_push_of_some _ e
    have I1 : Inv X pins σ H { s with heap := s.heap.push (lobj #[] 0), toks := s.toks } := I.kept (t' := s.toks) kk
    have hget : (s.heap.push (lobj #[] 0)).get? s.heap.objs.size = some (lobj #[] 0) := Heap.get?_push_size _ rfl
    have nP : ∀ p ∈ X.pn ++ pins, p.1 ≠ s.heap.objs.size := fun p hp => Nat.ne_of_lt (Heap.lt_size (I.pin p hp).1)
    have I2 : Inv X ((s.heap.objs.size, lobj #[] 0) :: pins) σ H { s with heap := s.heap.push (lobj #[] 0), toks := s.toks } := I1.pins_of fun p hp => by
      rcases List.mem_cons.mp hp with rfl | hp
      · exact ⟨hget, I.hok.fresh (Nat.le_refl _), Nat.ne_of_gt I.lt, I.nofs (Nat.le_refl _), fun v z => by cases z⟩
      · exact I1.pin p (List.mem_append_right _ hp)
    exact rx_run (A := A) (R := R) (b := b) (σ := σ) (pins := pins) hfr hg (fun c hc => hcl c (.inr hc)) hna hr hJ hlen hT hsz I.sz nP hR xs.length 0 _ H #[] 0 [] (by omega) (Nat.zero_le _) I2 j rfl rfl
theorem rx_call {A : Around} {g : List Code} {E : Value → Shared → Prop} {Q : Value → Shared → Prop} {a : Addr} {xs : List V} {ts : List Str} {pins : List (Addr × Obj)} {σ : St} {s : Shared} {H : Hp} (hfr : A.frames = some X.stack) (hg : A.guards = some g) (hcl : Clr g fun c => c = a ∨ B c) (hna : ¬ B a) (hr : RmX X.pn (k + 1) A) (I : Inv X pins σ H s) (j : J H) (hJ : ∀ H, J H → H a = some (.lst xs)) (hne : xs ≠ [])
    (hlen : ts.length = xs.length) (hT : ∀ (i : Nat) (v : V), xs[i]? = some v → ∃ t, ts[i]? = some t ∧ Sx X k J B v t) (hsz : (listText ts).length ≤ sizeLine)
    (hR : ∀ s' H' u, Inv X pins σ H' s' → J H' → Q (.str (listText ts) u) s') : wpAny (model X.prog X.w) A (call (.builtin "list.__repr__") [.ref a]) Q E s := by
  obtain ⟨_, its, nn, rv, ha⟩ := (show ObjOk X.prog X.w H s.heap a (.lst xs) from I.hok a _ (hJ H j))
  exact wpAny_call (codeAny_call_builtin F.slot_list_repr.plain F.entry_list_repr (F.slot_list_repr.check _ _ _ _ _ _ _ _ ⟨_, ha, rfl⟩ (F.args_list_repr_1 _)
    (rx_at (R := callEnd Q E) (b := 0) hfr hg hcl hna hr I j hJ hne hlen hT (by omega) hR)))
/-- a list -/
theorem sx_list {a : Addr} {xs : List V} {ts : List Str} (hJ : ∀ H, J H → H a = some (.lst xs)) (hne : xs ≠ []) (hna : ¬ B a) (hlen : ts.length = xs.length) (hT : ∀ (i : Nat) (v : V), xs[i]? = some v → ∃ t, ts[i]? = some t ∧ Sx X k J B v t) :
    Sx X (k + 1) J (fun c => c = a ∨ B c) (.ref a) (listText ts) :=
  ⟨fun A' g pins s σ H u b E Q hf hg hc hr I j r hb q => by
    obtain rfl : u = Value.ref a := r
    obtain ⟨_, its, nn, rv, ha⟩ := (show ObjOk X.prog X.w H s.heap a (.lst xs) from I.hok a _ (hJ H j))
    refine wpAny_pyReprUnder_ref (by omega) (wpAny_pyReprObjUnder_twin (twin := "list.__repr__.under") ⟨_, ha, rfl⟩ F.slot_list_repr.toG rfl hr.units0 ?_)
    exact call_twin_plain F.plain_list_repr_under F.entry_list_repr_under F.check_list_repr_under ⟨_, ha, rfl⟩ F.slot_list_repr.toG (F.args_list_repr_1 _)
      (rx_at (R := callEnd _ E) (b := b) hf hg hc hna hr I j hJ hne hlen hT hb fun s' H' u I' j' => ⟨⟨_, _, rfl⟩, _, _, rfl, q s' H' I' j'⟩),
  fun A' g pins s σ H u E Q hf hg hc hr I j r hb q => by
    obtain rfl : u = Value.ref a := r
    obtain ⟨_, its, nn, rv, ha⟩ := (show ObjOk X.prog X.w H s.heap a (.lst xs) from I.hok a _ (hJ H j))
    have hTy : s.TypeIs (.ref a) "list" := ⟨_, ha, rfl⟩
    unfold pyReprObj
    refine wpAny_bind (wpAny_cRoomFor hr.units0 ?_)
    refine wpAny_bind (wpAny_specialOf (name := Str.ofString "__repr__") hTy F.slot_list_repr.lookup ?_)
    refine wpAny_bind (m := callSpecialIfBound? (.ref a) (Str.ofString "__repr__")) (wpAny_callSpecialIfBound?_slot (name := Str.ofString "__repr__") hTy F.slot_list_repr ?_)
    refine rx_call hf hg hc hna hr I j hJ hne hlen hT hb fun s' H' u I' j' => ?_
    exact wpAny_bind (wpAny_isInstance (T := "str") (b := true) rfl isSubtype_str_str (wpAny_pure (q s' H' u I' j'))),
  fun A' g pins s σ H u E Q hf hg hc hr I j r hb q => by
    obtain rfl : u = Value.ref a := r
    obtain ⟨_, its, nn, rv, ha⟩ := (show ObjOk X.prog X.w H s.heap a (.lst xs) from I.hok a _ (hJ H j))
    refine call_repr_slot (by have := hr.un; omega) ⟨_, ha, rfl⟩ F.slot_list_repr.toG ?_
    exact rx_call (A := A'.in1) hf hg hc hna hr.in1' I j hJ hne hlen hT hb fun s' H' u I' j' => ⟨_, _, rfl, q s' H' u I' j'⟩⟩
end
inductive SxAll (X : Cx) (k : Nat) (J : Hp → Prop) (B : Addr → Prop) : List V → List Str → Prop
  | nil : SxAll X k J B [] []
  | cons {v : V} {t : Str} {vs : List V} {ts : List Str} : Sx X k J B v t → SxAll X k J B vs ts → SxAll X k J B (v :: vs) (t :: ts)
theorem SxAll.length {X : Cx} {k : Nat} {J : Hp → Prop} {B : Addr → Prop} : ∀ {vs : List V} {ts : List Str}, SxAll X k J B vs ts → ts.length = vs.length
  | _, _, .nil => rfl
  | _, _, .cons _ h => by simp [h.length]
theorem SxAll.at_ {X : Cx} {k : Nat} {J : Hp → Prop} {B : Addr → Prop} : ∀ {vs : List V} {ts : List Str}, SxAll X k J B vs ts → ∀ (i : Nat) (v : V), vs[i]? = some v → ∃ t, ts[i]? = some t ∧ Sx X k J B v t
  | _, _, .nil, i, v, h => by simp at h
  | _, _, .cons h r, 0, v, e => by
    obtain rfl := Option.some.inj e
    exact ⟨_, rfl, h⟩
  | _, _, .cons h r, i + 1, v, e => r.at_ i v (by simpa using e)
theorem SxAll.mono {X : Cx} {j k : Nat} {J : Hp → Prop} {B B' : Addr → Prop} (h : j ≤ k) (hB : ∀ b, B b → B' b) : ∀ {vs : List V} {ts : List Str}, SxAll X j J B vs ts → SxAll X k J B' vs ts
  | _, _, .nil => .nil
  | _, _, .cons a r => .cons (a.mono h hB) (r.mono h hB)
section
variable {X : Cx} {k : Nat} {J : Hp → Prop} {B : Addr → Prop}
theorem ty_fold {A : Around} {g : List Code} {E : Value → Shared → Prop} {pins : List (Addr × Obj)} {σ : St} (hfr : A.frames = some X.stack) (hg : A.guards = some g) (hcl : Clr g B) (hr : RmX X.pn k A) :
    ∀ (vs : List V) (us : List Value) (ts : List Str) (acc : Array Str) (n : Nat) (s : Shared) (H : Hp) (Q : (Array Str × Nat) → Shared → Prop), Vals vs us → SxAll X k J B vs ts → n + piled ts ≤ sizeLine → Inv X pins σ H s → J H →
    (∀ s' H', Inv X pins σ H' s' → J H' → Q ⟨acc ++ ts.toArray, n + piled ts⟩ s') → wpAny (model X.prog X.w) A (forIn us (⟨acc, n⟩ : (Array Str × Nat)) tupBody) Q E s := by
  intro vs
  induction vs with
  | nil =>
    intro us ts acc n s H Q rv hT _ I j h
    cases rv
    cases hT
    have h0 := h s H I j
    simp only [List.forIn_nil]
    exact wpAny_pure (by simpa [piled] using h0)
  | cons x l ih =>
    intro us ts acc n s H Q rv hT hn I j h
    cases rv with
    | cons r rr =>
      cases hT with
      | cons hx hl =>
        rename_i t ts'
        rw [piled_cons] at hn
        rw [List.forIn_cons]
        refine wpAny_bind (wpAny_bind (hx.under _ _ pins s σ H _ (n + 1) _ _ hfr hg hcl hr I j r (by omega) fun s1 H1 I1 j1 => wpAny_pure ?_))
        refine ih _ ts' (acc.push t) (n + (t.length + 2)) _ H1 Q rr hl (by omega) I1 j1 fun s2 H2 I2 j2 => ?_
        have h1 := h s2 H2 I2 j2
        have e : n + piled (t :: ts') = n + (t.length + 2) + piled ts' := by rw [piled_cons]; omega
        rw [e] at h1
        simpa using h1
theorem ty_at {A : Around} {g : List Code} {R : Result → Shared → Prop} {a : Addr} {xs : List V} {ts : List Str} {b : Nat} {pins : List (Addr × Obj)} {σ : St} {s : Shared} {H : Hp} {id : String} {rest : List Value}
    (hcg : (Code.builtin id ⟨.ref a :: rest, []⟩).isGuard = true) (hru : RmX X.pn k (A.under (.builtin id ⟨.ref a :: rest, []⟩))) (hfu : (A.under (.builtin id ⟨.ref a :: rest, []⟩)).frames = some X.stack) (hg : A.guards = some g) (hcl : Clr g fun c => c = a ∨ B c) (hna : ¬ B a) (I : Inv X pins σ H s) (j : J H) (hJ : ∀ H, J H → H a = some (.tup xs))
    (hT : SxAll X k J B xs ts) (hsz : b + (tupleText ts).length ≤ sizeLine) (hR : ∀ s' H' u, Inv X pins σ H' s' → J H' → R (.ok (.ret (.str (tupleText ts) u))) s') :
    wpOwn (model X.prog X.w) A (.builtin id ⟨.ref a :: rest, []⟩) (Builtin.tupleReprAt b ⟨[.ref a], []⟩) (fun fin s' => match fin with | .done f => R (.ok f) s' | .again c' => c'.quiet = true ∧ codeAny (model X.prog X.w) A c' R s') (fun e s' => R (.error e) s') s := by
  obtain ⟨_, its, rv, ob, ha, hc, hd⟩ := (show ObjOk X.prog X.w H s.heap a (.tup xs) from I.hok a _ (hJ H j))
  obtain ⟨n, hd⟩ := hd
  have hca : Clear g a := hcl a (.inl rfl)
  have hlen : ts.length = its.toArray.size := by rw [hT.length, rv.length]; simp
  have hp := piled_le_tupleText ts
  have hsz0 := Nat.le_trans (Nat.le_add_left (tupleText ts).length b) hsz
  rw [tuple_repr_tree, tupleReprUnderWay_eq]
  refine wpOwn_bind (wpOwn_stackTailAny hg (tupGuardF_off _) (tupGuardF_pos _) ?_)
  have away : (g.any fun c => tupGuardF (.ref a) (c, default)) = false := List.any_eq_false.mpr fun c hcm => by simp [tupGuardF_of_clear hca c hcm]
  rw [away]
  refine wpOwn_of_wpAny ?_
  show wpAny _ _ (tupleReprRest b (.ref a)) _ _ s
  unfold tupleReprRest Builtin.Tuple.tupleItemsOf
  refine wpAny_bind (wpAny_bind (wpAny_seqItems ha hd (wpAny_pure ?_)))
  rw [← Array.forIn_toList]
  refine wpAny_bind (ty_fold (pins := pins) (σ := σ) hfu (guards_under_guard hcg hg) (fun c hc => (hcl c (.inr hc)).cons (a := a) fun e => hna (e ▸ hc)) hru xs _ ts _ _ _ H _ rv hT (by omega) I j fun s1 H1 I1 j1 => ?_)
  refine wpAny_bind (wpAny_mkStr (wpAny_pure ?_) (by simpa [tupleText, hlen] using hsz0))
  have h1 := hR { s1 with toks := s1.toks + 1 } H1 s1.toks (I1.tok _) j1
  simpa [tupleText, hlen] using h1
end
section
variable {X : Cx} {k : Nat} {J : Hp → Prop} {B : Addr → Prop}
/-- a tuple -/
theorem sx_tup {a : Addr} {xs : List V} {ts : List Str} (hJ : ∀ H, J H → H a = some (.tup xs)) (hna : ¬ B a) (hT : SxAll X k J B xs ts) : Sx X (k + 1) J (fun c => c = a ∨ B c) (.ref a) (tupleText ts) :=
  ⟨fun A' g pins s σ H u b E Q hf hg hc hr I j r hb q => by
    obtain rfl : u = Value.ref a := r
    obtain ⟨_, its, rv, ob, ha, hcl, hd⟩ := (show ObjOk X.prog X.w H s.heap a (.tup xs) from I.hok a _ (hJ H j))
    refine wpAny_pyReprUnder_ref (by omega) (wpAny_pyReprObjUnder_twin (twin := "tuple.__repr__.under") ⟨_, ha, hcl⟩ F.slot_tuple_repr rfl hr.units0 ?_)
    exact call_twin_own (F.quiet_tuple_repr_under _) F.entry_tuple_repr_under F.check_tuple_repr_under ⟨_, ha, hcl⟩ F.slot_tuple_repr (F.args_tuple_repr_1 _)
      (ty_at (R := callEnd _ E) (b := b) (isGuard_tuple_repr_under _) (hr.tu _) (by rw [tu_frames]; exact hf) hg hc hna I j hJ hT hb fun s' H' u I' j' => ⟨⟨_, _, rfl⟩, _, _, rfl, q s' H' I' j'⟩),
  fun A' g pins s σ H u E Q hf hg hc hr I j r hb q => by
    obtain rfl : u = Value.ref a := r
    obtain ⟨_, its, rv, ob, ha, hcl, hd⟩ := (show ObjOk X.prog X.w H s.heap a (.tup xs) from I.hok a _ (hJ H j))
    have hTy : s.TypeIs (.ref a) "tuple" := ⟨_, ha, hcl⟩
    unfold pyReprObj
    refine wpAny_bind (wpAny_cRoomFor hr.units0 ?_)
    refine wpAny_bind (wpAny_specialOf (name := Str.ofString "__repr__") hTy F.slot_tuple_repr.lookup ?_)
    refine wpAny_bind (m := callSpecialIfBound? (.ref a) (Str.ofString "__repr__")) (wpAny_callSpecialIfBound?_slotG (name := Str.ofString "__repr__") hTy F.slot_tuple_repr ?_)
    refine wpAny_call (codeAny_call_builtin_own (Code.quiet_builtin _ (by decide +kernel)) F.entry_tuple_repr (F.slot_tuple_repr.check _ _ _ _ _ _ _ _ hTy (F.args_tuple_repr_1 _)
      (ty_at (R := callEnd _ E) (b := 0) (isGuard_tuple_repr _) (hr.tr _) (by rw [tr_frames]; exact hf) hg hc hna I j hJ hT (by omega) fun s' H' u I' j' => ?_)))
    exact wpAny_bind (wpAny_isInstance (T := "str") (b := true) rfl isSubtype_str_str (wpAny_pure (q s' H' u I' j'))),
  fun A' g pins s σ H u E Q hf hg hc hr I j r hb q => by
    obtain rfl : u = Value.ref a := r
    obtain ⟨_, its, rv, ob, ha, hcl, hd⟩ := (show ObjOk X.prog X.w H s.heap a (.tup xs) from I.hok a _ (hJ H j))
    have hTy : s.TypeIs (.ref a) "tuple" := ⟨_, ha, hcl⟩
    refine call_repr_slot (by have := hr.un; omega) hTy F.slot_tuple_repr ?_
    exact wpAny_call (codeAny_call_builtin_own (Code.quiet_builtin _ (by decide +kernel)) F.entry_tuple_repr (F.slot_tuple_repr.check _ _ _ _ _ _ _ _ hTy (F.args_tuple_repr_1 _)
      (ty_at (A := A'.in1) (R := callEnd _ E) (b := 0) (isGuard_tuple_repr _) (hr.in1'.tr _) (by rw [tr_frames]; exact hf) hg hc hna I j hJ hT (by omega) fun s' H' u I' j' => ⟨_, _, rfl, q s' H' u I' j'⟩)))⟩
/-- the empty dict -/
theorem sx_d0 {a : Addr} (hJ : ∀ H, J H → H a = some (.dK [])) (hB : B a) : Sx X (k + 1) J B (.ref a) (dictText []) :=
  ⟨fun A' g pins s σ H u b E Q hf hg hc hr I j r hb q => by
    obtain rfl : u = Value.ref a := r
    obtain ⟨_, hS, vs, rv, ob, es, ep, ha, hx, hd, hk, hp, hnd⟩ := (show ObjOk X.prog X.w H s.heap a (.dK []) from I.hok a _ (hJ H j))
    cases rv
    have he : es.toList = [] := by cases hes : es.toList with | nil => rfl | cons a b => rw [hes] at hp; cases hp
    refine (ReprK.dict (as := []) (h₀ := s.heap) (d := 0) ha hx.1 hd hS (by simp) (by rw [he]; exact .nil)) b hb A' g E s Q hg (fun c hc' => hc c (by rw [List.mem_singleton.mp hc']; exact hB)) (by have := hr.un; omega) (fun _ _ e => e) fun h' tk hkp => ?_
    exact q _ H (I.kept hkp) j,
  fun A' g pins s σ H u E Q hf hg hc hr I j r hb q => by
    obtain rfl : u = Value.ref a := r
    obtain ⟨_, hS, vs, rv, ob, es, ep, ha, hx, hd, hk, hp, hnd⟩ := (show ObjOk X.prog X.w H s.heap a (.dK []) from I.hok a _ (hJ H j))
    cases rv
    have he : es.toList = [] := by cases hes : es.toList with | nil => rfl | cons a b => rw [hes] at hp; cases hp
    refine wpAny_pyReprObj_dictK (as := []) (h₀ := s.heap) (d := 0) ha hx.1 hd hS (by simp) (by rw [he]; exact .nil) hg (fun c hc' => hc c (by rw [List.mem_singleton.mp hc']; exact hB)) (by have := hr.un; omega) (fun _ _ e => e) (fun h' u tk hkp => ?_) hb
    exact q _ H _ (I.kept hkp) j,
  fun A' g pins s σ H u E Q hf hg hc hr I j r hb q => by
    obtain rfl : u = Value.ref a := r
    obtain ⟨_, hS, vs, rv, ob, es, ep, ha, hx, hd, hk, hp, hnd⟩ := (show ObjOk X.prog X.w H s.heap a (.dK []) from I.hok a _ (hJ H j))
    cases rv
    have he : es.toList = [] := by cases hes : es.toList with | nil => rfl | cons a b => rw [hes] at hp; cases hp
    refine call_repr_slot (by have := hr.un; omega) ⟨_, ha, hx.1⟩ F.slot_dict_repr ?_
    refine call_dict_reprK (A := A'.in1) (as := []) (h₀ := s.heap) (d := 0) ha hx.1 hd hS (by simp) (by rw [he]; exact .nil) hg (fun c hc' => hc c (by rw [List.mem_singleton.mp hc']; exact hB)) (by have := hr.un; show A'.units + 1 + 1 < cLine; omega) (fun _ _ e => e) (fun h' u tk hkp => ?_) hb
    exact ⟨_, _, rfl, q _ H _ (I.kept hkp) j⟩⟩
/-- repr(v) -/
theorem call_sx (gd : X.A.guards = some []) (hr : RmX X.pn (k + 1) X.A) : CallR X (.builtin "repr") (fun us H Q => ∃ (v : V) (t : Str) (J : Hp → Prop) (B : Addr → Prop), us = [v] ∧ J H ∧ Sx X k J B v t ∧ t.length ≤ sizeLine ∧ ∀ H', J H' → Q (.str t) H') := by
  intro pins s σ H xs us Q I r h
  obtain ⟨v, t, J, B, rfl, j, S, hz, q⟩ := h
  obtain ⟨u, rfl, ru⟩ := vals1 r
  exact S.call X.A [] pins s σ H u _ _ I.ok.frames gd (Clr.nil _) hr I j ru hz fun s' H' tk I' j' => ⟨.str t, H', I', ⟨tk, rfl⟩, q H' j'⟩
/-- {e!r} -/
def tFmtX (X : Cx) (k : Nat) (te : TE) : TE := fun σ H Q => te σ H fun v H1 => ∃ (t : Str) (J : Hp → Prop) (B : Addr → Prop), J H1 ∧ Sx X k J B v t ∧ t.length ≤ sizeLine ∧ ∀ H', J H' → Q (.str t) H'
theorem pe_fmtX {e : Expr} {te : TE} {pos : Pos} (gd : X.A.guards = some []) (hr : RmX X.pn k X.A) (he : PE X e te) : PE X (.FormattedValue e 114 none pos) (tFmtX X k te) := by
  refine ⟨fun pins s σ H Q I h => ?_⟩
  refine wpAny_FormattedValue_repr (thn (he.run pins s σ H _ I h) fun u s1 ⟨v, H1, I1, rv, t, J, B, j, S, hz, q⟩ => ?_)
  refine S.obj X.A [] pins s1 σ H1 u _ _ I.ok.frames gd (Clr.nil _) hr I1 j rv hz fun s' H' tk I' j' => ?_
  exact wpAny_formatField_str ⟨.str t, H', I'.tok _, ⟨_, rfl⟩, q H' j'⟩ ⟨.str t, H', I'.tok _, ⟨_, rfl⟩, q H' j'⟩ hz
end
end L2

/-! [elt for x in t], t a tuple, where an exception is handled -/
namespace L2
open PySem PySem.Spec PyProof.Rows HotX
section
variable {prog : Program} {w : World} {A : Around} {E : Value → Shared → Prop} {s : Shared}
/-- the end of a walk over a tuple -/
theorem next_tuple_hot {it t x1 : Addr} {i : Nat} {items : Array Value} {Q : Option Value → Shared → Prop} (hot : HotAt A x1 s.heap) (walk : s.heap.IsTupleIter it t i) (tup : s.heap.IsTuple t items) (over : items[i]? = none) (q : ∀ h', Heap.ExtBut it s.heap h' → Q none { s with heap := h' }) :
    wpAny (model prog w) A (pyNext (.ref it)) Q E s := by
  have type_ := walk.typeIs
  obtain ⟨ob, at_, _, held⟩ := walk
  obtain ⟨obT, atT, _, _, heldT⟩ := tup
  obtain ⟨handled, ob1, vs1, at1, held1, none1⟩ := hot
  have apart : it ≠ x1 := by
    rintro rfl
    obtain rfl := Option.some.inj (at_.symm.trans at1)
    obtain rfl := Data.fields.inj (held.symm.trans held1)
    exact nomatch none1
  unfold pyNext
  refine wpAny_bind (wpAny_attempt ?_)
  refine wpAny_callSpecial?_slot (name := Str.ofString "__next__") type_ F.slot_tuple_iterator_next (wpAny_call_entry F.slot_tuple_iterator_next type_ F.entry_tuple_iterator_next ?_ (F.args_tuple_iterator_next_1 _))
  change wpAny _ _ (field (.ref it) 0 >>= _) _ _ s
  refine wpAny_bind (wpAny_field at_ held (x := .ref t) rfl ?_)
  change wpAny _ _ (if (Value.ref t == Value.none) = true then _ else _) _ _ s
  have some_ : ¬ ((Value.ref t == Value.none) = true) := Bool.false_ne_true
  rw [if_neg some_]
  change wpAny _ _ (field (.ref it) 1 >>= _) _ _ s
  refine wpAny_bind (wpAny_field at_ held (x := .int i 0) rfl ?_)
  change wpAny _ _ (seqItems? (.ref t) >>= _) _ _ s
  refine wpAny_bind (wpAny_seqItems atT heldT ?_)
  simp only [over, Int.toNat_natCast]
  refine wpAny_bind (wpAny_rule (wpAny_bind (wpAny_setField at_ held (by simp) ?_)))
  change wpAny _ _ (newExc (.type "StopIteration") [] >>= _) _ _ _
  refine wpAny_bind ?_
  simp only [newExc, newTuple]
  refine wpAny_bind (wpAny_newObj_type (wpAny_bind (m := firstArgMember _ _) (wpAny_of_eq (a := Value.none) (by first | rfl | (simp only [firstArgMember]; rfl)) (wpAny_newObj_type ?_ (by size_fits)))) (by size_fits))
  have stays := (Heap.get?_update_other s.heap (Obj.mapFields (·.setIfInBounds 0 .none)) apart).trans at1
  have far := Heap.get?_push_of_some { cls := .type "tuple", data := .seq ([] : List Value).toArray } stays
  refine raiseNew_hot ⟨handled, ob1, vs1, Heap.get?_push_of_some _ far, held1, none1⟩ (Nat.ne_of_lt (Heap.lt_size far)) (Heap.get?_push_size _ rfl) rfl (by first | (simp; done) | (simp; omega) | (simp only [Array.size_append]; simp; omega)) ?_
  refine wpAny_bind (wpAny_isInstance (T := "StopIteration") (b := true) ⟨_, Heap.get?_update_self _ (Heap.get?_push_size _ rfl) rfl, rfl⟩ isSubtype_stop (wpAny_pure (q _ ?_)))
  intro b o nb e
  have e1 := Heap.get?_push_of_some { cls := .type "tuple", data := .seq ([] : List Value).toArray } ((Heap.get?_update_other s.heap (Obj.mapFields (·.setIfInBounds 0 .none)) (fun z => nb z.symm)).trans e)
  exact (Heap.get?_update_other _ _ (Nat.ne_of_gt (Heap.lt_size e1))).trans (Heap.get?_push_of_some _ e1)
end
section
variable {X : Cx}
/-- what [elt for x in l] asks, l a tuple: D the new list, Pv what holds ahead of a turn -/
def tLcX (K : PySem.W.Frag) (tl : TE) (g : TG) (te : TE) (vs : List Nat) : TE := fun σ H Q => tl σ H fun y H1 => ∃ (a : Addr) (xs : List V), y = .ref a ∧ SqT K H1 a xs ∧ ∀ D, H1 D = none → ∃ Pv : Nat → Hp → Prop, Pv 0 (upd H1 D (.lst [])) ∧ (∀ i G, Pv i G → SqT K G a xs) ∧
  (∀ i x G, xs[i]? = some x → Pv i G → g x (wipe σ vs) G fun σ2 G2 => wipe σ2 vs = wipe σ vs ∧ te σ2 G2 fun z G3 => ∃ acc, G3 D = some (.lst acc) ∧ acc.length < sizeLine ∧ Pv (i + 1) (upd G3 D (.lst (acc ++ [z])))) ∧ ∀ G, Pv xs.length G → Q (.ref D) G
theorem pe_lcX {elt tg l : Expr} {scope : Scope} {own : List (Str × Nat)} {pos : Pos} {tl : TE} {g : TG} {te : TE} (hot : L2H.HotC X) (nodup : X.N.Nodup) (hl : PE X l tl) (ok : BlkOk X.N X.env.scope scope own)
    (hg : ∀ (s : Shared) (H : Hp) (C : Addr) (cl : List (Str × Addr)) (fp : List Addr), PG (X.blk s H scope (compEnvC scope cl C X.env) fp) tg g) (he : ∀ (s : Shared) (H : Hp) (C : Addr) (cl : List (Str × Addr)) (fp : List Addr), PE (X.blk s H scope (compEnvC scope cl C X.env) fp) elt te)
    (plain : ∀ x, foldedSetIterable l X.env x = pure x := by intro _; rfl) : PE X (.ListComp elt [⟨tg, l, [], 0⟩] scope pos) (tLcX X.K tl g te (own.map (·.2))) := by
  constructor
  intro pins s0 σ H Q I h
  have free : ∀ y ∈ scope.names, y.2 = .free → ∃ c, X.env.cells.lookup y.1 = some c := fun y hy e => (ok.free y hy e).elim (fun k => I.ok.has _ (.inl k)) fun k => I.ok.has _ (.inr k)
  rw [eval_ListComp]
  refine wpAny_comprehension_free (use := none) rfl plain (closure_ok free) ok.kind (fun y hy e => by rw [ok.uniq y hy, e]) (thn (hl.run pins s0 σ H _ I h) ?_)
  rintro _ s1 ⟨_, H1, I1, ry, a, xs, rfl, tup, wish⟩
  cases ry
  obtain ⟨its, vals, isT, line⟩ := I1.tuple tup
  obtain ⟨p, ⟨handled, held, fields, none_⟩, mem⟩ := hot
  have P1 := I1.pin p (List.mem_append_left _ mem)
  have off : p.1 ∉ frs X.stack := fun z => (List.mem_cons.mp (I1.stkSub p.1 z)).elim P1.2.2.1 P1.2.2.2.1
  have begun : wpAny (model X.prog X.w) X.A (pyIter (.ref a)) (fun v s2 => ∃ it, v = .ref it ∧ Inv X pins σ H1 s2 ∧ s2.heap.IsTupleIter it a 0 ∧ FpOk X pins H1 it ∧ s2.heap.get? p.1 = some p.2) X.xe s1 :=
    wpAny_pyIter_tuple (show s1.heap.IsTuple a its.toArray from isT) ⟨s1.heap.objs.size, rfl, I1.kept (t' := s1.toks) fun _ _ z => Heap.get?_push_of_some _ z, ⟨_, Heap.get?_push_size _ rfl, rfl, rfl⟩, I1.fpOk (Nat.le_refl _) (I1.hok.fresh (Nat.le_refl _)), Heap.get?_push_of_some _ P1.1⟩
  refine thn begun ?_
  rintro _ s2 ⟨it, rfl, I2, walk, own_, at2⟩
  refine wpAny_newObj_type (newEnv_comp ?_) (by show 0 ≤ sizeLine; decide)
  obtain ⟨D, hD⟩ : ∃ D, D = s2.heap.objs.size := ⟨_, rfl⟩
  have newD : H1 D = none := I2.hok.fresh (Nat.le_of_eq hD.symm)
  obtain ⟨Pv, start, there, turn, last⟩ := wish D newD
  obtain ⟨s3, hs3⟩ : ∃ s3 : Shared, s3 = { s2 with heap := s2.heap.push { cls := .type "list", data := .seq ([] : List Value).toArray } } := ⟨_, rfl⟩
  have keep3 : ∀ b o, s2.heap.get? b = some o → s3.heap.get? b = some o := fun b o z => by
    rw [hs3]
    exact Heap.get?_push_of_some _ z
  have I3 : Inv X pins σ (upd H1 D (.lst [])) s3 := by
    subst hs3 hD
    exact I2.laid (t' := s2.toks) (fun _ _ z => Heap.get?_push_of_some _ z) (Nat.le_refl _) ⟨Nat.zero_le _, [], 0, .nil, Heap.get?_push_size _ rfl⟩
  have walk3 : s3.heap.IsTupleIter it a 0 := walk.at fun o z => keep3 it o z
  have below : it < s2.heap.objs.size := let ⟨_, e, _⟩ := walk; Heap.lt_size e
  have below3 : it < s3.heap.objs.size := let ⟨_, e, _⟩ := walk3; Heap.lt_size e
  have apartD : it ≠ D := fun z => absurd below (by rw [z, hD]; exact Nat.lt_irrefl _)
  have own3 : FpOk X pins (upd H1 D (.lst [])) it := ⟨(upd_ne apartD).trans own_.1, own_.2⟩
  have fresh3 : ∀ b ∈ [it], FpOk X pins (upd H1 D (.lst [])) b ∧ b < s3.heap.objs.size := fun b hb => by
    rw [List.mem_singleton.mp hb]
    exact ⟨own3, below3⟩
  have I4 := block_start I3 ok nodup fresh3
  have pg := hg s3 (upd H1 D (.lst [])) s3.heap.objs.size (cellsFrom (s3.heap.objs.size + 1) scope.names (cloFrom X.env.cells scope.names [])) [it]
  have pe := he s3 (upd H1 D (.lst [])) s3.heap.objs.size (cellsFrom (s3.heap.objs.size + 1) scope.names (cloFrom X.env.cells scope.names [])) [it]
  have locals_ : (compEnvC scope (cellsFrom (s3.heap.objs.size + 1) scope.names (cloFrom X.env.cells scope.names [])) s3.heap.objs.size X.env).locals = s3.heap.objs.size := rfl
  have walk4 : (pushCells (s3.heap.push { cls := .type "dict", data := .dict #[] }) scope.names).IsTupleIter it a 0 := walk3.at fun o z => pushCells_keeps _ _ _ _ (Heap.get?_push_of_some _ z)
  have notD : p.1 ≠ D := fun z => absurd (Heap.lt_size at2) (by rw [z, hD]; exact Nat.lt_irrefl _)
  have track3 : (upd H1 D (.lst [])) p.1 = none := (upd_ne notD).trans P1.2.1
  have notIt : p.1 ≠ it := by
    rintro z
    obtain ⟨o, e, _, d⟩ := walk
    rw [← z] at e
    obtain rfl := Option.some.inj (at2.symm.trans e)
    obtain rfl := Data.fields.inj (fields.symm.trans d)
    exact nomatch none_
  have at3 := keep3 _ _ at2
  generalize hH3 : upd H1 D (.lst []) = H3 at I3 I4 pg pe start own3 fresh3 track3
  have body : codeAny (model X.prog X.w) X.A (.compStart (.ListComp elt [⟨tg, l, [], 0⟩] scope pos) 0 (.ref it) (.ref D) (compEnvC scope (cellsFrom (s3.heap.objs.size + 1) scope.names (cloFrom X.env.cells scope.names [])) s3.heap.objs.size X.env))
      (compPost (model X.prog X.w) X.A X.xe none (EP X pins σ Q) (.ref D) s3.heap.objs.size) { s3 with heap := pushCells (s3.heap.push { cls := .type "dict", data := .dict #[] }) scope.names } := by
    generalize compEnvC scope (cellsFrom (s3.heap.objs.size + 1) scope.names (cloFrom X.env.cells scope.names [])) s3.heap.objs.size X.env = ce at I4 pg pe locals_ ⊢
    obtain ⟨s4, hs4⟩ : ∃ s4 : Shared, s4 = { s3 with heap := pushCells (s3.heap.push { cls := .type "dict", data := .dict #[] }) scope.names } := ⟨_, rfl⟩
    rw [← hs4] at I4 ⊢
    have walk4 : s4.heap.IsTupleIter it a 0 := by rw [hs4]; exact walk4
    have stand : ∀ {G : Hp} {s' : Shared}, Inv (X.blk s3 H3 scope ce [it]) [] (wipe σ (own.map (·.2))) G s' → G it = none → FpOk (X.blk s3 H3 scope ce [it]) [] G it := fun {G s'} J e =>
      ⟨e, (J.ok.exf it (List.mem_singleton.mpr rfl)).1, J.ok.exfs it (List.mem_singleton.mpr rfl), .inl (List.mem_singleton.mpr rfl), fun x c z => (J.ok.exf it (List.mem_singleton.mpr rfl)).2 x c z, fun q hq => absurd (show q ∈ ([] : List (Addr × Obj)) ++ [] from hq) (by simp)⟩
    have loop : codeAny (model X.prog X.w) X.A (.compLoop (.ListComp elt [⟨tg, l, [], 0⟩] scope pos) 0 (.ref it) (.ref D) ce) (compPost (model X.prog X.w) X.A X.xe none (EP X pins σ Q) (.ref D) s3.heap.objs.size) s4 := by
      refine compLoop_any (fun n s' => ∃ i G, Inv (X.blk s3 H3 scope ce [it]) [] (wipe σ (own.map (·.2))) G s' ∧ s'.heap.IsTupleIter it a i ∧ G it = none ∧ Pv i G ∧ i ≤ xs.length ∧ n = xs.length - i) ?_ xs.length ⟨0, H3, I4, walk4, own3.1, start, Nat.zero_le _, rfl⟩
      rintro n s5 ⟨i, G5, I5, walk5, no5, pv5, le, rfl⟩
      obtain ⟨its5, vals5, isT5, _⟩ := I5.tuple (there i G5 pv5)
      obtain ⟨f0, f1, f2, f3, f4, f5⟩ := stand I5 no5
      rcases Nat.lt_or_ge i xs.length with lt | ge
      · obtain ⟨u, hu, ru⟩ := vals5.get (List.getElem?_eq_getElem lt)
        refine wpAny_pyNext_tuple_item walk5 (show s5.heap.IsTuple a its5.toArray from isT5) (x := u) (by simpa using hu) fun h6 walk6 sb => ?_
        have I6 := I5.turned (t' := s5.toks) (fun b o hb e => (sb.2 b hb).trans e) f0 f1 f3 f4 f5
        obtain ⟨o6, e6, c6, d6⟩ := id walk6
        refine go_of (s := { s5 with heap := h6 }) e6 c6 d6 (by decide) ?_
        obtain ⟨s6, hs6⟩ : ∃ s6 : Shared, s6 = { s5 with heap := h6 } := ⟨_, rfl⟩
        change wpAny (model X.prog X.w) X.A (assign tg ce u) _ _ { s5 with heap := h6 }
        have I6 : Inv (X.blk s3 H3 scope ce [it]) [] (wipe σ (own.map (·.2))) G5 { s5 with heap := h6 } := I6
        rw [← hs6] at I6 ⊢
        have e6 : s6.heap.get? it = some o6 := by rw [hs6]; exact e6
        have pinned := I6.pinned (fp := [it]) (fun b hb => by rw [List.mem_singleton.mp hb]; exact stand I6 no5) fun b hb => by
          rw [List.mem_singleton.mp hb]
          exact ⟨o6, e6, fun v z => by rw [d6] at z; cases z⟩
        refine thnF (pg.run _ s6 _ G5 _ u _ pinned ru (turn i _ G5 (List.getElem?_eq_getElem lt) pv5)) ?_
        rintro _ s7 ⟨σ7, G7, I7, same7, w7⟩
        refine wpAny_tests_nil ?_
        simp only [if_true]
        refine thnF (pe.run _ s7 σ7 G7 _ I7 w7) ?_
        rintro z s8 ⟨y8, G8, I8, r8, acc, at8, few8, pv8⟩
        refine app_ok (X := X.blk s3 H3 scope ce [it]) I8 at8 few8 r8 fun s9 I9 => ?_
        have pin9 := I9.pin (it, o6) (List.mem_append_right _ (List.mem_append_right _ (mem_pinsAt (List.mem_singleton.mpr rfl) e6)))
        have many : (wipe σ (own.map (·.2))).length = σ7.length := by rw [← same7, wipe_length]
        refine ⟨xs.length - (i + 1), by omega, i + 1, _, (I9.unpinned (pins := [])).weak many (fun j v z => ?_), ⟨o6, pin9.1, c6, d6⟩, pin9.2.1, pv8, lt, rfl⟩
        rw [← same7] at z
        exact (wipe_some z).1
      · have end_ : i = xs.length := by omega
        have hot5 : HotAt X.A p.1 s5.heap := ⟨handled, p.2, held, I5.base.keep p.1 p.2 at3 track3 off (fun z => notIt (List.mem_singleton.mp z)), fields, none_⟩
        refine next_tuple_hot hot5 walk5 (show s5.heap.IsTuple a its5.toArray from isT5) (by have := vals5.length; simp; omega) fun h6 eb => ?_
        have I6 : Inv (X.blk s3 H3 scope ce [it]) [] (wipe σ (own.map (·.2))) G5 { s5 with heap := h6 } := I5.turned (t' := s5.toks) (fun b o hb e => eb b o hb e) f0 f1 f3 f4 f5
        have I7 : Inv X pins σ G5 { s5 with heap := h6 } := I3.call' (ch := [it]) I6.os I6.base I6.hok I6.bare fun b hb => by
          rw [List.mem_singleton.mp hb]
          exact ⟨own3.2.2.2.1, own3.2.1, own3.2.2.2.2.1, own3.2.2.2.2.2⟩
        have none5 : G5 s3.heap.objs.size = none := by
          have z : G5 ce.locals = none := I6.free
          rwa [locals_] at z
        obtain ⟨m, ns, _⟩ := I6.loc
        have ns : h6.Ns ce.locals m := ns
        rw [locals_] at ns
        obtain ⟨q0, q1, q2, q3, q4, q5⟩ := I3.fpOk (Nat.le_refl _) none5
        refine ⟨m, ns, fun h7 sb => ⟨.ref D, G5, I7.turned (t' := s5.toks) (fun b o hb e => (sb.2 b hb).trans e) q0 q1 q3 q4 q5, rfl, last G5 (end_ ▸ pv5)⟩⟩
    exact codeAny_compStart_list loop (wpAny_pyIter_tupleiter walk4 loop)
  subst hs3 hD
  exact body
end
end L2

/-! An instance with a __repr__ of its own is shown, also where an exception is handled. -/
namespace L2
open PySem PySem.Spec PyProof.Rows
/-- a def of one argument, promised where nothing is handled and where something is -/
structure Both (X : Cx) (k : Nat) (g : Addr) (sp : Sp) : Prop where
  calm : FnR X.prog X.w X.K X.mg X.base CX0 k g sp
  hot : ∃ fd, Binds X.K fd ["self"] [] ∧ L2H.FnH X.prog X.w X.K X.mg X.base CX0 k g fd ["self"] sp
section
variable {X : Cx} {k : Nat} {J : Hp → Prop} {B : Addr → Prop}
theorem Both.run {g a : Addr} {sp : Sp} {t : Str} (F : Both X k g sp) {A' : Around} {pins : List (Addr × Obj)} {s : Shared} {σ : St} {H : Hp} {E : Value → Shared → Prop} {W : Value → Shared → Prop} (fr : A'.frames = some X.stack) (r : RmX X.pn k A') (I : Inv X pins σ H s)
    (wish : sp [.ref a] H (fun v G => v = .str t ∧ J G) E0) (q : ∀ s1 G tk, Inv X pins σ G s1 → J G → W (.str t tk) s1) : wpAny (model X.prog X.w) A' (call (.ref g) [.ref a]) W E s := by
  have env : Env0 X.prog X.w X.K X.mg X.base A' X.stack s H := ⟨fr, I.env0.mod, I.env0.bs, I.env0.bsz, I.env0.funs, I.env0.frf, I.env0.hok, I.env0.bare⟩
  have vals : Vals [V.ref a] [Value.ref a] := .cons rfl .nil
  have run : codeAny (model X.prog X.w) A' (.call (.ref g) ⟨[.ref a], []⟩) (CR CX0 X.stack X.prog X.w H s (fun v G => v = .str t ∧ J G) E0) s := by
    rcases r.hot with none_ | ⟨p, mem, hot⟩
    · exact F.calm A' X.stack s H [.ref a] [.ref a] _ E0 ⟨none_, r.dp, r.un⟩ env vals wish
    · obtain ⟨fd, bn, FH⟩ := F.hot
      have P1 := I.pin p (List.mem_append_left _ mem)
      exact FH.run A' X.stack s H ⟨[.ref a], []⟩ [.ref a] [.ref a] _ E0 p ⟨r.dp, r.un⟩ hot ⟨P1.1, P1.2.1, fun z => (List.mem_cons.mp (I.stkSub p.1 z)).elim P1.2.2.1 P1.2.2.2.1, P1.2.2.2.2⟩ env (bn s [.ref a] I.kIn rfl) vals wish
  refine wpAny_call (codeAny_mono run ?_)
  rintro (er | fl) s1 z
  · exact False.elim z
  · cases fl with
    | ret u =>
      obtain ⟨_, G, I1, ⟨tk, rfl⟩, rfl, j⟩ : ∃ v G, Inv X pins σ G s1 ∧ (∃ tk, u = .str t tk) ∧ v = V.str t ∧ J G := by
        obtain ⟨v, G, I1, rv, rfl, j⟩ := I.after z
        exact ⟨_, G, I1, rv, rfl, j⟩
      exact q s1 G tk I1 j
    | _ => exact False.elim z
theorem sx_own {C g a : Addr} {sp : Sp} {t : Str} (find : PySem.W.findIn X.K (.ref C) "__repr__" = some (some (.ref g))) (fn : PySem.W.isFn X.K (.ref g) = true) (F : Both X k g sp)
    (inst : ∀ G, J G → ∃ dx fs, G a = some (.ins C dx fs)) (wish : ∀ G, J G → sp [.ref a] G (fun r G' => r = .str t ∧ J G') E0) : Sx X k J B (.ref a) t := by
  have look : ∀ {pins : List (Addr × Obj)} {s : Shared} {σ : St} {H : Hp}, Inv X pins σ H s → J H → ∃ mA od, PySem.W.InstAt s.heap a mA C od := fun {pins s σ H} I j => by
    obtain ⟨dx, fs, at_⟩ := inst H j
    obtain ⟨_, M, _⟩ := ins_get I.hok at_
    obtain ⟨od, It, _⟩ := M.look
    exact ⟨_, od, It⟩
  have bind_ : ∀ {A' : Around} {W : Value → Shared → Prop} {E : Value → Shared → Prop} {pins : List (Addr × Obj)} {s : Shared} {σ : St} {H : Hp}, A'.frames = some X.stack → RmX X.pn k A' → Inv X pins σ H s → J H → (∀ s1 G tk, Inv X pins σ G s1 → J G → W (.str t tk) s1) →
      ∀ {Q' : Option Value → Shared → Prop}, (∀ v s1, W v s1 → Q' (some v) s1) → wpAny (model X.prog X.w) A' (call (.ref g) ([.ref a] ++ []) >>= fun v => pure (some v)) Q' E s := by
    intro A' W E pins s σ H fr r I j q Q' out
    exact wpAny_bind (wpAny_mono (F.run fr r I (wish _ j) q) (fun v s1 z => wpAny_pure (out v s1 z)) fun _ _ z => z)
  constructor
  · intro A' g' pins s σ H u b E Q fr _ _ r I j rel fits q
    obtain rfl : u = Value.ref a := rel
    obtain ⟨_, od, It⟩ := look I j
    refine wpAny_pyReprUnder_ref (by omega) ?_
    unfold pyReprObjUnder pyReprObjBy
    refine wpAny_bind (wpAny_cRoomFor r.units0 (wpAny_bind (wpAny_bind (It.type.here ((PySem.W.looks_findIn I.kIn find).here ?_)))))
    change wpAny _ _ (if (some (Value.ref g)).isNone = true then _ else _) _ _ _
    rw [if_neg (by simp)]
    refine wpAny_bind (m := callSpecialIfBoundBy? _ (.ref a) (Str.ofString "__repr__")) ?_
    simp only [callSpecialIfBoundBy?, bindSpecialIfBound?]
    refine wpAny_holding (wpAny_bind (wpAny_bind (wpAny_bind (It.type.here ((PySem.W.looks_findIn I.kIn find).here (wpAny_bind (wpAny_askSetting (wpAny_ite ?_))))))))
    have got := fun {Q' : Option Value → Shared → Prop} => @bind_ A' (fun v s1 => ∃ tk, v = .str t tk ∧ Q t s1) E pins s σ H fr r I j (fun s1 G tk I1 j1 => ⟨tk, rfl, q s1 G I1 j1⟩) Q'
    have text : ∀ tk s1, Q t s1 → wpAny (model X.prog X.w) A' (do if ← isInstance (.str t tk) (.type "str") then pure (Value.str t tk) else raiseError "TypeError" s!"__repr__ returned non-string (type {← typeNameOf (.str t tk)})") (fun v s2 => ∃ x u, v = .str x u ∧ Q x s2) E s1 := fun tk s1 z =>
      wpAny_bind (wpAny_isInstance (T := "str") (b := true) rfl isSubtype_str_str (wpAny_pure ⟨t, tk, rfl, z⟩))
    split
    · exact wpAny_bind ((PySem.W.bind_fn I.kIn _ (beq_iff_eq.mp fn)).here (wpAny_pure (got fun v s1 ⟨tk, e, z⟩ => by subst e; exact text tk s1 z)))
    · exact wpAny_tryCatch (wpAny_bind ((PySem.W.bind_fn I.kIn _ (beq_iff_eq.mp fn)).here (wpAny_pure (got fun v s1 ⟨tk, e, z⟩ => by subst e; exact text tk s1 z))))
  · intro A' g' pins s σ H u E Q fr _ _ r I j rel fits q
    obtain rfl : u = Value.ref a := rel
    obtain ⟨_, od, It⟩ := look I j
    rw [pyReprObj_eq_pyReprObjBy]
    unfold pyReprObjBy
    refine wpAny_bind (wpAny_cRoomFor r.units0 (wpAny_bind (wpAny_bind (It.type.here ((PySem.W.looks_findIn I.kIn find).here ?_)))))
    change wpAny _ _ (if (some (Value.ref g)).isNone = true then _ else _) _ _ _
    rw [if_neg (by simp)]
    refine wpAny_bind (m := callSpecialIfBoundBy? _ (.ref a) (Str.ofString "__repr__")) ?_
    simp only [callSpecialIfBoundBy?, bindSpecialIfBound?]
    refine wpAny_holding (wpAny_bind (wpAny_bind (wpAny_bind (It.type.here ((PySem.W.looks_findIn I.kIn find).here (wpAny_bind (wpAny_askSetting (wpAny_ite ?_))))))))
    have got := fun {Q' : Option Value → Shared → Prop} => @bind_ A' (fun v s1 => ∃ tk, v = .str t tk ∧ Q (.str t tk) s1) E pins s σ H fr r I j (fun s1 G tk I1 j1 => ⟨tk, rfl, q s1 G tk I1 j1⟩) Q'
    have text : ∀ tk s1, Q (.str t tk) s1 → wpAny (model X.prog X.w) A' (do if ← isInstance (.str t tk) (.type "str") then pure (Value.str t tk) else raiseError "TypeError" s!"__repr__ returned non-string (type {← typeNameOf (.str t tk)})") Q E s1 := fun tk s1 z =>
      wpAny_bind (wpAny_isInstance (T := "str") (b := true) rfl isSubtype_str_str (wpAny_pure z))
    split
    · exact wpAny_bind ((PySem.W.bind_fn I.kIn _ (beq_iff_eq.mp fn)).here (wpAny_pure (got fun v s1 ⟨tk, e, z⟩ => by subst e; exact text tk s1 z)))
    · exact wpAny_tryCatch (wpAny_bind ((PySem.W.bind_fn I.kIn _ (beq_iff_eq.mp fn)).here (wpAny_pure (got fun v s1 ⟨tk, e, z⟩ => by subst e; exact text tk s1 z))))
  · intro A' g' pins s σ H u E Q fr _ _ r I j rel fits q
    obtain rfl : u = Value.ref a := rel
    obtain ⟨_, od, It⟩ := look I j
    obtain ⟨m, hF⟩ := I.fr
    refine PySem.W.repr_K (by have := r.un; show A'.units + 1 < cLine; omega) hF I.ok.mod.kin It find fn ?_
    refine wpAny_mono (F.run (A' := A'.in1) (W := fun v s1 => ∃ tk, v = .str t tk ∧ Q (.str t tk) s1) fr r.in1' I (wish _ j) fun s1 G tk I1 j1 => ⟨tk, rfl, q s1 G tk I1 j1⟩) ?_ fun _ _ z => z
    rintro _ s1 ⟨tk, rfl, z⟩
    exact z
end
end L2

/-! Own exceptions whose context is None; a def that may raise, called by its name, what is let out by the slots. -/
namespace L2
open PySem PySem.Spec PyProof.Rows
/-- C(e, ..), made where nothing is handled: its context is None -/
theorem pmk_oexN {X : Cx} {CX : CXT} {x : Str} {C g : Addr} {n : Nat} {fd : FuncData} {ps : List Str} {pr : Sp} {ds : List Value} {dvs : List V} {e : Expr} {es : List Expr} {ta : TA} {p pos : Pos} (cls : OexC X.K C) (init : PySem.W.findIn X.K (.ref C) "__init__" = some (some (.ref g))) (isfn : PySem.W.typeIn X.K (.ref g) = some (.type "function"))
    (F : FnG X.prog X.w X.K X.mg X.base CX n g fd ps pr) (quiet : X.A.guards = some []) (room : Room (n + 1) X.A) (bn : Binds X.K fd ps ds) (dv : Vals dvs ds) (pass : Passes CX X (fun _ _ _ => False)) (gl : Gl X x) (at_ : X.mg x = some (.ref C)) (args : PA X (e :: es) ta)
    (nd : (x == ("__debug__" : Str)) = false := by decide) (st : starEach (e :: es) X.env = (false, eval e X.env) :: starEach es X.env := by rfl) (pl : (backTo pos (starEach es X.env)).any (·.1) = false := by rfl) :
    L2N.PMk X (.Call (.Name x p) (e :: es) [] pos) (tMkO C pr dvs ta) := by
  intro pins s0 σ G W J w
  have vals := args.run pos pins s0 σ G _ J w
  refine wpAny_Call_Name_kw (ld_glob J gl at_ (PySem.W.callWith_K (h₀ := X.base) J.ok.mod.kin cls.kC (thn vals ?_) st pl) nd)
  rintro us ⟨hp, gens, dr, tk, os⟩ ⟨as, G1, J1, rel, few, wish⟩
  refine ⟨J1.kIn, ?_⟩
  show wpAny _ _ (PySem.call (.ref C) us) _ _ _
  obtain ⟨_, _, _, _, bm, _, _, _, _, _, _, _, _, _, _, look, tail⟩ := cls.cls
  obtain ⟨stays, J2⟩ := exc_laid (args := us) (C := C) J1
  have w1 := wish (hp.objs.size + 1) (J1.hok.fresh (Nat.le_succ hp.objs.size))
  have rel2 : Vals (V.ref (hp.objs.size + 1) :: (as ++ dvs)) (Value.ref (hp.objs.size + 1) :: (us ++ ds)) := .cons rfl (rel.append dv)
  have many : (Value.ref (hp.objs.size + 1) :: us ++ ds).length = ps.length := rel2.length.symm.trans (F.len _ _ _ _ w1)
  have run := F.run _ X.stack _ _ ⟨Value.ref (hp.objs.size + 1) :: us, []⟩ _ _ _ (fun _ _ _ => False) (make_guards.trans quiet) (room.make C us []) (J2.env0.make C us []) (bn _ (Value.ref (hp.objs.size + 1) :: us) J2.kIn many) rel2 w1
  have line : us.length ≤ sizeLine := Nat.le_trans (Nat.le_of_eq (Paired.length rel).symm) (Nat.le_trans few (by rw [sizeLine_eq]; decide))
  refine wpAny_call (PySem.HandSPX.call_own PySem.F.excBase_ValueError (fun Y => PySem.HandSPX.refsVE_contains Y bm tail) (J1.kIn _ _ look) (PySem.W.looks_findIn J1.kIn init) (fun self => PySem.W.bind_fn J1.kIn self isfn) line (codeAny_mono run ?_))
  rintro (er | fl) s3 z
  · exact pass pins σ _ _ er s3 J2 z
  · cases fl with
    | ret u =>
      obtain ⟨_, G3, same, bare, un, ok, none_, rfl, d, fs, at3, own, new, w3⟩ := z
      obtain ⟨h3, gens3, dr3, tk3, os3⟩ := s3
      obtain ⟨t0, hG, JG, back, lost, obj, off⟩ := mk_end0 (d2 := dr3) (t2 := tk3) J1 (Nat.le_succ _) stays un ok same bare at3 own new
      exact ⟨none_, _, _, _, ⟨hG, gens3, dr3, tk3, os3⟩, _, .ref C, some d, rfl, JG, back, lost, obj, ⟨rfl, rfl, fun vs e => by cases e; rfl⟩, rfl, rfl, off, rfl, bare, raises_own cls.exC cls.tyC, w3⟩
    | _ => exact z.elim
/-- x(e, ..), where no repr is under way; what is let out goes by the slots -/
theorem pe_callW {X : Cx} {CX : CXT} {n : Nat} {f : Addr} {x : Str} {fd : FuncData} {ps : List Str} {pr : Sp} {E : St → XK} {e : Expr} {es : List Expr} {t : TA} {p pos : Pos} (F : FnG X.prog X.w X.K X.mg X.base CX n f fd ps pr) (quiet : X.A.guards = some []) (room : Room n X.A) (gl : Gl X x) (at_ : X.mg x = some (.ref f)) (keep : PySem.W.keepIn X.K (.ref f) = true) (bn : Binds X.K fd ps []) (pass : ∀ σ, PassesAt CX X σ (E σ)) (args : PA X (e :: es) t)
    (nd : (x == ("__debug__" : Str)) = false := by decide) (st : starEach (e :: es) X.env = (false, eval e X.env) :: starEach es X.env := by rfl) (pn : (backTo pos (starEach es X.env)).any (·.1) = false := by rfl) :
    PE X (.Call (.Name x p) (e :: es) [] pos) (fun σ H Q => t σ H fun vs H1 => pr vs H1 Q (E σ)) := by
  constructor
  intro pins s0 σ H W J w
  refine wpAny_Call_Name_kw (ld_glob J gl at_ (PySem.W.callWith_K (h₀ := X.base) J.ok.mod.kin keep (thn (args.run pos pins s0 σ H _ J w) ?_) st pn) nd)
  rintro us s2 ⟨as, H2, J2, rv, w2⟩
  have many : (us ++ []).length = ps.length := by
    rw [List.append_nil]
    exact rv.length.symm.trans (F.len _ _ _ _ w2)
  have bound := bn s2 us J2.kIn many
  rw [List.append_nil] at bound
  have run := F.run X.A X.stack s2 H2 ⟨us, []⟩ us as W (E σ) quiet room J2.env0 bound rv w2
  refine ⟨J2.kIn, wpAny_call (codeAny_mono run ?_)⟩
  rintro (er | fl) s3 z
  · exact pass σ pins H2 s2 er s3 J2 z
  · cases fl with
    | ret u => exact J2.after z
    | _ => exact z.elim
end L2

namespace S16
open PySem L2 GM
open PySem.W (EachIs)
section
variable {P : Program} {w : World} {K : PySem.W.Frag} {mg : Str → Option Value} {base : Heap}
structure LTab (P : Program) (w : World) (K : PySem.W.Frag) (mg : Str → Option Value) (base : Heap) (C D : Addr) : Prop where
  ex : ∃ f fd, mg "_law_table" = some (.ref f) ∧ PySem.W.keepIn K (.ref f) = true ∧ Binds K fd nLTable [] ∧ FnG P w K mg base (L2.CX P w) 8 f fd nLTable (spLTable C D)
/-! ### _law_met -/
def spMet : Sp := fun vs H Q _ => ∃ (z : Str) (a ta : Addr) (ss : List Str) (T : List Turn), vs = [.str z, .ref a, .ref ta] ∧ NameOk z ∧ TextsS H a ss ∧ SlotsOk ss ∧ GroupAt H ta T ∧ (∀ p ∈ T, TurnOk ss p) ∧ T.length ≤ 3 ∧
  (Single ss.length T → ∀ H' l, Same H H' → H l = none → H' l = some (.lst []) → Q (.ref l) H') ∧ (¬ Single ss.length T → ∀ H' l, Same H H' → H l = none → H' l = some (.lst [.str z]) → Q (.ref l) H')
abbrev nMet : List Str := ["_law_title", "_law_slots", "_law_turns_here", "_law_met_here", "e"]
theorem scMet : FnScope nMet ["_law_title", "_law_slots", "_law_turns_here"] (defScope sMet) := ⟨rfl, rfl, rfl, by decide +kernel, rfl, by decide +kernel, by decide +kernel⟩
abbrev mcx (P : Program) (w : World) (K : PySem.W.Frag) (mg : Str → Option Value) (base : Heap) (f : Addr) (cdv : Value) (A : Around) (outer : List Env) (s : Shared) (H : Hp) (E : XK) : Cx := (cxOf CX0 P w K mg base nMet "_law_met" (defScope sMet) f cdv A outer s H E).nox
theorem ok_met {f C D : Addr} {fd : FuncData} (F : Fun K "_law_met" "_law_met" sMet f fd) (Z : Vn P w K mg base D) (LT : LTab P w K mg base C D) : FnG P w K mg base CX0 9 f fd ["_law_title", "_law_slots", "_law_turns_here"] spMet := by
  obtain ⟨ft, fdt, mt, kt, bt, G⟩ := LT.ex
  refine F.okG scMet (fun vs H Q E h => ?_) (fun cdv A outer s H vs Q E gd hr h => ?_)
  · obtain ⟨z, a, ta, ss, T, rfl, _⟩ := h
    rfl
  · obtain ⟨z, a, ta, ss, T, rfl, zok, ha, sok, ht, tok, few, qs, qn⟩ := h
    refine' ⟨_, pss_cons (ps_set (i := 3) scMet.nd rfl (Or.inl rfl) (pe_lst pa_nil)) (pss_cons ?ptry (pss_one (ps_ret (pv 3)))), ?_⟩
    case ptry =>
      refine' ps_try_as (i := 4) (tb := fun W => tDrop (fun σ H Q => tCons (tVar 0) (tCons (tVar 1) (tCons (tVar 2) tNil)) σ H fun vs H1 => spLTable C D vs H1 Q (WE W σ))) (ts := fun a cls d => tDrop (tBM K "list" rAppend (tVar 3) (tCons (tXf a cls d D fN (tVar 4)) tNil))) (c := .ref D) (Wout := fun _ _ _ _ => False) rfl rfl scMet.nd rfl rfl ⟨by rfl, by decide, .inl Z.mgD⟩ (fun u s' ⟨_, _, _, _, _, _, _, _, _, _, _, _, _, _, _, _, z⟩ => z.elim) ?hb ?hsu
      case hb =>
        intro W pn xe tk po
        exact pss_one (ps_expr (pe_callW G (deeper_guards.trans gd) hr (by rfl) mt kt bt (fun σ => passAt tk σ) (pa_cons (pv 0) (pa_cons (pv 1) (pa_cons (pv 2) pa_nil)))))
      case hsu =>
        intro e oe cls d pn hz hf
        exact pss_one (ps_expr (pe_bm PySem.F.plainAttrs_list PySem.F.slot_list_append PySem.F.type_list_append mt_append (pv 3) (pa_cons (pe_xf (X := mcx P w K mg base f cdv A outer s H E) Z.xf Z.no hz hf (pv 4)) pa_nil)))
    refine ⟨(by show 0 ≤ sizeLine; decide), fun l hl => ?_⟩
    have s1 := sNew (o := .lst []) (Same.refl H) hl
    refine ⟨_, rfl, _, rfl, _, rfl, z, a, ta, ss, T, rfl, zok, ha.same s1, sok, ht.same s1, tok, few, fun no H2 d s2 hd hxd => ?_, fun H2 p L s2 hp tab grp => ?_⟩
    · have at_ := s2 _ _ (upd_same (H := H) (a := l) (o := .lst []))
      refine ⟨true, Z.me, fun _ e he => ?_, fun y => by cases y⟩
      refine ⟨_, rfl, .inl ⟨rfl, _, SqL.of at_⟩, _, rfl, rfl, rfl, d, _, .str z, rfl, hxd, rfl, l, _, _, rfl, rfl, at_, (by show 0 < sizeLine; decide), ?_⟩
      refine ⟨_, rfl, qn no _ l (fun b o h => ?_) hl upd_same⟩
      rw [upd_ne (ne_of_none h hl)]
      exact s2 _ _ (s1 _ _ h)
    · exact ⟨_, rfl, qs (single_of grp.lists grp.nd) H2 l (Same.trans s1 s2) hl (s2 _ _ upd_same)⟩
end
end S16

namespace S16
open PySem L2 GM
open PySem.W (EachIs)
/-- the scopes of a comprehension and of one within it -/
abbrev scpOf (l : List (Str × NameKind)) : Scope := { kind := .function, names := l, isGenerator := false, isCoroutine := false }
abbrev scMatesO : Scope := scpOf [(".0", .local), ("_law_order_here", .local), ("_law_sign", .local), ("tuple", .globalImplicit), ("_law_places", .cell)]
abbrev scMatesI : Scope := scpOf [(".0", .local), ("_law_at", .local), ("_law_places", .free)]
abbrev rTupOf (K : PySem.W.Frag) : List V → Hp → VK → Prop := fun xs H Q => ∃ p ys, xs = [.ref p] ∧ ((SqL K H p ys ∧ ∀ l, H l = none → Q (.ref l) (upd H l (.tup ys))) ∨ (SqT K H p ys ∧ Q (.ref p) H))
/-- tuple([places[at] for at in order]) -/
abbrev teMoved (K : PySem.W.Frag) (pl od at_ : Nat) : TE := tCB (rTupOf K) (tCons (tLc (iTup K (tVar od)) (gName at_) tYes (tOp (rIxT K) (tVar pl) (tVar at_)) [at_]) tNil)
/-- the inner list's reading -/
theorem moved_read {K : PySem.W.Frag} {σ : St} {G : Hp} {pl od at_ : Nat} {t u : Addr} {ns o : List Int} {Q : VK} (hpl : ∀ v, (σ.set at_ v)[pl]? = σ[pl]?) (ne : pl ≠ at_) (h1 : σ[pl]? = some (some (.ref t))) (h2 : σ[od]? = some (some (.ref u))) (la : at_ < σ.length) (ht : SqT K G t (ns.map V.int)) (hu : SqT K G u (o.map V.int)) (fit : Fits ns.length o) (few : o.length ≤ 1000)
    (q : ∀ G' p, Same G G' → G p = none → G' p = some (.tup ((mv ns o).map V.int)) → Q (.ref p) G') : teMoved K pl od at_ σ G Q := by
  refine ⟨_, h2, u, rfl, ⟨_, hu⟩, fun E1 hE1 => ?_⟩
  refine lc_new (walk_tup (K := K) (a := u) (xs := o.map V.int)) (fun i => ((mv ns o).map V.int)[i]?) (by rw [List.length_map]; exact lt_line (by omega)) hE1 (fun G1 s1 => sTup s1 hu) ?_ ?_
  · rintro i x G1 _ hi s1 ⟨rfl, hx⟩ Kt Kn kt kn
    obtain ⟨j, hj, rfl⟩ := map_get hx
    have hm := fit j (List.mem_of_getElem? hj)
    have lt : j.toNat < ns.length := by omega
    have here : (ns.map V.int)[j.toNat]? = some (V.int (ns.getD j.toNat 0)) := by
      rw [List.getElem?_map, List.getD_eq_getElem?_getD, List.getElem?_eq_getElem lt] <;> rfl
    have w1 : (wipe σ [at_]) = σ.set at_ none := rfl
    refine ⟨by show (List.set (wipe σ [at_]) at_ _).set at_ none = _; rw [List.set_set]; show (σ.set at_ none).set at_ none = _; rw [List.set_set]; rfl, ?_⟩
    refine ⟨.ref t, by show (List.set (wipe σ [at_]) at_ _)[pl]? = _; rw [w1, List.set_set, hpl]; exact h1, .int j, by show (List.set (wipe σ [at_]) at_ _)[at_]? = _; rw [w1, List.set_set, List.getElem?_set_self la], t, _, j, V.int (ns.getD j.toNat 0), rfl, rfl, sTup s1 ht, at_of (j := j.toNat) (by omega) here, kt _ _ ?_ (Same.refl _)⟩
    show ((mv ns o).map V.int)[i]? = _
    unfold mv
    rw [List.getElem?_map, List.getElem?_map, hj] <;> rfl
  · intro G1 s1 at1
    have e : kept (fun i => ((mv ns o).map V.int)[i]?) (o.map V.int).length = (mv ns o).map V.int := by
      have z := kept_all (ys := (mv ns o).map V.int) (f := fun i => ((mv ns o).map V.int)[i]?) fun _ => rfl
      have l : ((mv ns o).map V.int).length = (o.map V.int).length := by unfold mv; simp only [List.length_map]
      rwa [l] at z
    rw [e] at at1
    exact ⟨E1, _, rfl, .inl ⟨SqL.of at1, fun p hp => q _ p (sNew s1 hp) (s1.free hp) upd_same⟩⟩
section
variable {P : Program} {w : World} {K : PySem.W.Frag} {mg : Str → Option Value} {base : Heap}
/-! ### _law_mates -/
def spMates (K : PySem.W.Frag) : Sp := fun vs H Q _ => ∃ (t l : Addr) (ns : List Int) (L : List Turn), vs = [.ref t, .ref l] ∧ SqT K H t (ns.map V.int) ∧ GroupAt H l L ∧ L.length ≤ 100 ∧ (∀ q ∈ L, q.1.Perm (idn ns.length)) ∧ ns.length ≤ 100 ∧
  ∀ H' r, Same H H' → H r = none → GroupAt H' r (mates ns L) → Q (.ref r) H'
abbrev nMates : List Str := ["_law_places", "_law_group_here", "_law_order_here", "_law_sign", "_law_at"]
theorem scMates : FnScope nMates ["_law_places", "_law_group_here"] (defScope sMates) := ⟨rfl, rfl, rfl, by decide +kernel, rfl, by decide +kernel, by decide +kernel⟩
theorem ok_mates {f : Addr} {fd : FuncData} (F : Fun K "_law_mates" "_law_mates" sMates f fd) (B : Bn mg) : FnOk P w K mg base CX0 1 f fd ["_law_places", "_law_group_here"] (spMates K) := by
  refine F.ok scMates (fun vs H Q E h => ?_) (fun cdv A outer s H vs Q E hr h => ?_)
  · obtain ⟨t, l, ns, L, rfl, _⟩ := h
    rfl
  · obtain ⟨t, l, ns, L, rfl, ht, ⟨gv, h3, h4⟩, few, perm, n100, q⟩ := h
    refine ⟨_, pss_one (ps_ret (pe_lc (own := [("_law_order_here", 2), ("_law_sign", 3)]) (g := gTup K 2 (gCons (gName 2) (gCons (gName 3) gNil))) (tt := tYes) (te := tTup (tCons (teMoved K 0 2 4) (tCons (tVar 3) tNil))) (by rfl) scMates.nd (pi_list (pv 1))
      (blkOk_by (own := [("_law_order_here", 2), ("_law_sign", 3)]) (N := nMates) (sc := defScope sMates) (by decide +kernel))
      (fun _ _ _ _ _ => pg_tup rfl (pgs_cons (pg_name (i := 2) scMates.nd rfl (Or.inl rfl)) (pgs_cons (pg_name (i := 3) scMates.nd rfl (Or.inl rfl)) pgs_nil))) (fun _ _ _ _ _ => pts_nil)
      (fun _ _ _ _ _ => pe_tup (pa_cons (pe_callTy call_tuple_of (by rfl) B.tuple (by decide +kernel) (pa_cons (pe_lc (own := [("_law_at", 4)]) (g := gName 4) (tt := tYes) (te := tOp (rIxT K) (tVar 0) (tVar 4)) (by rfl) scMates.nd (pi_tup (pv 2))
        (blkOk_by (own := [("_law_at", 4)]) (N := nMates) (sc := scMatesO) (scope := scMatesI) (by decide +kernel)) (fun _ _ _ _ _ => pg_name (i := 4) scMates.nd rfl (Or.inl rfl)) (fun _ _ _ _ _ => pts_nil) (fun _ _ _ _ _ => pe_ix ix_tup (pv 0) (pv 4) (fun _ _ => rfl))) pa_nil)) (pa_cons (pv 3) pa_nil))))), ?_⟩
    refine ⟨_, rfl, l, rfl, ⟨_, SqL.of h3⟩, fun D hD => ?_⟩
    have len : gv.length = L.length := EachIs.length h4
    have ml : (mates ns L).length = gv.length := by unfold mates; rw [List.length_map, len]
    refine lc_it (walk_list (K := K) (a := l) (xs := gv)) (fun i G => Same H G ∧ ∃ vs, G D = some (.lst vs) ∧ TurnsS G vs ((mates ns L).take i)) ⟨sNew (Same.refl H) hD, [], upd_same, .nil⟩ (fun i G _ h => SqL.of (h.1 _ _ h3)) ?_ ?_
    · rintro i v _ G hi ⟨sG, vs, hvs, tvs⟩ ⟨rfl, hv⟩
      obtain ⟨q0, hq, T, u, rfl, e1, e2⟩ := each_get (TurnsS.same sG h4) hv
      have perm0 := perm q0 (List.mem_of_getElem? hq)
      refine ⟨T, _, rfl, .inl (.inl e1), rfl, _, _, rfl, _, _, rfl, rfl, rfl, moved_read (ns := ns) (o := q0.1) (fun _ => rfl) (by decide) rfl rfl (by show 4 < 5; decide) (sTup sG ht) (.inl (.inl e2)) (idn_fits perm0) (by rw [perm_len perm0]; omega) fun G2 pm s2 hpm em => ?_⟩
      refine ⟨_, rfl, (by show 2 ≤ sizeLine; decide), fun TT hTT => ?_⟩
      have sT := sNew (o := .tup [.ref pm, .int q0.2]) s2 hTT
      have eD : upd G2 TT (.tup [.ref pm, .int q0.2]) D = some (.lst vs) := sT _ _ hvs
      have made : TurnS (upd G2 TT (.tup [.ref pm, .int q0.2])) (.ref TT) (mv ns q0.1, q0.2) := ⟨TT, pm, rfl, upd_same, old em hTT⟩
      have vlen : vs.length ≤ 100 := by
        have := EachIs.length tvs
        rw [List.length_take] at this
        omega
      refine ⟨vs, eD, lt_line (by omega), sPut (Same.trans sG sT) hD, vs ++ [V.ref TT], upd_same, ?_⟩
      have hm : (mates ns L)[i]? = some (mv ns q0.1, q0.2) := by unfold mates; rw [List.getElem?_map, hq]; rfl
      rw [List.take_add_one, hm]
      exact each_snoc ((TurnsS.same sT tvs).mono fun _ _ h => h.put eD) (made.put eD)
    · rintro G ⟨sG, vs, hvs, tvs⟩
      rw [← ml, List.take_length] at tvs
      exact q G D sG hD ⟨vs, hvs, tvs⟩
end
end S16

/-! what is reached in k steps -/
namespace GM
/-- one turn more -/
def ext (p t : Turn) : Turn := (mv p.1 t.1, p.2 * t.2)
def Ball (n : Nat) (T : List Turn) : Nat → Turn → Prop
  | 0, p => p = (idn n, 1)
  | k + 1, p => Ball n T k p ∨ ∃ q t, Ball n T k q ∧ t ∈ T ∧ p = ext q t
theorem Ball.reach {n : Nat} {T : List Turn} : ∀ {k : Nat} {p : Turn}, Ball n T k p → Reach n T p.1 p.2
  | 0, p, h => by
    obtain rfl : p = (idn n, 1) := h
    exact .one
  | k + 1, p, h => by
    rcases h with h | ⟨q, t, h, m, rfl⟩
    · exact Ball.reach h
    · exact .step (Ball.reach h) m
theorem Ball.le {n : Nat} {T : List Turn} {k : Nat} {p : Turn} (h : Ball n T k p) : ∀ {j : Nat}, k ≤ j → Ball n T j p := fun {j} l => by
  induction j with
  | zero =>
    obtain rfl : k = 0 := by omega
    exact h
  | succ j ih =>
    by_cases e : k = j + 1
    · exact e ▸ h
    · exact .inl (ih (by omega))
def halves (n : Nat) : List Turn := (orders n).flatMap fun o => [(o, 1), (o, -1)]
theorem mem_halves {n : Nat} {p : Turn} (h : p.1.Perm (idn n)) (s : Sgn p.2) : p ∈ halves n := by
  obtain ⟨o, g⟩ := p
  refine List.mem_flatMap.mpr ⟨o, mem_orders h, ?_⟩
  rcases s with e | e
  · have e' : g = 1 := e
    subst e'
    exact List.mem_cons_self
  · have e' : g = -1 := e
    subst e'
    exact List.mem_cons_of_mem _ List.mem_cons_self
theorem halves_len (n : Nat) : (halves n).length = 2 * (orders n).length := by
  unfold halves
  generalize orders n = X
  induction X with
  | nil => rfl
  | cons a X ih =>
    rw [List.flatMap_cons, List.length_append, ih]
    show 2 + 2 * X.length = 2 * (X.length + 1)
    omega
theorem reach_few {n : Nat} {T L : List Turn} (hn : n ≤ 4) (are : Are n T) (nd : L.Nodup) (ok : ∀ p ∈ L, Reach n T p.1 p.2) : L.length ≤ 48 := by
  have z := nodup_few L (halves n) nd fun p m => mem_halves ((ok p m).are are).1 ((ok p m).are are).2
  have := orders_few hn
  rw [halves_len] at z
  omega
/-- one round of the search: found F, fresh N; the first i of F are done, of F[i] the first j turns -/
structure Rnd (T F N : List Turn) (i j : Nat) : Prop where
  nd : (F ++ N).Nodup
  sub : ∀ p ∈ N, ∃ q ∈ F, ∃ t ∈ T, p = ext q t
  did : ∀ q ∈ F.take i, ∀ t ∈ T, ext q t ∈ F ++ N
  part : ∀ q, F[i]? = some q → ∀ t ∈ T.take j, ext q t ∈ F ++ N
theorem Rnd.start {T F : List Turn} (h : F.Nodup) : Rnd T F [] 0 0 := ⟨by rw [List.append_nil]; exact h, fun _ m => absurd m List.not_mem_nil, fun _ m => absurd m (by simp), fun _ _ _ m => absurd m (by simp)⟩
theorem Rnd.next {T F N : List Turn} {i : Nat} (h : Rnd T F N i T.length) : Rnd T F N (i + 1) 0 := by
  refine ⟨h.nd, h.sub, fun q m t mt => ?_, fun _ _ _ m => absurd m (by simp)⟩
  rw [List.take_add_one] at m
  rcases List.mem_append.mp m with m | m
  · exact h.did q m t mt
  · cases e : F[i]? with
    | none => rw [e] at m; cases m
    | some x =>
      rw [e] at m
      obtain rfl := List.mem_singleton.mp (show q ∈ [x] from m)
      exact h.part q e t (by rw [List.take_length]; exact mt)
theorem Rnd.old {T F N : List Turn} {i j : Nat} {q t : Turn} (h : Rnd T F N i j) (hq : F[i]? = some q) (ht : T[j]? = some t) (m : ext q t ∈ F ++ N) : Rnd T F N i (j + 1) := by
  refine ⟨h.nd, h.sub, h.did, fun q' e u mu => ?_⟩
  obtain rfl : q = q' := Option.some.inj (hq.symm.trans e)
  rw [List.take_add_one, ht] at mu
  rcases List.mem_append.mp mu with mu | mu
  · exact h.part q e u mu
  · obtain rfl := List.mem_singleton.mp (show u ∈ [t] from mu)
    exact m
theorem Rnd.new {T F N : List Turn} {i j : Nat} {q t : Turn} (h : Rnd T F N i j) (hq : F[i]? = some q) (ht : T[j]? = some t) (m : ext q t ∉ F) (m' : ext q t ∉ N) : Rnd T F (N ++ [ext q t]) i (j + 1) := by
  have up : ∀ x, x ∈ F ++ N → x ∈ F ++ (N ++ [ext q t]) := fun x hx => by
    rw [← List.append_assoc]
    exact List.mem_append_left _ hx
  refine ⟨?_, fun p mp => ?_, fun x mx u mu => up _ (h.did x mx u mu), fun q' e u mu => ?_⟩
  · rw [← List.append_assoc, List.nodup_append]
    refine ⟨h.nd, by simp, fun a ha b hb => ?_⟩
    rw [List.mem_singleton.mp hb]
    rintro rfl
    rcases List.mem_append.mp ha with ha | ha
    · exact m ha
    · exact m' ha
  · rcases List.mem_append.mp mp with mp | mp
    · exact h.sub p mp
    · rw [List.mem_singleton.mp mp]
      exact ⟨q, List.mem_of_getElem? hq, t, List.mem_of_getElem? ht, rfl⟩
  · obtain rfl : q = q' := Option.some.inj (hq.symm.trans e)
    rw [List.take_add_one, ht] at mu
    rcases List.mem_append.mp mu with mu | mu
    · exact up _ (h.part q e u mu)
    · obtain rfl := List.mem_singleton.mp (show u ∈ [t] from mu)
      exact List.mem_append_right _ (List.mem_append_right _ List.mem_cons_self)
theorem Rnd.ball {n : Nat} {T F N : List Turn} {k : Nat} (h : Rnd T F N F.length 0) (b : ∀ p, p ∈ F ↔ Ball n T k p) : ∀ p, p ∈ F ++ N ↔ Ball n T (k + 1) p := fun p => by
  constructor
  · intro m
    rcases List.mem_append.mp m with m | m
    · exact .inl ((b p).mp m)
    · obtain ⟨q, hq, t, ht, rfl⟩ := h.sub p m
      exact .inr ⟨q, t, (b q).mp hq, ht, rfl⟩
  · rintro (m | ⟨q, t, hq, ht, rfl⟩)
    · exact List.mem_append_left _ ((b p).mpr m)
    · exact h.did q (by rw [List.take_length]; exact (b q).mpr hq) t ht
/-- closed once, closed ever -/
theorem Ball.stop {n : Nat} {T : List Turn} {k : Nat} (h : ∀ p, Ball n T (k + 1) p → Ball n T k p) {p : Turn} (r : Reach n T p.1 p.2) : Ball n T k p := by
  obtain ⟨o, s⟩ := p
  replace r : Reach n T o s := r
  induction r with
  | one => exact Ball.le (k := 0) rfl (Nat.zero_le _)
  | @step o s t r m ih => exact h _ (.inr ⟨(o, s), t, ih, m, rfl⟩)
/-- a list of the ball grows while it is not closed -/
theorem ball_grows {n : Nat} {T : List Turn} : ∀ k : Nat, (∃ j, j ≤ k ∧ ∀ p, Ball n T (j + 1) p → Ball n T j p) ∨ ∃ L : List Turn, L.Nodup ∧ (∀ p ∈ L, Ball n T (k + 1) p) ∧ k + 2 ≤ L.length
  | 0 => by
    by_cases h : ∀ p, Ball n T 1 p → Ball n T 0 p
    · exact .inl ⟨0, Nat.le_refl _, h⟩
    · simp only [Classical.not_forall] at h
      obtain ⟨p, h1, h0⟩ := h
      refine .inr ⟨[(idn n, 1), p], ?_, fun q m => ?_, Nat.le_refl _⟩
      · rw [List.nodup_cons]
        exact ⟨fun m => h0 (List.mem_singleton.mp m).symm, by simp⟩
      · rcases List.mem_cons.mp m with rfl | m
        · exact .inl rfl
        · rw [List.mem_singleton.mp m]
          exact h1
  | k + 1 => by
    rcases ball_grows (n := n) (T := T) k with ⟨j, hj, h⟩ | ⟨L, nd, sub, len⟩
    · exact .inl ⟨j, by omega, h⟩
    · by_cases h : ∀ p, Ball n T (k + 2) p → Ball n T (k + 1) p
      · exact .inl ⟨k + 1, Nat.le_refl _, h⟩
      · simp only [Classical.not_forall] at h
        obtain ⟨p, h1, h0⟩ := h
        refine .inr ⟨p :: L, List.nodup_cons.mpr ⟨fun m => h0 (sub p m), nd⟩, fun q m => ?_, by rw [List.length_cons]; omega⟩
        rcases List.mem_cons.mp m with rfl | m
        · exact h1
        · exact .inl (sub q m)
/-- where each order has one sign, 24 rounds are enough -/
theorem Ball.all {n : Nat} {T : List Turn} (hn : n ≤ 4) (are : Are n T) (sg : Single n T) {p : Turn} : Ball n T 24 p ↔ Reach n T p.1 p.2 := by
  refine ⟨Ball.reach, fun r => ?_⟩
  rcases ball_grows (n := n) (T := T) 23 with ⟨j, hj, h⟩ | ⟨L, nd, sub, len⟩
  · exact (Ball.stop h r).le (by omega)
  · have keys : (L.map Prod.fst).Nodup := by
      have : ∀ M : List Turn, M.Nodup → (∀ p ∈ M, Reach n T p.1 p.2) → (M.map Prod.fst).Nodup := by
        intro M
        induction M with
        | nil => intro _ _; exact List.nodup_nil
        | cons a M ih =>
          intro nd ok
          rw [List.nodup_cons] at nd
          rw [List.map_cons, List.nodup_cons]
          refine ⟨fun m => ?_, ih nd.2 fun p mp => ok p (List.mem_cons_of_mem _ mp)⟩
          obtain ⟨b, hb, e⟩ := List.mem_map.mp m
          have ra := ok a List.mem_cons_self
          have rb := ok b (List.mem_cons_of_mem _ hb)
          rw [← e] at ra
          have e2 := sg _ _ _ ra rb
          exact nd.1 ((Prod.ext e e2.symm : b = a) ▸ hb)
      exact this L nd fun p m => (sub p m).reach
    have := Srch.few hn are keys fun p m => (sub p m).reach
    omega
end GM

namespace S16
open PySem L2 GM
open PySem.W (EachIs)
theorem any_turn (L : List Turn) (p : Turn) : ((L.map turnD).any fun z => PyData.eqv z (turnD p)) = decide (p ∈ L) := by
  induction L with
  | nil => simp
  | cons a L ih =>
    rw [List.map_cons, List.any_cons, ih, eqv_turn]
    by_cases h : a = p
    · simp [h]
    · have h' : ¬ p = a := fun e => h e.symm
      by_cases h2 : p ∈ L <;> simp [h, h', h2]
theorem sh_turn (p : Turn) : SeqAt.shaped (turnD p) = true := by
  have d := deep2_turn p
  unfold SeqAt.shaped
  rw [Bool.and_eq_true, decide_eq_true_eq]
  exact ⟨lay_turn p, by omega⟩
section
variable {P : Program} {w : World} {K : PySem.W.Frag} {mg : Str → Option Value} {base : Heap}
/-! ### _law_group -/
def spGroup : Sp := fun vs H Q _ => ∃ (a ta : Addr) (ss : List Str) (T : List Turn), vs = [.ref a, .ref ta] ∧ TextsS H a ss ∧ ss.length ≤ 4 ∧ GroupAt H ta T ∧ Are ss.length T ∧ T.length ≤ 100 ∧
  ∀ H' r L, Same H H' → H r = none → GroupAt H' r L → Srt L → L.Nodup → (∀ p, p ∈ L ↔ Ball ss.length T 24 p) → Q (.ref r) H'
abbrev nGroup : List Str := ["_law_slots", "_law_turns_here", "_law_found", "_law_step", "_law_fresh", "_law_order_here", "_law_sign", "_law_other", "_law_factor", "_law_product", "_law_at"]
theorem scGroup : FnScope nGroup ["_law_slots", "_law_turns_here"] (defScope sGroup) := ⟨rfl, rfl, rfl, by decide +kernel, rfl, by decide +kernel, by decide +kernel⟩
theorem ok_group {f : Addr} {fd : FuncData} (F : Fun K "_law_group" "_law_group" sGroup f fd) (B : Bn mg) : FnOk P w K mg base CX0 1 f fd ["_law_slots", "_law_turns_here"] spGroup := by
  refine F.ok scGroup (fun vs H Q E h => ?_) (fun cdv A outer s H vs Q E hr h => ?_)
  · obtain ⟨a, ta, ss, T, rfl, _⟩ := h
    rfl
  · obtain ⟨a, ta, ss, T, rfl, ha, n4, ⟨tv, ht, hts⟩, are, few, q⟩ := h
    have room : (A.deeper (PyProof.Rows.envOfC "_law_group" (defScope sGroup) s.heap.objs.size f cdv)).units + 70 < cLine := by
      have := hr.un
      omega
    have hu : (A.deeper (PyProof.Rows.envOfC "_law_group" (defScope sGroup) s.heap.objs.size f cdv)).units + 65 < cLine := by omega
    refine ⟨_, pss_cons (ps_set (i := 2) scGroup.nd rfl (Or.inl rfl) (pe_lst (pa_cons (pe_tup (pa_cons (pe_tupRg rfl (by rfl) B.tuple (prg_1 (by rfl) B.range (pe_callB call_len_seq (by rfl) B.len PySem.boot_len (pa_cons (pv 0) pa_nil)))) (pa_cons pe_int pa_nil))) pa_nil)))
      (pss_cons (ps_for PassesOwn.never rfl (pi_range1 (by rfl) B.range (pa_cons pe_int pa_nil)) (pg_name (i := 3) scGroup.nd rfl (Or.inl rfl))
        (pss_cons (ps_set (i := 4) scGroup.nd rfl (Or.inl rfl) (pe_lst pa_nil))
        (pss_cons (ps_for PassesOwn.never rfl (pi_list (pv 2)) (pg_tup rfl (pgs_cons (pg_name (i := 5) scGroup.nd rfl (Or.inr rfl)) (pgs_cons (pg_name (i := 6) scGroup.nd rfl (Or.inl rfl)) pgs_nil)))
          (pss_one (ps_for PassesOwn.never rfl (pi_list (pv 1)) (pg_tup rfl (pgs_cons (pg_name (i := 7) scGroup.nd rfl (Or.inl rfl)) (pgs_cons (pg_name (i := 8) scGroup.nd rfl (Or.inl rfl)) pgs_nil)))
            (pss_cons (ps_set (i := 9) scGroup.nd rfl (Or.inl rfl) (pe_tup (pa_cons (pe_callTy call_tuple_of (by rfl) B.tuple (by decide +kernel) (pa_cons (pe_lc (own := [("_law_at", 10)]) (g := gName 10) (tt := tYes) (te := tOp (rIxT K) (tVar 5) (tVar 10)) (by rfl) scGroup.nd (pi_tup (pv 7))
                (blkOk_by (own := [("_law_at", 10)]) (N := nGroup) (sc := defScope sGroup) (by decide +kernel)) (fun _ _ _ _ _ => pg_name (i := 10) scGroup.nd rfl (Or.inl rfl)) (fun _ _ _ _ _ => pts_nil) (fun _ _ _ _ _ => pe_ix ix_tup (pv 5) (pv 10) (fun _ _ => rfl))) pa_nil))
                (pa_cons (pe_op op_mul (pv 6) (pv 8)) pa_nil))))
            (pss_one (ps_if (PW.pt (pw_and (pt_cmpR (op_notInD hu) (pv 9) (pv 2) (by rfl)) (pw_and1 (pt_cmpR (op_notInD hu) (pv 9) (pv 4) (by rfl)))))
              (pss_one (ps_expr (pe_bm PySem.F.plainAttrs_list PySem.F.slot_list_append PySem.F.type_list_append mt_append (pv 4) (pa_cons (pv 9) pa_nil)))) pss_nil))))))
        (pss_one (ps_set (i := 2) scGroup.nd rfl (Or.inl rfl) (pe_op op_cat (pv 2) (pv 4)))))))
      (pss_one (ps_ret (pe_callB (cr_sortB room) (by rfl) B.sorted (by decide +kernel) (pa_cons (pv 2) pa_nil))))), ?_⟩
    have hlen : TextsAt K H a ss := ha.at_
    have tlen : tv.length = T.length := EachIs.length hts
    refine ⟨_, rfl, a, _, rfl, hlen, _, rfl, RgOk.of_le (by decide) (by rw [List.length_map]; omega) (by decide) (by omega), fun k0 hk0 => ?_⟩
    rw [List.length_map, rg_idn]
    have s1 := sNew (o := .tup ((idn ss.length).map V.int)) (Same.refl H) hk0
    refine ⟨(by show 2 ≤ sizeLine; decide), fun t0 ht0 => ?_⟩
    have s2 := sNew (o := .tup [.ref k0, .int 1]) s1 ht0
    have made0 : TurnS (upd (upd H k0 (.tup ((idn ss.length).map V.int))) t0 (.tup [.ref k0, .int 1])) (.ref t0) (idn ss.length, 1) := ⟨t0, k0, rfl, upd_same, old upd_same ht0⟩
    refine ⟨(by show 1 ≤ sizeLine; decide), fun l0 hl0 => ?_⟩
    have s3 := sNew (o := .lst [.ref t0]) s2 hl0
    have grp0 : GroupAt (upd (upd (upd H k0 (.tup ((idn ss.length).map V.int))) t0 (.tup [.ref k0, .int 1])) l0 (.lst [.ref t0])) l0 [(idn ss.length, 1)] := ⟨_, upd_same, .cons (made0.same (sNew (Same.refl _) hl0)) .nil⟩
    generalize upd (upd (upd H k0 (.tup ((idn ss.length).map V.int))) t0 (.tup [.ref k0, .int 1])) l0 (.lst [.ref t0]) = H3 at s3 grp0
    refine ⟨24, rfl, by decide, by decide, for_it (walk_range (lo := 0) (n := 24)) (fun k σ G => Same H G ∧ ∃ (fl : Addr) (Fd : List Turn) (y3 y4 y5 y6 y7 y8 y9 : Option V), GroupAt G fl Fd ∧ Fd.Nodup ∧ (∀ p, p ∈ Fd ↔ Ball ss.length T k p) ∧ σ = [some (.ref a), some (.ref ta), some (.ref fl), y3, y4, y5, y6, y7, y8, y9, none])
      ⟨s3, l0, _, none, none, none, none, none, none, none, grp0, by simp, fun p => ⟨fun m => List.mem_singleton.mp m, fun m => List.mem_singleton.mpr m⟩, rfl⟩ (fun _ _ _ _ _ => True.intro) ?_ ?_⟩
    · rintro k y σ _ G0 hk ⟨s4, fl, Fd, y3, y4, y5, y6, y7, y8, y9, ⟨fv, hfl, hfv⟩, fnd, fball, rfl⟩ ⟨rfl, rfl⟩
      have fvl : fv.length = Fd.length := EachIs.length hfv
      have f48 : Fd.length ≤ 48 := reach_few n4 are fnd fun p m => ((fball p).mp m).reach
      refine ⟨(by show 0 ≤ sizeLine; decide), fun nl hnl => ?_⟩
      have hnl0 : H nl = none := s4.free hnl
      have s5 := sNew (o := .lst []) (Same.refl G0) hnl
      refine ⟨_, rfl, fl, rfl, ⟨_, SqL.of (s5 _ _ hfl)⟩, for_it (walk_list (K := K) (a := fl) (xs := fv)) (fun i σ G => Same G0 G ∧ ∃ (N : List Turn) (x5 x6 x7 x8 x9 : Option V), GroupAt G nl N ∧ Rnd T Fd N i 0 ∧ σ = [some (.ref a), some (.ref ta), some (.ref fl), some (.int (0 + (k : Nat))), some (.ref nl), x5, x6, x7, x8, x9, none])
        ⟨s5, [], y5, y6, y7, y8, y9, ⟨[], upd_same, .nil⟩, Rnd.start fnd, rfl⟩ (fun i σ G _ h => SqL.of (h.1 _ _ hfl)) ?_ ?_⟩
      · rintro i v σ _ G hi ⟨s6, N, x5, x6, x7, x8, x9, grpN, rnd, rfl⟩ ⟨rfl, hv⟩
        obtain ⟨p0, hp0, T0, u0, rfl, e1, e2⟩ := each_get hfv hv
        have r0 := ((fball p0).mp (List.mem_of_getElem? hp0)).reach
        have perm0 := (r0.are are).1
        have sgn0 := (r0.are are).2
        refine ⟨T0, _, rfl, .inl (.inl (s6 _ _ e1)), rfl, _, _, rfl, _, _, rfl, rfl, ?_⟩
        refine ⟨_, rfl, ta, rfl, ⟨_, SqL.of (s6 _ _ (s4 _ _ ht))⟩, for_it (walk_list (K := K) (a := ta) (xs := tv)) (fun j σ G' => Same G0 G' ∧ ∃ (N : List Turn) (x7 x8 x9 : Option V), GroupAt G' nl N ∧ Rnd T Fd N i j ∧ σ = [some (.ref a), some (.ref ta), some (.ref fl), some (.int (0 + (k : Nat))), some (.ref nl), some (.ref u0), some (.int p0.2), x7, x8, x9, none])
          ⟨s6, N, x7, x8, x9, grpN, rnd, rfl⟩ (fun j σ G' _ h => SqL.of (h.1 _ _ (s4 _ _ ht))) ?_ ?_⟩
        · rintro j v' σ _ G1 hj ⟨s7, N1, z7, z8, z9, grp1, rnd1, rfl⟩ ⟨rfl, hv'⟩
          obtain ⟨t1, ht1, T1, u1, rfl, k1, k2⟩ := each_get (TurnsS.same (Same.trans s4 s7) hts) hv'
          have are1 := are t1 (List.mem_of_getElem? ht1)
          obtain ⟨nv, hnv, hnt⟩ := grp1
          have p0len := perm_len perm0
          have t1len := perm_len are1.1
          have sz : -(2 ^ 64) < p0.2 ∧ p0.2 < 2 ^ 64 := by rcases sgn0 with e | e <;> rw [e] <;> decide
          refine ⟨T1, _, rfl, .inl (.inl k1), rfl, _, _, rfl, _, _, rfl, rfl, ?_⟩
          dsimp only [tSeq, tAsg, tTup, tCons]
          refine moved_read (K := K) (σ := [some (.ref a), some (.ref ta), some (.ref fl), some (.int (0 + (k : Nat))), some (.ref nl), some (.ref u0), some (.int p0.2), some (.ref u1), some (.int t1.2), z9, none]) (pl := 5) (od := 7) (at_ := 10) (ns := p0.1) (o := t1.1) (fun _ => rfl) (by decide) rfl rfl (by show 10 < 11; decide) (.inl (.inl (s7 _ _ e2))) (.inl (.inl k2)) (by rw [p0len]; exact idn_fits are1.1) (by omega) fun G2 pm s8 hpm em => ?_
          refine ⟨_, rfl, _, rfl, _, _, rfl, rfl, .inl sz, (by show 2 ≤ sizeLine; decide), fun T2 hT2 => ?_⟩
          have s9 := sNew (o := .tup [.ref pm, .int (p0.2 * t1.2)]) s8 hT2
          have made : TurnS (upd G2 T2 (.tup [.ref pm, .int (p0.2 * t1.2)])) (.ref T2) (ext p0 t1) := ⟨T2, pm, rfl, upd_same, old em hT2⟩
          have sG := Same.trans s7 s9
          generalize upd G2 T2 (.tup [.ref pm, .int (p0.2 * t1.2)]) = G3 at s9 made sG
          have grpF : GroupAt G3 fl Fd := ⟨fv, sG _ _ hfl, TurnsS.same sG hfv⟩
          have hnv3 := s9 _ _ hnv
          have hnt3 := TurnsS.same s9 hnt
          have grpN3 : GroupAt G3 nl N1 := ⟨nv, hnv3, hnt3⟩
          refine ⟨_, rfl, _, rfl, turnD (ext p0 t1), Fd.map turnD, made.dp, grpF.dp, sh_turn _, sh_turns _, _, rfl, ?_⟩
          rw [any_turn]
          by_cases inF : ext p0 t1 ∈ Fd
          · rw [show (!decide (ext p0 t1 ∈ Fd)) = false by rw [decide_eq_true inF]; rfl]
            exact iteF ⟨sG, N1, _, _, _, grpN3, rnd1.old hp0 ht1 (List.mem_append_left _ inF), rfl⟩
          · rw [show (!decide (ext p0 t1 ∈ Fd)) = true by rw [decide_eq_false inF]; rfl]
            refine iteT ⟨_, rfl, _, rfl, turnD (ext p0 t1), N1.map turnD, made.dp, grpN3.dp, sh_turn _, sh_turns _, _, rfl, ?_⟩
            rw [any_turn]
            by_cases inN : ext p0 t1 ∈ N1
            · rw [show (!decide (ext p0 t1 ∈ N1)) = false by rw [decide_eq_true inN]; rfl]
              exact iteF ⟨sG, N1, _, _, _, grpN3, rnd1.old hp0 ht1 (List.mem_append_right _ inN), rfl⟩
            · rw [show (!decide (ext p0 t1 ∈ N1)) = true by rw [decide_eq_false inN]; rfl]
              have rnd2 := rnd1.new hp0 ht1 inF inN
              have nvl : nv.length = N1.length := EachIs.length hnt
              have n48 : (Fd ++ N1).length ≤ 48 := reach_few n4 are rnd1.nd fun p m => by
                rcases List.mem_append.mp m with m | m
                · exact ((fball p).mp m).reach
                · obtain ⟨q, hq, t, ht', rfl⟩ := rnd1.sub p m
                  exact .step ((fball q).mp hq).reach ht'
              rw [List.length_append] at n48
              refine iteT ⟨_, rfl, .inl ⟨rfl, _, SqL.of hnv3⟩, _, rfl, nl, _, _, rfl, rfl, hnv3, lt_line (by omega), ?_⟩
              refine ⟨fun b o h => ?_, N1 ++ [ext p0 t1], _, _, _, ⟨_, upd_same, each_snoc (hnt3.mono fun _ _ h => h.put hnv3) (made.put hnv3)⟩, rnd2, rfl⟩
              rw [upd_ne (ne_of_none h hnl)]
              exact sG b o h
        · rintro σ G1 ⟨s7, N1, z7, z8, z9, grp1, rnd1, rfl⟩
          rw [tlen] at rnd1
          exact ⟨s7, N1, _, _, z7, z8, z9, grp1, rnd1.next, rfl⟩
      · rintro σ G ⟨s6, N, x5, x6, x7, x8, x9, ⟨nv, hnv, hnt⟩, rnd, rfl⟩
        rw [fvl] at rnd
        have nvl : nv.length = N.length := EachIs.length hnt
        have both : ∀ p ∈ Fd ++ N, Reach ss.length T p.1 p.2 := fun p m => ((rnd.ball fball p).mp m).reach
        have n48 := reach_few n4 are rnd.nd both
        rw [List.length_append] at n48
        refine ⟨_, rfl, _, rfl, fl, nl, _, _, rfl, rfl, s6 _ _ hfl, hnv, le_line (by omega), fun cl hcl => ?_⟩
        have s7 := sNew (o := .lst (fv ++ nv)) (Same.trans s4 s6) hcl
        have grpC : GroupAt (upd G cl (.lst (fv ++ nv))) cl (Fd ++ N) := ⟨_, upd_same, by
          have e1 := TurnsS.same (sNew (o := .lst (fv ++ nv)) s6 hcl) hfv
          have e2 := TurnsS.same (sNew (o := .lst (fv ++ nv)) (Same.refl G) hcl) hnt
          have app : ∀ {as : List V} {bs : List Turn}, TurnsS (upd G cl (.lst (fv ++ nv))) as bs → TurnsS (upd G cl (.lst (fv ++ nv))) (as ++ nv) (bs ++ N) := fun {as bs} h => by
            induction h with
            | nil => exact e2
            | cons r _ ih => exact .cons r ih
          exact app e1⟩
        exact ⟨s7, cl, Fd ++ N, _, _, _, _, _, _, _, grpC, rnd.nd, rnd.ball fball, rfl⟩
    · rintro σ G ⟨s4, fl, Fd, y3, y4, y5, y6, y7, y8, y9, ⟨fv, hfl, hfv⟩, fnd, fball, rfl⟩
      refine ⟨_, rfl, ?_⟩
      dsimp only [tNil]
      refine sort_turns hfl hfv fun ga gv Ms hga srt pm tms => ?_
      exact q _ ga Ms (sNew s4 hga) (s4.free hga) ⟨gv, upd_same, tms⟩ srt (pm.nodup_iff.mpr fnd) fun p => pm.mem_iff.trans (fball p)
end
end S16

/-! how deep the orders of four lie: by counting with bit masks -/
namespace GD
open GM
def P4 : List (List Int) := orders 4
def rank (o : List Int) : Nat := P4.findIdx (· == o)
/-- row j: where order i goes by order j, as a bit -/
def row (j : Nat) : List Nat := P4.map fun o => 1 <<< rank (mv o (P4.getD j []))
def rows : List (List Nat) := (List.range 24).map row
/-- the image of a set of orders -/
def img : List Nat → Nat → Nat → Nat
  | [], _, acc => acc
  | v :: r, m, acc => img r (m / 2) (match m % 2 with | 0 => acc | _ => acc ||| v)
def grow (r1 r2 r3 : List Nat) (m : Nat) : Nat := m ||| (img r1 m 0 ||| (img r2 m 0 ||| img r3 m 0))
/-- closed behind at most k rounds -/
def closes (r1 r2 r3 : List Nat) : Nat → Nat → Bool
  | 0, _ => false
  | k + 1, m => match Nat.beq (grow r1 r2 r3 m) m with
    | true => true
    | false => closes r1 r2 r3 k (grow r1 r2 r3 m)
def chk1 (a b : List Nat) : List (List Nat) → Bool
  | [] => true
  | c :: l => match closes a b c 8 1 with
    | true => chk1 a b l
    | false => false
def chk2 (a : List Nat) : List (List Nat) → Bool
  | [] => true
  | b :: l => match chk1 a b (b :: l) with
    | true => chk2 a l
    | false => false
def chk3 : List (List Nat) → Bool
  | [] => true
  | a :: l => match chk2 a (a :: l) with
    | true => chk3 l
    | false => false
def rowsL : List (List Nat) := [[1, 2, 4, 8, 16, 32, 64, 128, 256, 512, 1024, 2048, 4096, 8192, 16384, 32768, 65536, 131072, 262144, 524288, 1048576, 2097152, 4194304, 8388608],
  [2, 1, 8, 4, 32, 16, 128, 64, 512, 256, 2048, 1024, 8192, 4096, 32768, 16384, 131072, 65536, 524288, 262144, 2097152, 1048576, 8388608, 4194304],
  [4, 16, 1, 32, 2, 8, 256, 1024, 64, 2048, 128, 512, 16384, 65536, 4096, 131072, 8192, 32768, 1048576, 4194304, 262144, 8388608, 524288, 2097152],
  [8, 32, 2, 16, 1, 4, 512, 2048, 128, 1024, 64, 256, 32768, 131072, 8192, 65536, 4096, 16384, 2097152, 8388608, 524288, 4194304, 262144, 1048576],
  [16, 4, 32, 1, 8, 2, 1024, 256, 2048, 64, 512, 128, 65536, 16384, 131072, 4096, 32768, 8192, 4194304, 1048576, 8388608, 262144, 2097152, 524288],
  [32, 8, 16, 2, 4, 1, 2048, 512, 1024, 128, 256, 64, 131072, 32768, 65536, 8192, 16384, 4096, 8388608, 2097152, 4194304, 524288, 1048576, 262144],
  [64, 128, 4096, 8192, 262144, 524288, 1, 2, 16384, 32768, 1048576, 2097152, 4, 8, 256, 512, 4194304, 8388608, 16, 32, 1024, 2048, 65536, 131072],
  [128, 64, 8192, 4096, 524288, 262144, 2, 1, 32768, 16384, 2097152, 1048576, 8, 4, 512, 256, 8388608, 4194304, 32, 16, 2048, 1024, 131072, 65536],
  [256, 1024, 16384, 65536, 1048576, 4194304, 4, 16, 4096, 131072, 262144, 8388608, 1, 32, 64, 2048, 524288, 2097152, 2, 8, 128, 512, 8192, 32768],
  [512, 2048, 32768, 131072, 2097152, 8388608, 8, 32, 8192, 65536, 524288, 4194304, 2, 16, 128, 1024, 262144, 1048576, 1, 4, 64, 256, 4096, 16384],
  [1024, 256, 65536, 16384, 4194304, 1048576, 16, 4, 131072, 4096, 8388608, 262144, 32, 1, 2048, 64, 2097152, 524288, 8, 2, 512, 128, 32768, 8192],
  [2048, 512, 131072, 32768, 8388608, 2097152, 32, 8, 65536, 8192, 4194304, 524288, 16, 2, 1024, 128, 1048576, 262144, 4, 1, 256, 64, 16384, 4096],
  [4096, 262144, 64, 524288, 128, 8192, 16384, 1048576, 1, 2097152, 2, 32768, 256, 4194304, 4, 8388608, 8, 512, 1024, 65536, 16, 131072, 32, 2048],
  [8192, 524288, 128, 262144, 64, 4096, 32768, 2097152, 2, 1048576, 1, 16384, 512, 8388608, 8, 4194304, 4, 256, 2048, 131072, 32, 65536, 16, 1024],
  [16384, 1048576, 256, 4194304, 1024, 65536, 4096, 262144, 4, 8388608, 16, 131072, 64, 524288, 1, 2097152, 32, 2048, 128, 8192, 2, 32768, 8, 512],
  [32768, 2097152, 512, 8388608, 2048, 131072, 8192, 524288, 8, 4194304, 32, 65536, 128, 262144, 2, 1048576, 16, 1024, 64, 4096, 1, 16384, 4, 256],
  [65536, 4194304, 1024, 1048576, 256, 16384, 131072, 8388608, 16, 262144, 4, 4096, 2048, 2097152, 32, 524288, 1, 64, 512, 32768, 8, 8192, 2, 128],
  [131072, 8388608, 2048, 2097152, 512, 32768, 65536, 4194304, 32, 524288, 8, 8192, 1024, 1048576, 16, 262144, 2, 128, 256, 16384, 4, 4096, 1, 64],
  [262144, 4096, 524288, 64, 8192, 128, 1048576, 16384, 2097152, 1, 32768, 2, 4194304, 256, 8388608, 4, 512, 8, 65536, 1024, 131072, 16, 2048, 32],
  [524288, 8192, 262144, 128, 4096, 64, 2097152, 32768, 1048576, 2, 16384, 1, 8388608, 512, 4194304, 8, 256, 4, 131072, 2048, 65536, 32, 1024, 16],
  [1048576, 16384, 4194304, 256, 65536, 1024, 262144, 4096, 8388608, 4, 131072, 16, 524288, 64, 2097152, 1, 2048, 32, 8192, 128, 32768, 2, 512, 8],
  [2097152, 32768, 8388608, 512, 131072, 2048, 524288, 8192, 4194304, 8, 65536, 32, 262144, 128, 1048576, 2, 1024, 16, 4096, 64, 16384, 1, 256, 4],
  [4194304, 65536, 1048576, 1024, 16384, 256, 8388608, 131072, 262144, 16, 4096, 4, 2097152, 2048, 524288, 32, 64, 1, 32768, 512, 8192, 8, 128, 2],
  [8388608, 131072, 2097152, 2048, 32768, 512, 4194304, 65536, 524288, 32, 8192, 8, 1048576, 1024, 262144, 16, 128, 2, 16384, 256, 4096, 4, 64, 1]]
theorem rows_eq : rows = rowsL := by decide +kernel
theorem chk_all : chk3 rowsL = true := by decide +kernel
end GD

namespace GD
open GM
theorem img_bit : ∀ (fs : List Nat) (m acc j : Nat), (img (fs.map fun f => 1 <<< f) m acc).testBit j = true ↔ acc.testBit j = true ∨ ∃ i, fs[i]? = some j ∧ m.testBit i = true
  | [], m, acc, j => by simp [img]
  | f :: fs, m, acc, j => by
    rw [List.map_cons, img, img_bit fs]
    have shift : ∀ i, (m / 2).testBit i = m.testBit (i + 1) := fun i => (Nat.testBit_succ m i).symm
    have zero : m.testBit 0 = decide (m % 2 = 1) := Nat.testBit_zero m
    have acc_ : (match m % 2 with | 0 => acc | _ => acc ||| 1 <<< f).testBit j = true ↔ acc.testBit j = true ∨ (f = j ∧ m.testBit 0 = true) := by
      rcases Nat.mod_two_eq_zero_or_one m with e | e
      · rw [e, zero, e]
        simp
      · rw [e, zero, e]
        show (acc ||| 1 <<< f).testBit j = true ↔ _
        rw [Nat.testBit_or, Nat.one_shiftLeft, Nat.testBit_two_pow]
        simp
    refine (or_congr acc_ Iff.rfl).trans ?_
    constructor
    · rintro ((h | ⟨rfl, h⟩) | ⟨i, h1, h2⟩)
      · exact .inl h
      · exact .inr ⟨0, rfl, h⟩
      · exact .inr ⟨i + 1, h1, by rw [← shift]; exact h2⟩
    · rintro (h | ⟨i, h1, h2⟩)
      · exact .inl (.inl h)
      · cases i with
        | zero => exact .inl (.inr ⟨Option.some.inj h1, h2⟩)
        | succ i => exact .inr ⟨i, h1, by rw [shift]; exact h2⟩
def it (r1 r2 r3 : List Nat) (m : Nat) : Nat → Nat
  | 0 => m
  | k + 1 => grow r1 r2 r3 (it r1 r2 r3 m k)
theorem it_in (r1 r2 r3 : List Nat) (m : Nat) : ∀ k, it r1 r2 r3 (grow r1 r2 r3 m) k = it r1 r2 r3 m (k + 1)
  | 0 => rfl
  | k + 1 => by rw [it, it_in r1 r2 r3 m k]; rfl
theorem closes_it {r1 r2 r3 : List Nat} : ∀ (k m : Nat), closes r1 r2 r3 k m = true → ∃ j, j < k ∧ grow r1 r2 r3 (it r1 r2 r3 m j) = it r1 r2 r3 m j
  | 0, _, h => by cases h
  | k + 1, m, h => by
    rw [closes] at h
    cases e : Nat.beq (grow r1 r2 r3 m) m with
    | true => exact ⟨0, Nat.succ_pos k, Nat.eq_of_beq_eq_true e⟩
    | false =>
      rw [e] at h
      obtain ⟨j, hj, q⟩ := closes_it k _ h
      rw [it_in] at q
      exact ⟨j + 1, by omega, q⟩
theorem chk1_at {a b : List Nat} : ∀ {l : List (List Nat)}, chk1 a b l = true → ∀ c ∈ l, closes a b c 8 1 = true
  | x :: l, h, c, m => by
    rw [chk1] at h
    cases e : closes a b x 8 1 with
    | false => rw [e] at h; cases h
    | true =>
      rw [e] at h
      rcases List.mem_cons.mp m with rfl | m
      · exact e
      · exact chk1_at h c m
theorem chk2_at {a : List Nat} : ∀ {l : List (List Nat)}, chk2 a l = true → ∀ {i j : Nat} {b c : List Nat}, l[i]? = some b → l[j]? = some c → i ≤ j → closes a b c 8 1 = true
  | x :: l, h, i, j, b, c, hb, hc, le => by
    rw [chk2] at h
    cases e : chk1 a x (x :: l) with
    | false => rw [e] at h; cases h
    | true =>
      rw [e] at h
      cases i with
      | zero =>
        obtain rfl : x = b := Option.some.inj hb
        exact chk1_at e c (List.mem_of_getElem? hc)
      | succ i =>
        cases j with
        | zero => omega
        | succ j => exact chk2_at h (i := i) (j := j) hb hc (by omega)
theorem chk3_at : ∀ {l : List (List Nat)}, chk3 l = true → ∀ {i j k : Nat} {a b c : List Nat}, l[i]? = some a → l[j]? = some b → l[k]? = some c → i ≤ j → j ≤ k → closes a b c 8 1 = true
  | x :: l, h, i, j, k, a, b, c, ha, hb, hc, l1, l2 => by
    rw [chk3] at h
    cases e : chk2 x (x :: l) with
    | false => rw [e] at h; cases h
    | true =>
      rw [e] at h
      cases i with
      | zero =>
        obtain rfl : x = a := Option.some.inj ha
        exact chk2_at e hb hc l2
      | succ i =>
        cases j with
        | zero => omega
        | succ j =>
          cases k with
          | zero => omega
          | succ k => exact chk3_at h (i := i) (j := j) (k := k) ha hb hc (by omega) (by omega)
theorem p4_len : P4.length = 24 := by decide +kernel
theorem rank_at : (List.range 24).all (fun i => rank (P4.getD i []) == i) = true := by decide +kernel
theorem p4_zero : P4[0]? = some (idn 4) := by decide +kernel
theorem rank_of {i : Nat} {o : List Int} (h : P4[i]? = some o) : rank o = i := by
  obtain ⟨hi, e⟩ := List.getElem?_eq_some_iff.mp h
  rw [p4_len] at hi
  have z := List.all_eq_true.mp rank_at i (List.mem_range.mpr hi)
  rw [List.getD_eq_getElem?_getD, h] at z
  exact beq_iff_eq.mp z
theorem p4_at {o : List Int} (h : o.Perm (idn 4)) : P4[rank o]? = some o := by
  obtain ⟨i, hi, e⟩ := List.getElem_of_mem (mem_orders h)
  have z : P4[i]? = some o := by
    show (orders 4)[i]? = some o
    rw [List.getElem?_eq_getElem hi, e]
  rw [rank_of z]
  exact z
theorem p4_perm {i : Nat} {o : List Int} (h : P4[i]? = some o) : o.Perm (idn 4) := by
  have m : o ∈ orders 4 := List.mem_of_getElem? h
  have all : (orders 4).all (fun o => o.isPerm (idn 4)) = true := by decide +kernel
  exact List.isPerm_iff.mp (List.all_eq_true.mp all o m)
theorem rows_at {j : Nat} (h : j < 24) : rowsL[j]? = some (row j) := by
  rw [← rows_eq]
  unfold rows
  rw [List.getElem?_map, List.getElem?_range h] <;> rfl
/-- a bit of an image -/
theorem row_bit {j : Nat} {t : List Int} (ht : P4[j]? = some t) (m k : Nat) : (img (row j) m 0).testBit k = true ↔ ∃ i o, P4[i]? = some o ∧ m.testBit i = true ∧ rank (mv o t) = k := by
  have e : row j = (P4.map fun o => rank (mv o t)).map fun f => 1 <<< f := by
    unfold row
    rw [List.map_map, List.getD_eq_getElem?_getD, ht] <;> rfl
  rw [e, img_bit]
  constructor
  · rintro (h | ⟨i, h1, h2⟩)
    · simp at h
    · rw [List.getElem?_map] at h1
      cases q : P4[i]? with
      | none => rw [q] at h1; cases h1
      | some o => rw [q] at h1; exact ⟨i, o, q, h2, Option.some.inj h1⟩
  · rintro ⟨i, o, h1, h2, rfl⟩
    exact .inr ⟨i, by rw [List.getElem?_map, h1]; rfl, h2⟩
end GD

namespace GD
open GM
theorem it_ball {T : List Turn} {a b c : Nat} {ta tb tc : List Int} (ha : P4[a]? = some ta) (hb : P4[b]? = some tb) (hc : P4[c]? = some tc) (hs : ∀ t ∈ T, t.2 = 1 ∧ (t.1 = ta ∨ t.1 = tb ∨ t.1 = tc)) (ma : (ta, 1) ∈ T) (mb : (tb, 1) ∈ T) (mc : (tc, 1) ∈ T) :
    ∀ k i, (it (row a) (row b) (row c) 1 k).testBit i = true ↔ ∃ o, P4[i]? = some o ∧ Ball 4 T k (o, 1)
  | 0, i => by
    have e : (1 : Nat).testBit i = decide (0 = i) := by
      have := Nat.testBit_two_pow (n := 0) (m := i)
      simpa using this
    show (1 : Nat).testBit i = true ↔ _
    rw [e, decide_eq_true_eq]
    constructor
    · rintro rfl
      exact ⟨_, p4_zero, rfl⟩
    · rintro ⟨o, ho, h⟩
      obtain rfl : o = idn 4 := congrArg Prod.fst h
      rw [← rank_of ho, rank_of p4_zero]
  | k + 1, i => by
    have ih := it_ball ha hb hc hs ma mb mc k
    show (grow (row a) (row b) (row c) (it (row a) (row b) (row c) 1 k)).testBit i = true ↔ _
    unfold grow
    rw [Nat.testBit_or, Nat.testBit_or, Nat.testBit_or, Bool.or_eq_true, Bool.or_eq_true, Bool.or_eq_true, row_bit ha, row_bit hb, row_bit hc, ih i]
    have one : ∀ {t : List Int} {j : Nat}, P4[j]? = some t → (t, 1) ∈ T → (∃ i' o, P4[i']? = some o ∧ (it (row a) (row b) (row c) 1 k).testBit i' = true ∧ rank (mv o t) = i) → ∃ o, P4[i]? = some o ∧ Ball 4 T (k + 1) (o, 1) := by
      rintro t j ht mt ⟨i', o, h1, h2, rfl⟩
      obtain ⟨o', h3, h4⟩ := (ih i').mp h2
      obtain rfl : o = o' := Option.some.inj (h1.symm.trans h3)
      exact ⟨_, p4_at (mv_perm (p4_perm h1) (p4_perm ht)), .inr ⟨(o, 1), (t, 1), h4, mt, rfl⟩⟩
    constructor
    · rintro (⟨o, h1, h2⟩ | h | h | h)
      · exact ⟨o, h1, .inl h2⟩
      · exact one ha ma h
      · exact one hb mb h
      · exact one hc mc h
    · rintro ⟨o, h1, h2 | ⟨q, t, h2, h3, h4⟩⟩
      · exact .inl ⟨o, h1, h2⟩
      · obtain ⟨q1, q2⟩ := q
        obtain ⟨t2, t1⟩ := hs t h3
        have e1 : o = mv q1 t.1 := congrArg Prod.fst h4
        have e2 : (1 : Int) = q2 * t.2 := congrArg Prod.snd h4
        rw [t2, Int.mul_one] at e2
        subst e2
        have are : Are 4 T := fun u mu => by
          obtain ⟨u2, u1⟩ := hs u mu
          refine ⟨?_, .inl u2⟩
          rcases u1 with e | e | e
          · rw [e]; exact p4_perm ha
          · rw [e]; exact p4_perm hb
          · rw [e]; exact p4_perm hc
        have hq := p4_at (h2.reach.are are).1
        have bit := (ih _).mpr ⟨q1, hq, h2⟩
        have rk : rank (mv q1 t.1) = i := by rw [← e1]; exact rank_of h1
        rcases t1 with e | e | e
        · exact .inr (.inl ⟨_, q1, hq, bit, by rw [← e]; exact rk⟩)
        · exact .inr (.inr (.inl ⟨_, q1, hq, bit, by rw [← e]; exact rk⟩))
        · exact .inr (.inr (.inr ⟨_, q1, hq, bit, by rw [← e]; exact rk⟩))
/-- signs of one alone -/
theorem ones {n : Nat} {T : List Turn} (h : ∀ t ∈ T, t.2 = 1) {k : Nat} : ∀ {p : Turn}, Ball n T k p → p.2 = 1 := by
  induction k with
  | zero => intro p e; rw [show p = (idn n, 1) from e]
  | succ k ih =>
    rintro p (e | ⟨q, t, e, m, rfl⟩)
    · exact ih e
    · show q.2 * t.2 = 1
      rw [ih e, h t m]
      rfl
theorem depth3 {T : List Turn} {a b c : Nat} {ta tb tc : List Int} (ha : P4[a]? = some ta) (hb : P4[b]? = some tb) (hc : P4[c]? = some tc) (l1 : a ≤ b) (l2 : b ≤ c) (hs : ∀ t ∈ T, t.2 = 1 ∧ (t.1 = ta ∨ t.1 = tb ∨ t.1 = tc)) (ma : (ta, 1) ∈ T) (mb : (tb, 1) ∈ T) (mc : (tc, 1) ∈ T) {o : List Int} {s : Int} (r : Reach 4 T o s) : Ball 4 T 7 (o, s) := by
  have lt : ∀ {j : Nat} {t : List Int}, P4[j]? = some t → j < 24 := fun h => by
    have := (List.getElem?_eq_some_iff.mp h).1
    rwa [p4_len] at this
  have ok := chk3_at chk_all (rows_at (lt ha)) (rows_at (lt hb)) (rows_at (lt hc)) l1 l2
  obtain ⟨j, hj, e⟩ := closes_it _ _ ok
  have all := it_ball ha hb hc hs ma mb mc
  have are : Are 4 T := fun u mu => by
    obtain ⟨u2, u1⟩ := hs u mu
    refine ⟨?_, .inl u2⟩
    rcases u1 with e | e | e
    · rw [e]; exact p4_perm ha
    · rw [e]; exact p4_perm hb
    · rw [e]; exact p4_perm hc
  have stop : ∀ p, Ball 4 T (j + 1) p → Ball 4 T j p := fun p bp => by
    obtain ⟨o', s'⟩ := p
    obtain rfl : s' = 1 := ones (fun t m => (hs t m).1) bp
    have at_ := p4_at (bp.reach.are are).1
    have bit := (all (j + 1) _).mpr ⟨o', at_, bp⟩
    rw [it, e] at bit
    obtain ⟨o2, h1, h2⟩ := (all j _).mp bit
    obtain rfl : o' = o2 := Option.some.inj (at_.symm.trans h1)
    exact h2
  exact (Ball.stop stop (p := (o, s)) r).le (by omega)
theorem depth4 {T : List Turn} (are : Are 4 T) (h1 : ∀ t ∈ T, t.2 = 1) (few : T.length ≤ 3) {o : List Int} {s : Int} (r : Reach 4 T o s) : Ball 4 T 7 (o, s) := by
  have main : ∀ x y z : Turn, x ∈ T → y ∈ T → z ∈ T → (∀ t ∈ T, t = x ∨ t = y ∨ t = z) → Ball 4 T 7 (o, s) := by
    intro x y z mx my mz all
    have hx := p4_at (are x mx).1
    have hy := p4_at (are y my).1
    have hz := p4_at (are z mz).1
    have fx : (x.1, (1 : Int)) ∈ T := by rw [← h1 x mx]; exact mx
    have fy : (y.1, (1 : Int)) ∈ T := by rw [← h1 y my]; exact my
    have fz : (z.1, (1 : Int)) ∈ T := by rw [← h1 z mz]; exact mz
    have hs : ∀ t ∈ T, t.2 = 1 ∧ (t.1 = x.1 ∨ t.1 = y.1 ∨ t.1 = z.1) := fun t m => ⟨h1 t m, by
      rcases all t m with rfl | rfl | rfl
      · exact .inl rfl
      · exact .inr (.inl rfl)
      · exact .inr (.inr rfl)⟩
    rcases Nat.le_total (rank x.1) (rank y.1) with a | a <;> rcases Nat.le_total (rank y.1) (rank z.1) with b | b <;> rcases Nat.le_total (rank x.1) (rank z.1) with c | c
    · exact depth3 hx hy hz a b hs fx fy fz r
    · exact depth3 hx hy hz a b hs fx fy fz r
    · exact depth3 hx hz hy c b (fun t m => ⟨(hs t m).1, by rcases (hs t m).2 with e | e | e <;> simp [e]⟩) fx fz fy r
    · exact depth3 hz hx hy c a (fun t m => ⟨(hs t m).1, by rcases (hs t m).2 with e | e | e <;> simp [e]⟩) fz fx fy r
    · exact depth3 hy hx hz a c (fun t m => ⟨(hs t m).1, by rcases (hs t m).2 with e | e | e <;> simp [e]⟩) fy fx fz r
    · exact depth3 hy hz hx b c (fun t m => ⟨(hs t m).1, by rcases (hs t m).2 with e | e | e <;> simp [e]⟩) fy fz fx r
    · exact depth3 hz hy hx b a (fun t m => ⟨(hs t m).1, by rcases (hs t m).2 with e | e | e <;> simp [e]⟩) fz fy fx r
    · exact depth3 hz hy hx b a (fun t m => ⟨(hs t m).1, by rcases (hs t m).2 with e | e | e <;> simp [e]⟩) fz fy fx r
  match T, few, main, r with
  | [], _, _, r =>
    cases r with
    | one => exact Ball.le (k := 0) rfl (Nat.zero_le _)
    | step _ m => cases m
  | [x], _, main, _ => exact main x x x (by simp) (by simp) (by simp) (by simp)
  | [x, y], _, main, _ => exact main x y y (by simp) (by simp) (by simp) (by simp)
  | [x, y, z], _, main, _ => exact main x y z (by simp) (by simp) (by simp) (by simp)
  | _ :: _ :: _ :: _ :: _, few, _, _ => simp only [List.length_cons] at few; omega
end GD

namespace GM
theorem orders_six {n : Nat} (h : n ≤ 3) : (orders n).length ≤ 6 := by
  match n, h with
  | 0, _ => decide +kernel
  | 1, _ => decide +kernel
  | 2, _ => decide +kernel
  | 3, _ => decide +kernel
/-- where all signs are 1, seven rounds are enough -/
theorem depth_one {n : Nat} {T : List Turn} (hn : n ≤ 4) (are : Are n T) (h1 : ∀ t ∈ T, t.2 = 1) (few : T.length ≤ 3) {o : List Int} {s : Int} (r : Reach n T o s) : Ball n T 7 (o, s) := by
  by_cases n4 : n = 4
  · subst n4
    exact GD.depth4 are h1 few r
  · have n3 : n ≤ 3 := by omega
    rcases ball_grows (n := n) (T := T) 6 with ⟨j, hj, h⟩ | ⟨L, nd, sub, len⟩
    · exact (Ball.stop h (p := (o, s)) r).le (by omega)
    · have keys : (L.map Prod.fst).Nodup := by
        have : ∀ M : List Turn, M.Nodup → (∀ p ∈ M, p.2 = 1) → (M.map Prod.fst).Nodup := by
          intro M
          induction M with
          | nil => intro _ _; exact List.nodup_nil
          | cons a M ih =>
            intro nd ok
            rw [List.nodup_cons] at nd
            rw [List.map_cons, List.nodup_cons]
            refine ⟨fun m => ?_, ih nd.2 fun p mp => ok p (List.mem_cons_of_mem _ mp)⟩
            obtain ⟨b, hb, e⟩ := List.mem_map.mp m
            have e2 : b.2 = a.2 := (ok b (List.mem_cons_of_mem _ hb)).trans (ok a List.mem_cons_self).symm
            exact nd.1 ((Prod.ext e e2 : b = a) ▸ hb)
        exact this L nd fun p m => GD.ones h1 (sub p m)
      have z := nodup_few (L.map Prod.fst) (orders n) keys fun o m => by
        obtain ⟨p, hp, rfl⟩ := List.mem_map.mp m
        exact mem_orders ((sub p hp).reach.are are).1
      rw [List.length_map] at z
      have := orders_six n3
      omega
/-- the same turns without their signs -/
def flat (T : List Turn) : List Turn := T.map fun t => (t.1, 1)
theorem flat_are {n : Nat} {T : List Turn} (h : Are n T) : Are n (flat T) := fun t m => by
  obtain ⟨u, hu, rfl⟩ := List.mem_map.mp m
  exact ⟨(h u hu).1, .inl rfl⟩
theorem reach_flat {n : Nat} {T : List Turn} {o : List Int} {s : Int} (r : Reach n T o s) : Reach n (flat T) o 1 := by
  induction r with
  | one => exact .one
  | @step o s t r m ih =>
    have z := Reach.step ih (List.mem_map.mpr ⟨t, m, rfl⟩ : ((t.1, (1 : Int)) : Turn) ∈ flat T)
    exact z
theorem flat_ball {n : Nat} {T : List Turn} : ∀ {k : Nat} {p : Turn}, Ball n (flat T) k p → ∃ s, Ball n T k (p.1, s)
  | 0, p, h => ⟨1, by rw [show p = (idn n, 1) from h]; exact rfl⟩
  | k + 1, p, h => by
    rcases h with h | ⟨q, t, h, m, rfl⟩
    · obtain ⟨s, z⟩ := flat_ball h
      exact ⟨s, .inl z⟩
    · obtain ⟨s, z⟩ := flat_ball h
      obtain ⟨u, hu, rfl⟩ := List.mem_map.mp m
      exact ⟨s * u.2, .inr ⟨(q.1, s), u, z, hu, rfl⟩⟩
theorem sign_in {n : Nat} {T : List Turn} (hn : n ≤ 4) (are : Are n T) (few : T.length ≤ 3) {o : List Int} {s : Int} (r : Reach n T o s) : ∃ g, Ball n T 7 (o, g) := by
  have z := depth_one hn (flat_are are) (fun t m => by obtain ⟨u, _, rfl⟩ := List.mem_map.mp m; rfl) (by unfold flat; rw [List.length_map]; exact few) (reach_flat r)
  exact flat_ball z
theorem Ball.mul {n : Nat} {T : List Turn} (are : Are n T) {a : Nat} {p : Turn} (hp : Ball n T a p) : ∀ {b : Nat} {q : Turn}, Ball n T b q → Ball n T (a + b) (mv p.1 q.1, p.2 * q.2)
  | 0, q, h => by
    have pr := (hp.reach.are are).1
    have l : p.1.length = n := by rw [pr.length_eq, idn_len]
    have e := mv_idn p.1
    rw [l] at e
    rw [show q = (idn n, 1) from h]
    show Ball n T (a + 0) (mv p.1 (idn n), p.2 * 1)
    rw [e, Int.mul_one]
    exact hp
  | b + 1, q, h => by
    rcases h with h | ⟨u, t, h, m, rfl⟩
    · exact .inl (Ball.mul are hp h)
    · refine .inr ⟨_, t, Ball.mul are hp h, m, ?_⟩
      show ((mv p.1 (mv u.1 t.1), p.2 * (u.2 * t.2)) : Turn) = (mv (mv p.1 u.1) t.1, p.2 * u.2 * t.2)
      rw [mv_mv (fits_perm (h.reach.are are).1 (are t m).1), Int.mul_assoc]
def pw (n : Nat) (o : List Int) : Nat → List Int
  | 0 => idn n
  | k + 1 => mv (pw n o k) o
theorem pw_reach {n : Nat} {T : List Turn} (are : Are n T) {o : List Int} {s : Int} (r : Reach n T o s) : ∀ k, ∃ g, Reach n T (pw n o k) g
  | 0 => ⟨1, .one⟩
  | k + 1 => by
    obtain ⟨g, h⟩ := pw_reach are r k
    exact ⟨g * s, h.mul are r⟩
theorem back_all : ∀ n, n ≤ 4 → (orders n).all (fun o => mv o (pw n o 11) == idn n) = true
  | 0, _ => by decide +kernel
  | 1, _ => by decide +kernel
  | 2, _ => by decide +kernel
  | 3, _ => by decide +kernel
  | 4, _ => by decide +kernel
/-- where an order has two signs, the identity with -1 is met -/
theorem ball_neg {n : Nat} {T : List Turn} (hn : n ≤ 4) (are : Are n T) (few : T.length ≤ 3) (no : ¬ Single n T) : Ball n T 24 (idn n, -1) := by
  by_cases hit : Ball n T 24 (idn n, -1)
  · exact hit
  · refine absurd ?_ no
    have same : ∀ {o : List Int} {s : Int}, Reach n T o s → ∀ g, Ball n T 7 (o, g) → g = s := by
      intro o s r
      induction r with
      | one =>
        intro g h
        rcases (h.reach.are are).2 with e | e
        · exact e
        · exact absurd (h.le (j := 24) (by omega)) (by rw [show g = -1 from e]; exact hit)
      | @step o s t r m ih =>
        intro g h
        obtain ⟨g0, h0⟩ := sign_in hn are few r
        obtain rfl := ih g0 h0
        have long : Ball n T 8 (mv o t.1, g0 * t.2) := .inr ⟨(o, g0), t, h0, m, rfl⟩
        obtain ⟨x, hx⟩ := pw_reach are h.reach 11
        obtain ⟨y, hy⟩ := sign_in hn are few hx
        have back : mv (mv o t.1) (pw n (mv o t.1) 11) = idn n := beq_iff_eq.mp (List.all_eq_true.mp (back_all n hn) _ (mem_orders (h.reach.are are).1))
        have b1 := (h.mul are hy).le (j := 24) (by omega)
        have b2 := (long.mul are hy).le (j := 24) (by omega)
        change Ball n T 24 (mv (mv o t.1) (pw n (mv o t.1) 11), g * y) at b1
        change Ball n T 24 (mv (mv o t.1) (pw n (mv o t.1) 11), g0 * t.2 * y) at b2
        rw [back] at b1 b2
        have n1 : g * y ≠ -1 := fun e => hit (e ▸ b1)
        have n2 : g0 * t.2 * y ≠ -1 := fun e => hit (e ▸ b2)
        have sg : g = 1 ∨ g = -1 := (h.reach.are are).2
        have sl : g0 * t.2 = 1 ∨ g0 * t.2 = -1 := (long.reach.are are).2
        have sy : y = 1 ∨ y = -1 := (hy.reach.are are).2
        generalize g0 * t.2 = z at n2 sl ⊢
        rcases sg with rfl | rfl <;> rcases sl with rfl | rfl <;> rcases sy with rfl | rfl <;> first | rfl | exact absurd rfl n1 | exact absurd rfl n2
    intro o s s' a b
    obtain ⟨g, h⟩ := sign_in hn are few a
    exact (same a g h).symm.trans (same b g h)
end GM

namespace S16
open PySem L2 GM
open PySem.W (EachIs)
/-- a turn has no list in it -/
theorem TurnS.pot {H H' : Hp} {v : V} {p : Turn} {l : Addr} (pl : PotAt H l) (e : SameX l H H') (h : TurnS H v p) : TurnS H' v p := by
  obtain ⟨x, y, el, _⟩ := pl
  obtain ⟨t, u, rfl, h1, h2⟩ := h
  exact ⟨t, u, rfl, e _ _ (ne_of h1 el (fun z => by cases z)) h1, e _ _ (ne_of h2 el (fun z => by cases z)) h2⟩
theorem TurnsS.pot {H H' : Hp} {vs : List V} {ps : List Turn} {l : Addr} (pl : PotAt H l) (e : SameX l H H') (h : TurnsS H vs ps) : TurnsS H' vs ps := h.mono fun _ _ z => z.pot pl e
theorem GroupAt.pot {H H' : Hp} {a l : Addr} {L : List Turn} (pl : PotAt H l) (ne : a ≠ l) (e : SameX l H H') (h : GroupAt H a L) : GroupAt H' a L := by
  obtain ⟨vs, h1, h2⟩ := h
  exact ⟨vs, e _ _ ne h1, TurnsS.pot pl e h2⟩
theorem each_at {α β : Type} {R : α → β → Prop} {as : List α} {bs : List β} (h : EachIs R as bs) {a : α} (m : a ∈ as) : ∃ b ∈ bs, R a b := by
  obtain ⟨i, hi, e⟩ := List.getElem_of_mem m
  obtain ⟨b, hb, r⟩ := each_get h (i := i) (a := a) (by rw [List.getElem?_eq_getElem hi, e])
  exact ⟨b, List.mem_of_getElem? hb, r⟩
section
variable {P : Program} {w : World} {K : PySem.W.Frag} {mg : Str → Option Value} {base : Heap}
/-! ### _law_others -/
def spOthers : Sp := fun vs H Q _ => ∃ (l a g : Addr) (ss : List Str) (L : List Turn), vs = [.ref l, .ref a, .ref g] ∧ PotAt H l ∧ TextsS H a ss ∧ a ≠ l ∧ GroupAt H g L ∧ g ≠ l ∧ ss.length ≤ 4 ∧ Are ss.length L ∧ 1 ≤ L.length ∧ L.length ≤ 100 ∧
  (∀ H', SameX l H H' → PotAt H' l → Q .non H') ∧
  ∀ H' r M, SameX l H H' → PotAt H' l → H r = none → GroupAt H' r M → M.length = 3 → (∀ p ∈ M, p ∈ L) → (∀ p, p ∈ L ↔ Ball ss.length M 24 p) → Q (.ref r) H'
abbrev nOthers : List Str := ["_law_pot_here", "_law_slots", "_law_group_here", "_law_some", "_law_turn"]
theorem scOthers : FnScope nOthers ["_law_pot_here", "_law_slots", "_law_group_here"] (defScope sOthers) := ⟨rfl, rfl, rfl, by decide +kernel, rfl, by decide +kernel, by decide +kernel⟩
theorem ok_others {f : Addr} {fd : FuncData} (F : Fun K "_law_others" "_law_others" sOthers f fd) (B : Bn mg) (DP : Df P w K mg base "_law_pick" ["_law_pot_here", "_law_some"] 2 spPick) (DG : Df P w K mg base "_law_group" ["_law_slots", "_law_turns_here"] 1 spGroup) :
    FnOk P w K mg base CX0 3 f fd ["_law_pot_here", "_law_slots", "_law_group_here"] spOthers := by
  refine F.ok scOthers (fun vs H Q E h => ?_) (fun cdv A outer s H vs Q E hr h => ?_)
  · obtain ⟨l, a, g, ss, L, rfl, _⟩ := h
    rfl
  · obtain ⟨l, a, g, ss, L, rfl, pot, ha, nal, ⟨gv, hg, hgt⟩, ngl, n4, are, l1, l100, qn, qs⟩ := h
    have hu := hr.units
    have h1 : Room 1 _ := hr.mono (by decide)
    refine ⟨_, pss_cons (ps_setLc (i := 3) (own := [("_law_turn", 4)]) (g := gName 4) (tt := tYes) (te := tCall spPick [] E0 (tCons (tVar 0) (tCons (tVar 2) tNil))) (by rfl) scOthers.nd rfl rfl (sw_true rfl rfl rfl rfl) (pi_range1 (by rfl) B.range (pa_cons pe_int pa_nil))
        (blkOk_by (own := [("_law_turn", 4)]) (N := nOthers) (sc := defScope sOthers) (by decide +kernel)) (fun _ _ _ _ _ => pg_name (i := 4) scOthers.nd rfl (Or.inl rfl)) (fun _ _ _ _ _ => pts_nil)
        (fun _ _ _ _ _ => pe_df DP hr (by rfl) (pa_cons (pv 0) (pa_cons (pv 2) pa_nil))))
      (pss_one (ps_ret (pe_ifExp (pt_cmpR (op_eqD hu) (pe_df DG h1 (by rfl) (pa_cons (pv 1) (pa_cons (pv 3) pa_nil))) (pv 2) (nomark _)) (pv 3) pe_non))), ?_⟩
    have gl : gv.length = L.length := EachIs.length hgt
    refine ⟨3, rfl, by decide, by decide, fun D hD => ?_⟩
    have nDl : D ≠ l := pot.ne hD
    refine lc_it (walk_range (lo := 0) (n := 3)) (fun i G => SameX l H G ∧ PotAt G l ∧ ∃ vs M, G D = some (.lst vs) ∧ TurnsS G vs M ∧ M.length = i ∧ ∀ p ∈ M, p ∈ L) ⟨SameX.of (sNew (Same.refl H) hD), pot.same (sNew (Same.refl H) hD), [], [], upd_same, .nil, rfl, by simp⟩ (fun _ _ _ _ => trivial) ?_ ?_
    · rintro i v _ G hi ⟨sx, pg, vs, M, hvs, tvs, ml, sub⟩ ⟨rfl, rfl⟩
      refine ⟨rfl, _, rfl, _, rfl, l, g, gv, rfl, pg, sx _ _ ngl hg, ngl, by omega, by omega, fun G2 v sx2 pg2 hv => ?_⟩
      obtain ⟨p, hp, tp⟩ := each_at (TurnsS.pot pot sx hgt) hv
      have hvs2 := sx2 _ _ nDl hvs
      have vl : vs.length = M.length := EachIs.length tvs
      refine ⟨vs, hvs2, lt_line (by omega), fun b o nb e => ?_, pg2.put nDl.symm, vs ++ [v], M ++ [p], upd_same, each_snoc ((TurnsS.pot pg sx2 tvs).mono fun _ _ h => h.put hvs2) ((tp.pot pg sx2).put hvs2), by rw [List.length_append, ml]; rfl, fun q hq => ?_⟩
      · rw [upd_ne (ne_of_none e hD)]
        exact sx2 _ _ nb (sx _ _ nb e)
      · rcases List.mem_append.mp hq with m | m
        · exact sub q m
        · rw [List.mem_singleton.mp m]; exact hp
    · rintro G ⟨sx, pg, vs, M, hvs, tvs, ml, sub⟩
      have areM : Are ss.length M := fun p m => are p (sub p m)
      have haG : TextsS G a ss := ha.imp (sx _ _ nal) (sx _ _ nal)
      refine ⟨_, rfl, _, rfl, a, D, ss, M, rfl, haG, n4, ⟨vs, hvs, tvs⟩, areM, by omega, fun G2 r L2 s2 hr2 grp srt nd ball => ?_⟩
      have grpG : GroupAt G2 g L := ⟨gv, s2 _ _ (sx _ _ ngl hg), TurnsS.same s2 (TurnsS.pot pot sx hgt)⟩
      have sx2 : SameX l H G2 := SameX.same sx s2
      refine ⟨_, rfl, _, _, grp.dp, grpG.dp, sh_turns _, sh_turns _, _, rfl, ?_⟩
      rw [eqv_turnsL]
      by_cases e : L2 = L
      · rw [decide_eq_true e]
        subst e
        exact iteT ⟨_, rfl, qs G2 D M sx2 (pg.same s2) hD ⟨vs, s2 _ _ hvs, TurnsS.same s2 tvs⟩ ml sub ball⟩
      · rw [decide_eq_false e]
        exact iteF (qn G2 sx2 (pg.same s2))
end
end S16

namespace S16
open PySem L2 GM
open PySem.W (EachIs)
/-- a def of the module by its name, told where no repr is under way -/
structure DfG (P : Program) (w : World) (K : PySem.W.Frag) (mg : Str → Option Value) (base : Heap) (x : Str) (ps : List Str) (k : Nat) (sp : Sp) : Prop where
  ex : ∃ f fd, mg x = some (.ref f) ∧ PySem.W.keepIn K (.ref f) = true ∧ Binds K fd ps [] ∧ FnG P w K mg base CX0 k f fd ps sp
theorem pe_dfG {X : Cx} {x : Str} {ps : List Str} {k : Nat} {sp : Sp} {e : Expr} {es : List Expr} {t : TA} {p pos : Pos} (D : DfG X.prog X.w X.K X.mg X.base x ps k sp) (gd : X.A.guards = some []) (hr : Room k X.A) (hg : Gl X x) (ha : PA X (e :: es) t)
    (hdb : (x == ("__debug__" : Str)) = false := by decide) (hst : starEach (e :: es) X.env = (false, eval e X.env) :: starEach es X.env := by rfl) (hpl : (backTo pos (starEach es X.env)).any (·.1) = false := by rfl) :
    PE X (.Call (.Name x p) (e :: es) [] pos) (tCall sp [] E0 t) := by
  obtain ⟨f, fd, hm, kp, b, F⟩ := D.ex
  exact pe_callG F gd hr hg hm kp b .nil pass0 ha (hdb := hdb) (he := hst) (hpl := hpl)
section
variable {P : Program} {w : World} {K : PySem.W.Frag} {mg : Str → Option Value} {base : Heap}
/-! ### law; what _law_right is to promise -/
def spRight : Sp := fun vs H Q _ => ∃ l : Addr, vs = [.ref l] ∧ PotAt H l ∧ ∀ H', SameX l H H' → PotAt H' l → Q (.bl true) H'
def spLaw (K : PySem.W.Frag) : Sp := fun vs H Q _ => ∃ (a : Addr) (ns : List Int), vs = [.ref a] ∧ SqL K H a (ns.map V.int) ∧ ns.length ≤ 63 ∧ ∀ H', Q (.bl true) H'
abbrev nLaw : List Str := ["_law_script", "_law_k", "_law_pot_here", "_law_turn"]
theorem scLaw : FnScope nLaw ["_law_script"] (defScope sLaw) := ⟨rfl, rfl, rfl, by decide +kernel, rfl, by decide +kernel, by decide +kernel⟩
theorem ok_law {f : Addr} {fd : FuncData} (F : Fun K "law" "law" sLaw f fd) (B : Bn mg) (DP : Df P w K mg base "_law_pot" ["_law_script", "_law_k"] 1 (spPot K)) (DR : DfG P w K mg base "_law_right" ["_law_pot_here"] 12 spRight) : FnG P w K mg base CX0 13 f fd ["_law_script"] (spLaw K) := by
  refine F.okG scLaw (fun vs H Q E h => ?_) (fun cdv A outer s H vs Q E gd hr h => ?_)
  · obtain ⟨a, ns, rfl, _⟩ := h
    rfl
  · obtain ⟨a, ns, rfl, ha, hlen, q⟩ := h
    have h1 : Room 1 _ := hr.mono (by decide)
    have dg : (A.deeper (PyProof.Rows.envOfC "law" (defScope sLaw) s.heap.objs.size f cdv)).guards = some [] := deeper_guards.trans gd
    refine ⟨_, pss_cons (ps_for PassesOwn.never rfl (pi_range1 (by rfl) B.range (pa_cons (pe_callB (call_max2 rfl) (by rfl) B.max (by decide +kernel) (pa_cons pe_int (pa_cons (pe_callB (call_min2 rfl) (by rfl) B.min (by decide +kernel) (pa_cons (pe_callB call_len_seq (by rfl) B.len PySem.boot_len (pa_cons (pv 0) pa_nil)) (pa_cons pe_int pa_nil))) pa_nil))) pa_nil)) (pg_name (i := 1) scLaw.nd rfl (Or.inl rfl))
        (pss_cons (ps_set (i := 2) scLaw.nd rfl (Or.inr rfl) (pe_df DP h1 (by rfl) (pa_cons (pv 0) (pa_cons (pv 1) pa_nil))))
        (pss_one (ps_if (pt_not (pt_val (pe_callB (cr_all rfl) (by rfl) B.all (by decide +kernel) (pa_cons (pe_lc (own := [("_law_turn", 3)]) (g := gName 3) (tt := tYes) (te := tCall spRight [] E0 (tCons (tVar 2) tNil)) (by rfl) scLaw.nd (pi_range1 (by rfl) B.range (pa_cons pe_int pa_nil))
          (blkOk_by (own := [("_law_turn", 3)]) (N := nLaw) (sc := defScope sLaw) (by decide +kernel)) (fun _ _ _ _ _ => pg_name (i := 3) scLaw.nd rfl (Or.inl rfl)) (fun _ _ _ _ _ => pts_nil) (fun _ _ _ _ _ => pe_dfG DR dg hr (by rfl) (pa_cons (pv 2) pa_nil))) pa_nil)))) (pss_one (ps_ret pe_bl)) pss_nil))))
      (pss_one (ps_ret pe_bl)), ?_⟩
    refine ⟨_, rfl, a, _, rfl, .inl ha, _, _, rfl, _, _, rfl, ?_⟩
    obtain ⟨kk, hkk⟩ : ∃ kk : Int, kk = (if (if (4 : Int) < (((ns.map V.int).length : Nat) : Int) then 4 else (((ns.map V.int).length : Nat) : Int)) > 1 then (if (4 : Int) < (((ns.map V.int).length : Nat) : Int) then 4 else (((ns.map V.int).length : Nat) : Int)) else 1) := ⟨_, rfl⟩
    have hk4 : 1 ≤ kk ∧ kk ≤ 4 := by
      rw [hkk]; split <;> split <;> omega
    refine ⟨kk, by rw [hkk], by omega, by omega, for_it (walk_range (lo := 0) (n := kk.toNat)) (fun i σ G => Same H G ∧ ∃ y1 y2, σ = [some (.ref a), y1, y2, none]) ⟨Same.refl H, none, none, rfl⟩ (fun _ _ _ _ _ => True.intro) ?_ ?_⟩
    · rintro i v σ _ G hi ⟨s1, y1, y2, rfl⟩ ⟨rfl, rfl⟩
      have e0 : (0 : Int) + (i : Nat) = (i : Nat) := by omega
      refine ⟨_, rfl, _, rfl, a, ns, i, (by show [V.ref a, V.int ((0 : Int) + (i : Nat))] = [V.ref a, V.int ((i : Nat) : Int)]; rw [e0]), s1.seq ha, by omega, by omega, fun H2 l s2 nl pot => ?_⟩
      refine ⟨4, rfl, by decide, by decide, fun D hD => ?_⟩
      have nDl : D ≠ l := pot.ne hD
      refine lc_it (walk_range (lo := 0) (n := 4)) (fun j G' => SameX l H2 G' ∧ PotAt G' l ∧ G' D = some (.lst ((List.replicate j true).map V.bl))) ⟨SameX.of (sNew (Same.refl H2) hD), pot.same (sNew (Same.refl H2) hD), upd_same⟩ (fun _ _ _ _ => trivial) ?_ ?_
      · rintro j x _ G1 hj ⟨sx, pg, hw⟩ ⟨rfl, rfl⟩
        refine ⟨rfl, _, rfl, l, rfl, pg, fun G2 sx2 pg2 => ?_⟩
        have hw2 := sx2 _ _ nDl hw
        refine ⟨_, hw2, lt_line (by rw [List.length_map, List.length_replicate]; omega), fun b o nb e => ?_, pg2.put nDl.symm, ?_⟩
        · rw [upd_ne (ne_of_none e hD)]
          exact sx2 _ _ nb (sx _ _ nb e)
        · rw [upd_same, List.replicate_succ', List.map_append]; rfl
      · rintro G1 ⟨sx, pg, hw⟩
        refine ⟨D, _, rfl, SqL.of hw, _, rfl, ?_⟩
        refine iteF ⟨fun b o e => sx b o (ne_of_none e (s1.free nl)) (s2 _ _ (s1 _ _ e)), _, _, rfl⟩
    · rintro σ G ⟨s1, y1, y2, rfl⟩
      exact q G
end
end S16

namespace S16
open PySem L2 GM
open PySem.W (EachIs)
section
variable {P : Program} {w : World} {K : PySem.W.Frag} {mg : Str → Option Value} {base : Heap}
/-! ### _law_turns; what _law_order is to promise -/
def spOrder : Sp := fun vs H Q _ => ∃ (l a : Addr) (ss : List Str), vs = [.ref l, .ref a] ∧ PotAt H l ∧ H a = some (.lst (ss.map V.str)) ∧ a ≠ l ∧ SlotsOk ss ∧ ss.length ≤ 4 ∧
  ∀ H' t o, SameX l H H' → PotAt H' l → H t = none → H' t = some (.tup (o.map V.int)) → Keeps ss o → Q (.ref t) H'
def spTurns : Sp := fun vs H Q _ => ∃ (l a : Addr) (ss : List Str), vs = [.ref l, .ref a] ∧ PotAt H l ∧ H a = some (.lst (ss.map V.str)) ∧ a ≠ l ∧ SlotsOk ss ∧ ss.length ≤ 4 ∧
  ∀ H' r T, SameX l H H' → PotAt H' l → H r = none → GroupAt H' r T → T.length ≤ 3 → (∀ p ∈ T, TurnOk ss p) → Q (.ref r) H'
abbrev nTurns : List Str := ["_law_pot_here", "_law_slots", "_law_found", "_law_turn"]
theorem scTurns : FnScope nTurns ["_law_pot_here", "_law_slots"] (defScope sTurns) := ⟨rfl, rfl, rfl, by decide +kernel, rfl, by decide +kernel, by decide +kernel⟩
theorem ok_turns {f : Addr} {fd : FuncData} (F : Fun K "_law_turns" "_law_turns" sTurns f fd) (B : Bn mg) (DD : Df P w K mg base "_law_draw" ["_law_pot_here", "_law_many"] 1 spDraw) (DP : Df P w K mg base "_law_pick" ["_law_pot_here", "_law_some"] 2 spPick)
    (DO : Df P w K mg base "_law_order" ["_law_pot_here", "_law_slots"] 2 spOrder) : FnOk P w K mg base CX0 3 f fd ["_law_pot_here", "_law_slots"] spTurns := by
  refine F.ok scTurns (fun vs H Q E h => ?_) (fun cdv A outer s H vs Q E hr h => ?_)
  · obtain ⟨l, a, ss, rfl, _⟩ := h
    rfl
  · obtain ⟨l, a, ss, rfl, pot, ha, nal, sok, n4, q⟩ := h
    have h1 : Room 1 _ := hr.mono (by decide)
    refine ⟨_, pss_cons (ps_set (i := 2) scTurns.nd rfl (Or.inl rfl) (pe_lst pa_nil))
      (pss_cons (ps_for PassesOwn.never rfl (pi_range1 (by rfl) B.range (pa_cons (pe_df DD h1 (by rfl) (pa_cons (pv 0) (pa_cons pe_int pa_nil))) pa_nil)) (pg_name (i := 3) scTurns.nd rfl (Or.inl rfl))
        (pss_one (ps_expr (pe_bm PySem.F.plainAttrs_list PySem.F.slot_list_append PySem.F.type_list_append mt_append (pv 2) (pa_cons (pe_tup (pa_cons (pe_df DO hr (by rfl) (pa_cons (pv 0) (pa_cons (pv 1) pa_nil)))
          (pa_cons (pe_df DP hr (by rfl) (pa_cons (pv 0) (pa_cons (pe_lst (pa_cons pe_int (pa_cons pe_int (pa_cons (pe_un un_neg pe_int) pa_nil)))) pa_nil))) pa_nil))) pa_nil)))))
      (pss_one (ps_ret (pv 2)))), ?_⟩
    refine ⟨(by show 0 ≤ sizeLine; decide), fun D hD => ?_⟩
    have nDl : D ≠ l := pot.ne hD
    have s1 := sNew (o := .lst []) (Same.refl H) hD
    refine ⟨_, rfl, l, 4, rfl, pot.same s1, by decide, by decide, fun H1 d sx1 pot1 d0 d4 => ?_⟩
    have sxD : SameX l H H1 := SameX.trans (SameX.of s1) sx1
    refine ⟨d, rfl, by omega, by omega, for_it (walk_range (lo := 0) (n := d.toNat)) (fun i σ G => SameX l H G ∧ PotAt G l ∧ ∃ (vs : List V) (T : List Turn) (y : Option V), G D = some (.lst vs) ∧ TurnsS G vs T ∧ T.length = i ∧ (∀ p ∈ T, TurnOk ss p) ∧ σ = [some (.ref l), some (.ref a), some (.ref D), y])
      ⟨sxD, pot1, [], [], _, sx1 _ _ nDl upd_same, .nil, rfl, by simp, rfl⟩ (fun _ _ _ _ _ => True.intro) ?_ ?_⟩
    · rintro i v σ _ G hi ⟨sx, pg, vs, T, y, hvs, tvs, tl, tok, rfl⟩ ⟨rfl, rfl⟩
      refine ⟨_, rfl, .inl ⟨rfl, _, SqL.of hvs⟩, _, rfl, _, rfl, l, a, ss, rfl, pg, sx _ _ nal ha, nal, sok, n4, fun G2 t o sx2 pg2 ht hto keeps => ?_⟩
      refine ⟨_, rfl, _, rfl, (by show 3 ≤ sizeLine; decide), fun S hS => ?_⟩
      have s3 := sNew (o := .lst [.int 1, .int 1, .int (-1)]) (Same.refl G2) hS
      refine ⟨l, S, _, rfl, pg2.same s3, upd_same, pg2.ne hS, (by decide), (by decide), fun G4 sv sx4 pg4 hsv => ?_⟩
      obtain ⟨sg, rfl, sgn⟩ : ∃ sg, sv = .int sg ∧ Sgn sg := by
        rcases List.mem_cons.mp hsv with rfl | m
        · exact ⟨1, rfl, .inl rfl⟩
        · rcases List.mem_cons.mp m with rfl | m
          · exact ⟨1, rfl, .inl rfl⟩
          · rw [List.mem_singleton.mp m]
            exact ⟨-1, rfl, .inr rfl⟩
      refine ⟨(by show 2 ≤ sizeLine; decide), fun TT hTT => ?_⟩
      have s5 := sNew (o := .tup [.ref t, .int sg]) (Same.refl G4) hTT
      have sx24 : SameX l G2 G4 := SameX.trans (SameX.of s3) sx4
      have ntl : t ≠ l := pg.ne ht
      have made : TurnS (upd G4 TT (.tup [.ref t, .int sg])) (.ref TT) (o, sg) := ⟨TT, t, rfl, upd_same, old (sx24 _ _ ntl hto) hTT⟩
      have sxG : SameX l G (upd G4 TT (.tup [.ref t, .int sg])) := SameX.same (SameX.trans sx2 sx24) s5
      have pg5 := pg4.same s5
      generalize upd G4 TT (.tup [.ref t, .int sg]) = G5 at s5 made sxG pg5
      have hvs5 := sxG _ _ nDl hvs
      have vl : vs.length = T.length := EachIs.length tvs
      refine ⟨D, _, _, rfl, rfl, hvs5, lt_line (by omega), fun b p nb e => ?_, pg5.put nDl.symm, vs ++ [.ref TT], T ++ [(o, sg)], _, upd_same, each_snoc ((TurnsS.pot pg sxG tvs).mono fun _ _ h => h.put hvs5) (made.put hvs5), by rw [List.length_append, tl]; rfl, fun p m => ?_, rfl⟩
      · rw [upd_ne (ne_of_none e hD)]
        exact sxG _ _ nb (sx _ _ nb e)
      · rcases List.mem_append.mp m with m | m
        · exact tok p m
        · rw [List.mem_singleton.mp m]
          exact ⟨keeps, sgn⟩
    · rintro σ G ⟨sx, pg, vs, T, y, hvs, tvs, tl, tok, rfl⟩
      exact ⟨_, rfl, q G D T sx pg hD ⟨vs, hvs, tvs⟩ (by omega) tok⟩
end
end S16

/-! an order that keeps the texts, drawn text by text -/
namespace S16
open PySem L2 GM
theorem perm_of_sub {α : Type} [DecidableEq α] : ∀ {l m : List α}, l.Nodup → (∀ x ∈ l, x ∈ m) → m.length ≤ l.length → m.Perm l
  | [], m, _, _, le => by
    have : m = [] := List.length_eq_zero_iff.mp (by simpa using le)
    subst this
    exact .nil
  | a :: l, m, nd, sub, le => by
    have h := List.nodup_cons.mp nd
    have am := sub a List.mem_cons_self
    have p := List.perm_cons_erase am
    refine p.trans (.cons a (perm_of_sub h.2 (fun x hx => ?_) ?_))
    · have xm := p.mem_iff.mp (sub x (List.mem_cons_of_mem _ hx))
      rcases List.mem_cons.mp xm with e | e
      · exact absurd (e ▸ hx) h.1
      · exact e
    · rw [List.length_erase_of_mem am]
      simp only [List.length_cons] at le
      omega
/-- where a text stands -/
def spots (ss : List Str) (z : Str) : List Nat := (List.range ss.length).filter fun i => ss[i]? == some z
theorem mem_spots {ss : List Str} {z : Str} {i : Nat} : i ∈ spots ss z ↔ ss[i]? = some z := by
  unfold spots
  rw [List.mem_filter, List.mem_range, beq_iff_eq]
  exact ⟨fun h => h.2, fun h => ⟨(List.getElem?_eq_some_iff.mp h).1, h⟩⟩
theorem spots_nodup (ss : List Str) (z : Str) : (spots ss z).Nodup := List.Pairwise.filter _ List.nodup_range
abbrev nums (S : List Nat) : List Int := S.map fun i => ((i : Nat) : Int)
abbrev reads (f : List Int) (S : List Nat) : List Int := S.map fun i => f.getD i 0
/-- each text's places are mixed among themselves -/
def Mixed (ss : List Str) (f : List Int) : Prop := f.length = ss.length ∧ ∀ z, (reads f (spots ss z)).Perm (nums (spots ss z))
theorem reads_idn {n : Nat} : ∀ {S : List Nat}, (∀ i ∈ S, i < n) → reads (idn n) S = nums S
  | [], _ => rfl
  | i :: S, h => by
    have e : (idn n).getD i 0 = (i : Int) := by
      unfold idn
      rw [List.getD_eq_getElem?_getD, List.getElem?_map, List.getElem?_range (h i List.mem_cons_self)]
      rfl
    show (idn n).getD i 0 :: reads (idn n) S = (i : Int) :: nums S
    rw [e, reads_idn fun j m => h j (List.mem_cons_of_mem _ m)]
theorem mixed_idn (ss : List Str) : Mixed ss (idn ss.length) :=
  ⟨idn_len _, fun z => by rw [reads_idn fun i m => (List.getElem?_eq_some_iff.mp (mem_spots.mp m)).1]⟩
theorem Mixed.keeps {ss : List Str} {f : List Int} (h : Mixed ss f) : Keeps ss f := by
  have at_ : ∀ i < ss.length, ∀ v, f[i]? = some v → ∃ k : Nat, v = (k : Int) ∧ ss[k]? = ss[i]? := by
    intro i hi v e
    have m : i ∈ spots ss ss[i] := mem_spots.mpr (List.getElem?_eq_getElem hi)
    have m2 : v ∈ reads f (spots ss ss[i]) := List.mem_map.mpr ⟨i, m, by rw [List.getD_eq_getElem?_getD, e]; rfl⟩
    obtain ⟨k, mk, rfl⟩ := List.mem_map.mp ((h.2 _).mem_iff.mp m2)
    exact ⟨k, rfl, by rw [mem_spots.mp mk, List.getElem?_eq_getElem hi]⟩
  refine ⟨perm_of_sub (idn_nodup _) (fun x hx => ?_) (by rw [idn_len, h.1]; exact Nat.le_refl _), fun i j e => ?_⟩
  · obtain ⟨x0, xl⟩ := mem_idn.mp hx
    obtain ⟨k, rfl⟩ := Int.eq_ofNat_of_zero_le x0
    have kl : k < ss.length := by omega
    have m : k ∈ spots ss ss[k] := mem_spots.mpr (List.getElem?_eq_getElem kl)
    have m2 : ((k : Nat) : Int) ∈ reads f (spots ss ss[k]) := (h.2 _).mem_iff.mpr (List.mem_map.mpr ⟨k, m, rfl⟩)
    obtain ⟨i, mi, e⟩ := List.mem_map.mp m2
    have il : i < f.length := by rw [h.1]; exact (List.getElem?_eq_some_iff.mp (mem_spots.mp mi)).1
    rw [List.getD_eq_getElem?_getD, List.getElem?_eq_getElem il] at e
    have e' : f[i] = ((k : Nat) : Int) := e
    rw [← e']
    exact List.getElem_mem il
  · have il : i < ss.length := by rw [← h.1]; exact (List.getElem?_eq_some_iff.mp e).1
    obtain ⟨k, ek, s⟩ := at_ i il _ e
    obtain rfl : j = k := by omega
    exact s
/-- on the way through one text's places: i of them have their new numbers, the others are left -/
structure Mid (ss : List Str) (z : Str) (i : Nat) (f left : List Int) : Prop where
  len : f.length = ss.length
  other : ∀ y, y ≠ z → (reads f (spots ss y)).Perm (nums (spots ss y))
  here : (reads f ((spots ss z).take i) ++ left).Perm (nums (spots ss z))
theorem Mid.start {ss : List Str} {f : List Int} (z : Str) (h : Mixed ss f) : Mid ss z 0 f (nums (spots ss z)) := ⟨h.1, fun y _ => h.2 y, .refl _⟩
theorem Mid.few {ss : List Str} {z : Str} {i : Nat} {f left : List Int} (h : Mid ss z i f left) (hi : i ≤ (spots ss z).length) : left.length = (spots ss z).length - i := by
  have := h.here.length_eq
  simp only [List.length_append, List.length_map, List.length_take] at this
  omega
theorem Mid.done {ss : List Str} {z : Str} {f left : List Int} (h : Mid ss z (spots ss z).length f left) : Mixed ss f := by
  have l0 := h.few (Nat.le_refl _)
  have e : left = [] := List.length_eq_zero_iff.mp (by omega)
  have here := h.here
  rw [e, List.append_nil, List.take_length] at here
  exact ⟨h.len, fun y => if c : y = z then c ▸ here else h.other y c⟩
theorem reads_set {f : List Int} {s : Nat} {v : Int} : ∀ {S : List Nat}, s ∉ S → reads (f.set s v) S = reads f S
  | [], _ => rfl
  | i :: S, h => by
    have ne : s ≠ i := fun e => h (e ▸ List.mem_cons_self)
    show (f.set s v).getD i 0 :: reads (f.set s v) S = f.getD i 0 :: reads f S
    rw [reads_set fun m => h (List.mem_cons_of_mem _ m), List.getD_eq_getElem?_getD, List.getElem?_set_ne ne, ← List.getD_eq_getElem?_getD]
theorem Mid.step {ss : List Str} {z : Str} {i s k : Nat} {f left : List Int} {v : Int} (h : Mid ss z i f left) (hs : (spots ss z)[i]? = some s) (hk : left[k]? = some v) : Mid ss z (i + 1) (f.set s v) (left.eraseIdx k) := by
  have sm : s ∈ spots ss z := List.mem_of_getElem? hs
  have sl : s < f.length := by rw [h.len]; exact (List.getElem?_eq_some_iff.mp (mem_spots.mp sm)).1
  have off : s ∉ (spots ss z).take i := by
    intro m
    obtain ⟨j, hj⟩ := List.mem_iff_getElem?.mp m
    rw [List.getElem?_take] at hj
    split at hj
    · have nd := spots_nodup ss z
      have ij := (List.getElem?_inj (l := spots ss z) (i := j) (j := i) (by
        exact (List.getElem?_eq_some_iff.mp hj).1) nd).mp (hj.trans hs.symm)
      omega
    · cases hj
  refine ⟨by rw [List.length_set]; exact h.len, fun y ne => ?_, ?_⟩
  · rw [reads_set]
    · exact h.other y ne
    · intro m
      have a := mem_spots.mp m
      rw [mem_spots.mp sm] at a
      exact ne (Option.some.inj a).symm
  · rw [List.take_add_one, hs]
    show (reads (f.set s v) ((spots ss z).take i ++ [s]) ++ _).Perm _
    rw [reads, List.map_append]
    show (reads (f.set s v) ((spots ss z).take i) ++ [(f.set s v).getD s 0] ++ _).Perm _
    rw [reads_set off, List.getD_eq_getElem?_getD, List.getElem?_set_self sl]
    show (_ ++ [v] ++ _).Perm _
    rw [List.append_assoc]
    refine (List.Perm.append_left _ ?_).trans h.here
    obtain ⟨kl, rfl⟩ := List.getElem?_eq_some_iff.mp hk
    rw [List.eraseIdx_eq_take_drop_succ]
    have e : left = left.take k ++ left[k] :: left.drop (k + 1) := by rw [List.getElem_cons_drop, List.take_append_drop]
    exact (List.perm_middle (a := left[k]) (l₁ := left.take k) (l₂ := left.drop (k + 1))).symm.trans (.of_eq e.symm)
end S16

/-! set(xs), xs a list of keys (numbers, texts), with its table: what sorted() asks -/
namespace L2
open PySem PySem.Spec PyProof.Rows
section
variable {P : Program} {w : World} {κ : Type} [DecidableEq κ]
/-- two entries of one table: no key is both -/
def Apart (kd : PySem.KeyKind P w κ) (e f : Int × Value) : Prop := ∀ k, kd.is k e.2 = true → kd.is k f.2 = false
theorem Apart.symm {kd : PySem.KeyKind P w κ} {e f : Int × Value} (h : Apart kd e f) : Apart kd f e := fun k y => by
  cases z : kd.is k e.2 with
  | false => rfl
  | true => rw [h k z] at y; cases y
/-- a table of keys: M tells its members; it rises, and can be walked -/
structure Tbl (kd : PySem.KeyKind P w κ) (es : Array (Int × Value)) (t : SetTable) (M : κ → Bool) : Prop where
  el : ElemsOf kd es.toList
  one : es.toList.Pairwise (Apart kd)
  mem : ∀ k, M k = true ↔ ∃ e ∈ es.toList, kd.is k e.2 = true
  few : es.size < scanBound
  fit : t.fits es.size = true
  up : Ris t.place.toList
  led : w.params.followText "set-order" = true ∨ t.led = true
def SetG (kd : PySem.KeyKind P w κ) (h : Heap) (a : Addr) (M : κ → Bool) (n : Nat) : Prop := ∃ o es ep t, h.get? a = some o ∧ o.ExactSet ∧ o.data = .set es ep t ∧ Tbl kd es t M ∧ es.size = n
variable {kd : PySem.KeyKind P w κ} {h h' : Heap} {a : Addr} {M : κ → Bool} {n : Nat}
theorem SetG.keep (R : SetG kd h a M n) (k : ∀ o, h.get? a = some o → h'.get? a = some o) : SetG kd h' a M n := by
  obtain ⟨o, es, ep, t, at_, r⟩ := R
  exact ⟨o, es, ep, t, k o at_, r⟩
theorem SetG.same {M' : κ → Bool} (R : SetG kd h a M n) (e : ∀ k, M' k = M k) : SetG kd h a M' n := (funext e : M' = M) ▸ R
theorem SetG.fresh {xs : List κ} (at_ : h.get? a = some { cls := .type "set", dict := none, data := .set #[] 0 (.fresh 0 0 (!w.params.followText "set-order")) }) : SetG kd h a (fun j => decide (j ∈ xs.take 0)) 0 := by
  refine ⟨_, #[], 0, _, at_, ⟨rfl, rfl, rfl⟩, rfl, ⟨fun e m => by simp at m, .nil, fun k => by simp, by decide, by rfl, .nil, ?_⟩, rfl⟩
  show _ ∨ (!w.params.followText "set-order") = true
  cases w.params.followText "set-order" <;> simp
variable {A : Around} {E : Value → Shared → Prop} {s : Shared}
/-- behind the new entry: the table is laid anew where it is too full -/
theorem tbl_stored {say : Bool → Sem Unit} (quiet : ∀ (b : Bool) (s1 : Shared) (R : Unit → Shared → Prop), R () s1 → wpAny (model P w) A (say b) R E s1) {o : Obj} {es es1 : Array (Int × Value)} {ep : Nat} {t t2 : SetTable} {N : κ → Bool}
    (at_ : s.heap.get? a = some o) (exact_ : o.ExactSet) (dat : o.data = .set es ep t) (T : Tbl kd es1 t2 N) {dum : Bool} {R : Option Bool → Shared → Prop} (fin : ∀ h2, Heap.SameBut a s.heap h2 → SetG kd h2 a N es1.size → R (some true) { s with heap := h2 }) :
    wpAny (model P w) A (do
        storeSet a es1 t2
        if (!dum && t2.tooFull) = true then do
            say (relayAll t2 es1 (SetTable.grown es1.size)).2.2
            storeSet a (relayAll t2 es1 (SetTable.grown es1.size)).1 (relayAll t2 es1 (SetTable.grown es1.size)).2.1
            pure (some true)
          else pure (some true)) R E s := by
  have but := Heap.SameBut.update s.heap a (Obj.putSet es1 t2)
  have now := store_at (es' := es1) (t' := t2) at_ dat
  refine wpAny_bind (wpAny_storeSet_of at_ dat ?_ (fits_of_scanBound T.few))
  split
  · have perm := relayAll_perm t2 es1 (SetTable.grown es1.size)
    have fit := relayAll_fits t2 es1 (SetTable.grown es1.size)
    have up := relayAll_ris t2 es1 (SetTable.grown es1.size)
    have led := relayAll_led t2 es1 (SetTable.grown es1.size)
    generalize relayAll t2 es1 (SetTable.grown es1.size) = Z at perm fit up led ⊢
    obtain ⟨es2, t3, gave⟩ := Z
    dsimp only at perm fit up led ⊢
    have many : es2.size = es1.size := by simpa using perm.length_eq
    have few2 : es2.size < scanBound := many ▸ T.few
    refine wpAny_bind (quiet _ _ _ (wpAny_bind (wpAny_storeSet_of now rfl ?_ (fits_of_scanBound few2))))
    have T2 : Tbl kd es2 t3 N := ⟨fun e m => T.el e (perm.mem_iff.mp m), (perm.pairwise_iff Apart.symm).mpr T.one, fun k => (T.mem k).trans ⟨fun ⟨e, m, y⟩ => ⟨e, perm.mem_iff.mpr m, y⟩, fun ⟨e, m, y⟩ => ⟨e, perm.mem_iff.mp m, y⟩⟩, few2, fit, up,
      T.led.imp id fun z => led.trans z⟩
    exact wpAny_pure (fin _ (but.trans (Heap.SameBut.update _ a _)) ⟨_, es2, _, t3, store_at (es' := es2) (t' := t3) now rfl, exact_, rfl, T2, many⟩)
  · exact wpAny_pure (fin _ but ⟨_, es1, _, t2, now, exact_, rfl, T, rfl⟩)
theorem setG_add {k : κ} {v : Value} {Q : Bool → Shared → Prop} (key : kd.is k v = true) (scan : v.scannable = true) (R : SetG kd s.heap a M n) (room : n + 1 < scanBound)
    (fin : ∀ h2, Heap.SameBut a s.heap h2 → SetG kd h2 a (fun j => M j || decide (j = k)) (if M k = true then n else n + 1) → Q (!M k) { s with heap := h2 }) : wpAny (model P w) A (setAddHashed a v (kd.hash k)) Q E s := by
  obtain ⟨o, es, ep, t, at_, exact_, dat, T, rfl⟩ := R
  unfold setAddHashed setAddHashedIn
  refine wpAny_holding (wpAny_bind (wpAny_setState_of at_ dat T.fit ?_))
  dsimp only
  rw [byScan_of scan T.few T.el]
  simp only [↓reduceIte]
  unfold setAddByScan
  refine wpAny_bind (wpAny_bind (wpAny_rule (wpAny_bind (wpAny_setScan_of key at_ dat T.fit T.el ?_))))
  cases place : List.findIdx? (fun e => kd.is k e.2) es.toList with
  | some j =>
    dsimp only
    obtain ⟨lt, hit, _⟩ := List.findIdx?_eq_some_iff_getElem.mp place
    have inside : M k = true := (T.mem k).mpr ⟨es.toList[j], List.getElem_mem lt, hit⟩
    have z := fin s.heap (Heap.SameBut.refl a s.heap)
    rw [if_pos inside, inside] at z
    have same : (fun i => M i || decide (i = k)) = M := funext fun i => by
      by_cases e : i = k
      · subst e; simp [inside]
      · simp [e]
    rw [same] at z
    exact wpAny_pure (wpAny_pure (z ⟨o, es, ep, t, at_, exact_, dat, T, rfl⟩))
  | none =>
    dsimp only
    have off : ∀ e ∈ es.toList, kd.is k e.2 = false := fun e m => by simpa using List.findIdx?_eq_none_iff.mp place e m
    have outside : M k = false := by
      cases y : M k with
      | false => rfl
      | true =>
        obtain ⟨e, m, z⟩ := (T.mem k).mp y
        rw [off e m] at z
        cases z
    have z := fun h2 b => fin h2 b
    rw [outside] at z
    have quiet : ∀ (b : Bool) (s1 : Shared) (R : Unit → Shared → Prop), R () s1 → wpAny (model P w) A (match b with | true => rule "set.scan.the-table-gave-way" | false => pure ()) R E s1 := fun b s1 R y => by
      cases b
      · exact wpAny_pure y
      · exact wpAny_rule y
    have perm := layNew_perm t es (kd.hash k) v
    have fit := layNew_fits t es (kd.hash k) v
    have up := layNew_ris t es (kd.hash k) v T.up
    have led := layNew_led t es (kd.hash k) v
    generalize layNew t es (kd.hash k) v = Z at perm fit up led ⊢
    obtain ⟨es1, t1, dum, gave⟩ := Z
    dsimp only at perm fit up led ⊢
    rw [Array.toList_push] at perm
    have cons : es1.toList.Perm ((kd.hash k, v) :: es.toList) := perm.trans (List.perm_append_singleton _ _)
    have many : es1.size = es.size + 1 := by simpa using cons.length_eq
    have T1 : Tbl kd es1 t1 (fun j => M j || decide (j = k)) := by
      refine ⟨fun e m => ?_, (cons.pairwise_iff Apart.symm).mpr (List.pairwise_cons.mpr ⟨fun e m j y => ?_, T.one⟩), fun j => ?_, by omega, fit, up, T.led.imp id fun y => led.trans y⟩
      · rcases List.mem_cons.mp (cons.mem_iff.mp m) with rfl | m
        · exact ⟨⟨k, key, rfl⟩, scan⟩
        · exact T.el e m
      · obtain rfl : j = k := kd.inj v j k y key
        exact off e m
      · show (M j || decide (j = k)) = true ↔ _
        rw [Bool.or_eq_true, decide_eq_true_eq, T.mem j]
        constructor
        · rintro (⟨e, m, y⟩ | rfl)
          · exact ⟨e, cons.mem_iff.mpr (List.mem_cons_of_mem _ m), y⟩
          · exact ⟨_, cons.mem_iff.mpr List.mem_cons_self, key⟩
        · rintro ⟨e, m, y⟩
          rcases List.mem_cons.mp (cons.mem_iff.mp m) with rfl | m
          · exact .inr (kd.inj v j k y key)
          · exact .inl ⟨e, m, y⟩
    have last : ∀ h2, Heap.SameBut a s.heap h2 → SetG kd h2 a (fun j => M j || decide (j = k)) es1.size → Q true { s with heap := h2 } := fun h2 b r => z h2 b (by rw [many] at r; simpa using r)
    refine wpAny_bind ?_
    have quiet2 := quiet gave
    refine quiet2 _ _ ?_
    split
    · refine wpAny_bind ?_
      rw [hashByValue_scannable 8 scan]
      refine wpAny_pure (tbl_stored quiet at_ exact_ dat ?_ fun h2 b r => wpAny_pure (last h2 b r))
      split
      · exact T1
      · exact ⟨T1.el, T1.one, T1.mem, T1.few, SetTable.fits_plain_off fit, up, T1.led⟩
    · refine wpAny_bind (wpAny_pure ?_)
      simp only [↓reduceIte]
      exact tbl_stored quiet at_ exact_ dat T1 fun h2 b r => wpAny_pure (last h2 b r)
end
end L2

/-! set(xs), xs a list of keys, and sorted(set(texts)) -/
namespace L2
open PySem PySem.Spec PyProof.Rows
section
variable {P : Program} {w : World} {κ : Type} [DecidableEq κ] {kd : PySem.KeyKind P w κ} {A : Around} {E : Value → Shared → Prop} {s : Shared}
/-- the members, one behind the other, are put into the set at S -/
theorem setG_loop {I S : Addr} {fp wr : List Addr} {G : Array GenState → Array GenState → Prop} {xs : List κ} {Pv : Nat → Value → Prop} {St : Nat → Shared → Prop} {R : Result → Shared → Prop} (W : WalksS P w A.in1 I fp wr G xs.length Pv St) (off : S ∉ fp)
    (room : xs.length + 1 < scanBound) (each : ∀ i v, Pv i v → ∃ k, xs[i]? = some k ∧ kd.is k v = true ∧ v.scannable = true) (left : Nat) : ∀ (i : Nat) (s : Shared), xs.length - i = left → i ≤ xs.length → St i s →
      (∃ c, c ≤ i ∧ SetG kd s.heap S (fun j => decide (j ∈ xs.take i)) c) → (∀ s2 c, Moved (S :: wr) G s s2 → c ≤ xs.length → SetG kd s2.heap S (fun j => decide (j ∈ xs)) c → R (.ok (.ret .none)) s2) →
      codeAny (model P w) A (.builtin "set.update.loop" ⟨[.ref S, .ref I], []⟩) R s := by
  have offW : S ∉ wr := fun z => off (W.sub _ z)
  have wider : ∀ b ∈ wr, b ∈ S :: wr := fun _ z => List.mem_cons_of_mem _ z
  have opened : ∀ (s : Shared) {R : Result → Shared → Prop}, wpAny (model P w) A.in1 (Builtin.«set.update.loop» ⟨[.ref S, .ref I], []⟩) (fun fin s' => match fin with | .done f => R (.ok f) s' | .again c => c.quiet = true ∧ codeAny (model P w) A c R s') (fun e s' => R (.error e) s') s → codeAny (model P w) A (.builtin "set.update.loop" ⟨[.ref S, .ref I], []⟩) R s :=
    fun s {R} q => codeAny_builtin F.entry_set_update_loop (by rw [Around.under_plainId F.plain_set_update_loop _]; exact q)
  induction left with
  | zero =>
    intro i s done le st ⟨c, cl, T⟩ fin
    obtain rfl : i = xs.length := by omega
    rw [List.take_length] at T
    refine opened s (show wpAny _ A.in1 (pyNext (.ref I) >>= _) _ _ s from ?_)
    exact wpAny_bind (W.done s _ _ st fun s2 mv => wpAny_pure (fin s2 c (mv.mono wider) cl (T.keep fun o e => mv.heap S o offW e)))
  | succ left ih =>
    intro i s more le st ⟨c, cl, T⟩ fin
    have lt : i < xs.length := by omega
    refine opened s (show wpAny _ A.in1 (pyNext (.ref I) >>= _) _ _ s from ?_)
    refine wpAny_bind (W.item i s _ _ lt st fun v s1 pv st1 mv => ?_)
    obtain ⟨k, at_, key, scan⟩ := each i v pv
    have T1 := T.keep (h' := s1.heap) fun o e => mv.heap S o offW e
    show wpAny _ A.in1 (holding [v] (setAdd S v) >>= _) _ _ s1
    refine wpAny_bind (wpAny_holding ?_)
    unfold setAdd
    refine wpAny_holding (wpAny_bind (kd.pyHash key (setG_add (s := { s1 with toks := s1.toks + 1 }) key scan T1 (by omega) fun h2 but T2 => ?_)))
    have T3 : SetG kd h2 S (fun j => decide (j ∈ xs.take (i + 1))) (if decide (k ∈ xs.take i) = true then c else c + 1) := T2.same fun j => by
      rw [List.take_add_one, at_]
      simp [List.mem_append]
    have old : ∀ b o, b ≠ S → s1.heap.get? b = some o → h2.get? b = some o := fun b o ne e => (but.2 b ne).trans e
    have le3 : (if decide (k ∈ xs.take i) = true then c else c + 1) ≤ i + 1 := by split <;> omega
    refine wpAny_pure ⟨plainId_quiet F.plain_set_update_loop _, ih (i + 1) _ (by omega) lt (W.frame _ s1 _ _ st1 (Nat.le_succ _) fun b m o e => old b o (fun z => off (z ▸ m)) e) ⟨_, le3, T3⟩ fun s2 c2 mv2 cl2 T4 => ?_⟩
    exact fin s2 c2 (Moved.trans W.gtrans ((mv.mono wider).then_heap (Nat.le_succ _) fun b o m e => old b o (fun z => m (z ▸ List.mem_cons_self)) e) mv2) cl2 T4
/-- what a list's members make of the set just made -/
def FilledG (kd : PySem.KeyKind P w κ) (xs : List κ) (s : Shared) (r : Value) (s2 : Shared) : Prop :=
  r = .none ∧ ∃ (h2 : Heap) (tk c : Nat), s2 = { s with heap := h2, toks := tk } ∧ SetG kd h2 s.heap.objs.size (fun j => decide (j ∈ xs)) c ∧ c ≤ xs.length ∧ ∀ b o, s.heap.get? b = some o → h2.get? b = some o
/-- a set without members, as it is made -/
abbrev setZ (w : World) : Obj := { cls := .type "set", dict := none, data := .set #[] 0 (.fresh 0 0 (!w.params.followText "set-order")) }
theorem setG_fills {l : Addr} {items : Array Value} {xs : List κ} (calm : A.handled = none) (isL : s.heap.IsList l items) (many : items.size = xs.length) (each : ∀ (i : Nat) (v : Value), items[i]? = some v → ∃ k, xs[i]? = some k ∧ kd.is k v = true ∧ v.scannable = true)
    (few : xs.length + 1 < scanBound) : codeAny (model P w) A (.call (.builtin "set.__init__") ⟨[.ref s.heap.objs.size, .ref l], []⟩) (wants (FilledG kd xs s) E) { s with heap := s.heap.push (setZ w) } := by
  have made : (s.heap.push (setZ w)).get? s.heap.objs.size = some (setZ w) := Heap.get?_push_size _ rfl
  have old : l < s.heap.objs.size := let ⟨_, e, _⟩ := isL; Heap.lt_size e
  refine codeAny_call_builtin F.called_set.init.plain F.entry_set_init (check_set_init_1 ⟨_, made, rfl⟩ ?_)
  obtain ⟨⟨_, dd, _, sl⟩, at_, rfl, n, rfl⟩ := isL
  have at1 := Heap.get?_push_of_some (setZ w) at_
  have list1 : (s.heap.push (setZ w)).IsList l items := ⟨_, at1, rfl, n, rfl⟩
  have n1 := F.sub_list_set
  have n2 := F.sub_list_frozenset
  have n3 : (Value.type "list" == Value.type "dict") = false := rfl
  unfold Builtin.«set.__init__» noKeywords Builtin.Frozenset.updateFrom
  generalize it : pyIter = PI
  wp_walk
  subst it
  have above : (s.heap.push (setZ w)).objs.size = s.heap.objs.size + 1 := Heap.size_push ..
  have apart : l ≠ (s.heap.push (setZ w)).objs.size := Nat.ne_of_lt (above ▸ Nat.lt_succ_of_lt old)
  have off : s.heap.objs.size ∉ [(s.heap.push (setZ w)).objs.size, l] := by
    rw [above, List.mem_cons, List.mem_singleton]
    exact fun z => z.elim (fun e => Nat.ne_of_lt (Nat.lt_succ_self _) e) fun e => Nat.ne_of_gt old e
  have walks := (Walks.list (prog := P) (w := w) (A := A.in1.in1) (by simp [calm]) _ l apart items).toS
  rw [many] at walks
  refine wpAny_pyIter_list list1 (wpAny_bind (wpAny_runValue (setG_loop walks off few each xs.length 0 _ (Nat.sub_zero _) (Nat.zero_le _) ⟨⟨_, Heap.get?_push_size _ rfl, rfl, rfl⟩, list1.push _⟩ ⟨0, Nat.le_refl 0, SetG.fresh (Heap.get?_push_of_some _ made)⟩ ?_)))
  rintro ⟨h2, gens, dr, tk, os⟩ c mv le R
  obtain ⟨rfl, rfl, rfl⟩ : gens = s.gens ∧ dr = s.drawn ∧ os = s.os := ⟨mv.gens, mv.drawn, mv.os⟩
  refine wpAny_pure (wpAny_pure ⟨rfl, h2, tk, c, rfl, R, le, fun b o e => ?_⟩)
  have lt := Heap.lt_size e
  refine mv.heap b o ?_ (Heap.get?_push_of_some _ (Heap.get?_push_of_some _ e))
  rw [List.mem_cons, List.mem_singleton, above]
  exact fun z => z.elim (fun e => Nat.ne_of_lt lt e) fun e => Nat.ne_of_lt (Nat.lt_succ_of_lt lt) e
theorem call_setG {l : Addr} {items : Array Value} {xs : List κ} {Q : Value → Shared → Prop} (calm : A.handled = none) (isL : s.heap.IsList l items) (many : items.size = xs.length)
    (each : ∀ (i : Nat) (v : Value), items[i]? = some v → ∃ k, xs[i]? = some k ∧ kd.is k v = true ∧ v.scannable = true) (few : xs.length + 1 < scanBound)
    (fin : ∀ (h2 : Heap) (tk c : Nat), SetG kd h2 s.heap.objs.size (fun j => decide (j ∈ xs)) c → c ≤ xs.length → (∀ b o, s.heap.get? b = some o → h2.get? b = some o) → Q (.ref s.heap.objs.size) { s with heap := h2, toks := tk }) :
    wpAny (model P w) A (call (.type "set") [.ref l]) Q E s := by
  obtain ⟨_, _, mro⟩ := F.called_set.mro
  obtain ⟨f1, f2, f3, f4, f5⟩ := And.intro F.called_set.made (And.intro F.called_set.sub (And.intro F.called_set.notType (And.intro F.called_set.canCreate (F.typeCall_set_1 (.ref l)))))
  refine wpAny_call (codeAny_of_tree (show wpAny _ _ (callAny (.type "set") _) _ _ _ from wpAny_pure ⟨Code.quiet_builtin _ (by decide +kernel), codeAny_builtin F.entry_type_call ?_⟩))
  rw [Around.under_plain (weight_type_call_type "set" [.ref l] []) rfl]
  repeat any_goals first | wp_step | assumption
  refine codeAny_mono (code_set_led1 (.ref l) (E := E) (Q₁ := fun v s1 => v = .ref s.heap.objs.size ∧ s1 = { s with heap := s.heap.push (setZ w) }) ⟨rfl, rfl⟩) ?_
  rintro (er | fl) s1 z
  · exact z
  cases fl with
  | ret v =>
    obtain ⟨rfl, rfl⟩ := z
    have made : Shared.TypeIs { s with heap := s.heap.push (setZ w) } (.ref s.heap.objs.size) "set" := ⟨_, Heap.get?_push_size _ rfl, rfl⟩
    have g1 := F.called_set.init.lookup
    have g2 := F.called_set.init.bind (.ref s.heap.objs.size)
    repeat any_goals first | wp_step | assumption
    refine codeAny_mono (setG_fills (P := P) (w := w) (E := E) (kd := kd) (by simp [calm]) isL many each few) ?_
    rintro (er | fl) s2 y
    · exact y
    cases fl with
    | ret v =>
      obtain ⟨rfl, h2, tk, c, rfl, R, le, keep⟩ := y
      repeat any_goals first | wp_step | assumption
      exact fin h2 tk c R le keep
    | _ => exact y.elim
  | _ => exact z.elim
end
end L2

/-! sorted(set(xs)), xs a list of texts -/
namespace L2
open PySem PySem.Spec PyProof.Rows
section
variable {P : Program} {w : World} {A : Around} {E : Value → Shared → Prop} {s : Shared}
def txtOf (v : Value) : Str := match v with | .str z _ => z | _ => Str.empty
/-- sorted(s), s a set of texts -/
theorem sorted_setG {a : Addr} {M : Str → Bool} {n : Nat} {Q : Value → Shared → Prop} (R : SetG (PySem.strKind P w) s.heap a M n) (calm : A.handled = none) (few : n < sizeLine) (room : A.units + 4 < cLine)
    (fin : ∀ s2 p (out : List Value) (c : Nat) (zs : List Str), (∀ b o, s.heap.get? b = some o → s2.heap.get? b = some o) → s2.gens = s.gens → s2.os = s.os → s.heap.objs.size ≤ p → s2.heap.get? p = some (seqObj "list" out.toArray c) →
      StrsAre out zs → zs.Nodup → (∀ z, z ∈ zs ↔ M z = true) → zs.length = n → zs.Pairwise (fun x y => x.cps.toList ≤ y.cps.toList) → Q (.ref p) s2) : wpAny (model P w) A (call (.builtin "sorted") [.ref a]) Q E s := by
  obtain ⟨o, es, ep, t, at_, exact_, dat, T, rfl⟩ := R
  refine Calls.call_function_entry kind_sorted plain_sorted entry_sorted (args_sorted1 _) ?_
  unfold Builtin.«sorted»
  refine wpAny_bind (m := checkCount "sorted" 1 1 _) (wpAny_pure (wpAny_bind (collect_set (A := A.in1) calm ⟨o, at_, exact_.1, dat⟩ T.fit T.few T.up T.led fun s1 vs keep size gens os perm => ?_)))
  have txts : ∀ v ∈ vs, ∃ tk, v = Value.str (txtOf v) tk := fun v m => by
    obtain ⟨e, em, rfl⟩ := List.mem_map.mp (perm.mem_iff.mp m)
    obtain ⟨⟨k, y, _⟩, _⟩ := T.el e em
    obtain ⟨tk, z⟩ := Value.isStrOf_shape y
    rw [z]
    exact ⟨tk, rfl⟩
  have row : ∀ us : List Value, (∀ v ∈ us, ∃ tk, v = Value.str (txtOf v) tk) → PySem.W.EachIs (fun (v : Value) z => ∃ tk, v = Value.str z tk) us (us.map txtOf) := by
    intro us
    induction us with
    | nil => exact fun _ => .nil
    | cons u us ih => exact fun q => .cons (q u List.mem_cons_self) (ih fun v m => q v (List.mem_cons_of_mem _ m))
  have one : (vs.map txtOf).Nodup := by
    have p1 := perm.map txtOf
    rw [List.map_map] at p1
    refine p1.nodup_iff.mpr (List.pairwise_map.mpr (List.Pairwise.imp_of_mem (fun {e f} me mf ap same => ?_) T.one))
    obtain ⟨⟨k, y, _⟩, _⟩ := T.el e me
    obtain ⟨⟨k', y', _⟩, _⟩ := T.el f mf
    obtain ⟨t1, z1⟩ := Value.isStrOf_shape y
    obtain ⟨t2, z2⟩ := Value.isStrOf_shape y'
    have ek : k = k' := by
      have : txtOf e.2 = txtOf f.2 := same
      rw [z1, z2] at this
      exact this
    have := ap k y
    rw [ek, y'] at this
    cases this
  have inM : ∀ z, z ∈ vs.map txtOf ↔ M z = true := fun z => by
    rw [T.mem z, List.mem_map]
    constructor
    · rintro ⟨v, m, rfl⟩
      obtain ⟨e, em, q⟩ := List.mem_map.mp (perm.mem_iff.mp m)
      obtain ⟨tk, q2⟩ := txts v m
      refine ⟨e, em, ?_⟩
      rw [q, q2]
      exact PySem.strKind_is P w _ _
    · rintro ⟨e, em, y⟩
      obtain ⟨tk, q⟩ := Value.isStrOf_shape y
      exact ⟨e.2, perm.mem_iff.mpr (List.mem_map.mpr ⟨e, em, rfl⟩), by rw [q] <;> rfl⟩
  have many : vs.length = es.size := by simpa using perm.length_eq
  refine wpAny_bind (wpAny_newList ?_ (by omega))
  have new : (s1.heap.push (seqObj "list" vs.toArray 0)).get? s1.heap.objs.size = some (seqObj "list" vs.toArray 0) := Heap.get?_push_size _ rfl
  have e0 := row vs txts
  refine wpAny_bind (wpAny_holding (PySem.W.list_sort_data (s := { s1 with heap := s1.heap.push (seqObj "list" vs.toArray 0) }) (enc := fun z : Str => PyData.str z) new e0 (e0.mono fun v z ⟨tk, q⟩ => ⟨[], by rw [q]; exact .str z tk, by simp⟩)
    (fun d m d' m' => ?_) (.inr fun d m => ?_) (by rw [List.length_map]; omega) (fun z m => ?_) fun out len eo => ?_))
  · obtain ⟨z, _, rfl⟩ := List.mem_map.mp m
    obtain ⟨z', _, rfl⟩ := List.mem_map.mp m'
    simp [PySem.W.alike]
  · obtain ⟨z, _, rfl⟩ := List.mem_map.mp m
    exact ⟨(fun y => by cases y), (fun _ y => by cases y)⟩
  · show _ + 1 + 0 < cLine
    simp
    omega
  obtain ⟨c, at2⟩ := sortedHeap_at (vs := vs) (out := out.toArray) new
  have pm := List.mergeSort_perm (vs.map txtOf) (PySem.W.dataLe false fun z : Str => PyData.str z)
  have strs_out : ∀ {us : List Value} {zs : List Str}, PySem.W.EachIs (fun (v : Value) z => ∃ tk, v = Value.str z tk) us zs → StrsAre us zs := by
    intro us zs r
    induction r with
    | nil => exact .nil
    | cons q _ ih =>
      obtain ⟨tk, rfl⟩ := q
      exact .cons _ tk ih
  refine wpAny_pure ⟨_, rfl, fin _ s1.heap.objs.size out c _ (fun b u e => ?_) gens os size at2 (strs_out eo) (pm.nodup_iff.mpr one) (fun z => (pm.mem_iff).trans (inM z)) (by rw [pm.length_eq, List.length_map]; exact many) ?_⟩
  · have q := keep b u e
    have lt := Heap.lt_size q
    refine (sortedHeap_old (Nat.ne_of_lt lt) (by rw [size_push']; exact Nat.lt_succ_of_lt lt)).trans (Heap.get?_push_of_some _ q)
  · have srt : ((vs.map txtOf).mergeSort (PySem.W.dataLe false fun z : Str => PyData.str z)).Pairwise fun x y => PySem.W.dataLe false (fun z : Str => PyData.str z) x y = true := PySem.W.sort_pairwise (PySem.W.sortLe_total _ false _) _
    refine srt.imp fun {x y} le => ?_
    rw [PySem.W.dataLe_str (fun z : Str => z)] at le
    simpa using le
end
end L2
namespace L2
open PySem PySem.Spec PyProof.Rows
/-- the set of texts at a -/
def SetSO (P : Program) (w : World) (a : Addr) (M : Str → Bool) (n : Nat) : HO := .ext fun h => SetG (PySem.strKind P w) h a M n
section
variable {X : Cx}
theorem setSO_new {w : World} {P : Program} {H : Hp} {h : Heap} {a : Addr} {M : Str → Bool} {n : Nat} (R : SetG (PySem.strKind P w) h a M n) : ObjOk P w H h a (SetSO P w a M n) := by
  obtain ⟨o, _, _, _, e, _⟩ := id R
  exact ⟨R, ⟨o, e⟩, fun _ _ p k => SetG.keep p k⟩
/-- set(xs), xs a list of texts -/
def rSetS (K : PySem.W.Frag) (P : Program) (w : World) : List V → Hp → VK → Prop := fun us H Q => ∃ (l : Addr) (xs : List Str), us = [V.ref l] ∧ SqL K H l (xs.map V.str) ∧ xs.length + 1 < scanBound ∧ ∀ (a : Addr) (c : Nat), H a = none → c ≤ xs.length → Q (.ref a) (upd H a (SetSO P w a (fun j => decide (j ∈ xs)) c))
theorem cr_setS (calm : X.calm = true) : CallR X (.type "set") (rSetS X.K X.prog X.w) := by
  rintro pins s σ H _ us Q I r ⟨l, xs, rfl, list, few, q⟩
  rw [Vals.ref1 r]
  obtain ⟨its, vals, plain, line⟩ := I.list list
  have gone := I.hok.fresh (Nat.le_refl s.heap.objs.size)
  have many : its.toArray.size = xs.length := by rw [List.size_toArray, ← vals.length, List.length_map]
  refine call_setG (kd := PySem.strKind X.prog X.w) (xs := xs) (I.ok.hd calm) plain.isList many (fun i v hv => ?_) few fun h2 tk c R le keep => ?_
  · have lt : i < xs.length := many ▸ (Array.getElem?_eq_some_iff.mp hv).1
    obtain ⟨u, hu, t, e⟩ := vals.get (i := i) (x := .str xs[i]) (by simp [lt])
    rw [List.getElem?_toArray, hu] at hv
    obtain rfl := Option.some.inj hv
    exact ⟨xs[i], List.getElem?_eq_getElem lt, by rw [e]; exact PySem.strKind_is _ _ _ _, by rw [e] <;> rfl⟩
  · exact ⟨.ref s.heap.objs.size, _, I.laid (t' := tk) keep (Nat.le_refl _) (setSO_new R), rfl, q _ c gone le⟩
/-- sorted(s), s a set of texts -/
def rSortS (P : Program) (w : World) : List V → Hp → VK → Prop := fun us H Q => ∃ (a : Addr) (M : Str → Bool) (n : Nat), us = [V.ref a] ∧ H a = some (SetSO P w a M n) ∧ n < 64 ∧
  ∀ (zs : List Str) (p : Addr), zs.Nodup → (∀ z, z ∈ zs ↔ M z = true) → zs.length = n → zs.Pairwise (fun x y => x.cps.toList ≤ y.cps.toList) → H p = none → Q (.ref p) (upd H p (.lst (zs.map V.str)))
theorem cr_sortS (calm : X.calm = true) (room : X.A.units + 70 < cLine) : CallR X (.builtin "sorted") (rSortS X.prog X.w) := by
  rintro pins s σ H _ us Q I r ⟨a, M, n, rfl, at_, few, q⟩
  have R : SetG (PySem.strKind X.prog X.w) s.heap a M n := (I.hok a _ at_).1
  rw [Vals.ref1 r]
  refine sorted_setG R (I.ok.hd calm) (by rw [sizeLine_eq]; omega) (by omega) fun s2 p out c zs keep gens os lt at2 txts one mem many up => ?_
  have gone : H p = none := I.hok.fresh lt
  have vals : ∀ {us : List Value} {zs : List Str}, StrsAre us zs → Vals (zs.map V.str) us := by
    intro us zs r
    induction r with
    | nil => exact .nil
    | cons z t _ ih => exact .cons ⟨t, rfl⟩ ih
  have J : Inv X pins σ (upd H p (.lst (zs.map V.str))) { s with heap := s2.heap, gens := s2.gens, drawn := s2.drawn, toks := s2.toks } :=
    I.call (ch := []) (Un.laid keep lt gone) (I.hok.laid keep lt ⟨by rw [List.length_map, many, sizeLine_eq]; omega, out, c, vals txts, at2⟩) (by rw [gens]; exact I.bare) (fun _ z => nomatch z)
  have e : s2 = { s with heap := s2.heap, gens := s2.gens, drawn := s2.drawn, toks := s2.toks } := by
    obtain ⟨_, _, _, _, _⟩ := s2
    obtain rfl := os
    rfl
  rw [e]
  exact ⟨.ref p, _, J, rfl, q zs p one mem many up gone⟩
end
end L2

namespace S16
open PySem L2 GM
open PySem.W (EachIs)
theorem nums_map (S : List Nat) : S.map (fun i => V.int ((i : Nat) : Int)) = (nums S).map V.int := by rw [List.map_map]; rfl
theorem map_erase : ∀ (l : List Int) (k : Nat), (l.map V.int).eraseIdx k = (l.eraseIdx k).map V.int
  | [], _ => rfl
  | _ :: _, 0 => rfl
  | a :: l, k + 1 => congrArg (V.int a :: ·) (map_erase l k)
theorem kept_spots (ss : List Str) (z : Str) : kept (fun i => if ss[i]? = some z then some (V.int ((i : Nat) : Int)) else none) ss.length = (spots ss z).map fun i => V.int ((i : Nat) : Int) := by
  unfold kept spots
  generalize List.range ss.length = l
  induction l with
  | nil => rfl
  | cons a l ih =>
    rw [List.filterMap_cons, List.filter_cons]
    by_cases e : ss[a]? = some z
    · rw [if_pos e, if_pos (beq_iff_eq.mpr e), List.map_cons, ih]
    · rw [if_neg e, if_neg (fun q => e (beq_iff_eq.mp q)), ih]
section
variable {P : Program} {w : World} {K : PySem.W.Frag} {mg : Str → Option Value} {base : Heap}
/-! ### _law_order -/
abbrev nOrder : List Str := ["_law_pot_here", "_law_slots", "_law_found", "_law_sort", "_law_spots", "_law_at", "_law_left"]
theorem scOrder : FnScope nOrder ["_law_pot_here", "_law_slots"] (defScope sOrder) := ⟨rfl, rfl, rfl, by decide +kernel, rfl, by decide +kernel, by decide +kernel⟩
theorem ok_order {f : Addr} {fd : FuncData} (F : Fun K "_law_order" "_law_order" sOrder f fd) (B : Bn mg) (DD : Df P w K mg base "_law_draw" ["_law_pot_here", "_law_many"] 1 spDraw) : FnOk P w K mg base CX0 2 f fd ["_law_pot_here", "_law_slots"] spOrder := by
  refine F.ok scOrder (fun vs H Q E h => ?_) (fun cdv A outer s H vs Q E hr h => ?_)
  · obtain ⟨l, a, ss, rfl, _⟩ := h
    rfl
  · obtain ⟨l, a, ss, rfl, pot, ha, nal, sok, n4, q⟩ := h
    have room : (A.deeper (PyProof.Rows.envOfC "_law_order" (defScope sOrder) s.heap.objs.size f cdv)).units + 70 < cLine := by
      have := hr.un
      omega
    refine ⟨_, pss_cons (ps_set (i := 2) scOrder.nd rfl (Or.inl rfl) (pe_listRg rfl (by rfl) B.list (prg_1 (by rfl) B.range (pe_callB call_len_seq (by rfl) B.len PySem.boot_len (pa_cons (pv 1) pa_nil)))))
      (pss_cons (ps_for PassesOwn.never rfl (pi_list (pe_callB (cr_sortS rfl room) (by rfl) B.sorted (by decide +kernel) (pa_cons (pe_callTy (cr_setS rfl) (by rfl) B.set (by decide +kernel) (pa_cons (pv 1) pa_nil)) pa_nil))) (pg_name (i := 3) scOrder.nd rfl (Or.inr rfl))
        (pss_cons (ps_setLc (i := 4) (own := [("_law_at", 5)]) (g := gName 5) (tt := tTest (tOp rEq (tOp (rIxL K) (tVar 1) (tVar 5)) (tVar 3))) (te := tVar 5) (by rfl) scOrder.nd rfl rfl (sw_true rfl rfl rfl rfl) (pi_range1 (by rfl) B.range (pa_cons (pe_callB call_len_seq (by rfl) B.len PySem.boot_len (pa_cons (pv 1) pa_nil)) pa_nil))
          (blkOk_by (own := [("_law_at", 5)]) (N := nOrder) (sc := defScope sOrder) (by decide +kernel)) (fun _ _ _ _ _ => pg_name (i := 5) scOrder.nd rfl (Or.inl rfl)) (fun _ _ _ _ _ => pts_one (pt_cmpR op_eq (pe_ix ix_list (pv 1) (pv 5) (fun _ _ => rfl)) (pv 3) (nomark _))) (fun _ _ _ _ _ => pv 5))
        (pss_cons (ps_set (i := 6) scOrder.nd rfl (Or.inl rfl) (pe_callTy call_list_of (by rfl) B.list (by decide +kernel) (pa_cons (pv 4) pa_nil)))
        (pss_one (ps_for PassesOwn.never rfl (pi_list (pv 4)) (pg_name (i := 5) scOrder.nd rfl (Or.inl rfl))
          (pss_one (ps_asg (pe_bm PySem.F.plainAttrs_list PySem.F.slot_list_pop PySem.F.type_list_pop mt_popAt (pv 6) (pa_cons (pe_df DD (hr.mono (by decide)) (by rfl) (pa_cons (pv 0) (pa_cons (pe_callB call_len_seq (by rfl) B.len PySem.boot_len (pa_cons (pv 6) pa_nil)) pa_nil))) pa_nil)) (pg_sub (pv 2) (pv 5) set_list))))))))
      (pss_one (ps_ret (pe_callTy call_tuple_of (by rfl) B.tuple (by decide +kernel) (pa_cons (pv 2) pa_nil))))), ?_⟩
    have sl : SlotsOk ss := sok
    refine ⟨_, rfl, a, _, rfl, .inl (SqL.of ha), _, rfl, RgOk.of_le (by decide) (by rw [List.length_map]; omega) (by decide) (by omega), fun D hD => ?_⟩
    rw [List.length_map, rg_idn]
    have nDl : D ≠ l := pot.ne hD
    have s1 := sNew (o := .lst ((idn ss.length).map V.int)) (Same.refl H) hD
    have at1 := upd_same (H := H) (a := D) (o := .lst ((idn ss.length).map V.int))
    have pot1 := pot.same s1
    generalize upd H D (.lst ((idn ss.length).map V.int)) = H1 at s1 at1 pot1
    refine ⟨_, rfl, a, ss, rfl, SqL.of (s1 _ _ ha), Nat.lt_of_lt_of_le (show ss.length + 1 < 62 by omega) (by decide), fun sa c hsa le => ⟨sa, _, c, rfl, upd_same, by omega, fun zs p nd mem len srt hp => ?_⟩⟩
    have s2 := sNew (o := .lst (zs.map V.str)) (sNew (Same.refl H1) hsa) hp
    have hp1 : H1 p = none := Same.free (sNew (Same.refl H1) hsa) hp
    have npl : p ≠ l := pot1.ne hp1
    have npD : p ≠ D := fun e => by rw [e, at1] at hp1; cases hp1
    refine ⟨p, rfl, ⟨_, SqL.of upd_same⟩, for_it (walk_list (K := K) (a := p) (xs := zs.map V.str)) (fun i σ G => SameX l H G ∧ PotAt G l ∧ G p = some (.lst (zs.map V.str)) ∧ ∃ f : List Int, G D = some (.lst (f.map V.int)) ∧ Mixed ss f ∧ ∃ y3 y4 y5 y6, σ = [some (.ref l), some (.ref a), some (.ref D), y3, y4, y5, y6])
      ⟨SameX.of (Same.trans s1 s2), pot1.same s2, upd_same, idn ss.length, s2 _ _ at1, mixed_idn ss, none, none, none, none, rfl⟩ (fun i σ G _ h => SqL.of h.2.2.1) ?_ ?_⟩
    · rintro i v σ _ G hi ⟨sx, pg, hp2, f, hf, mx, y3, y4, y5, y6, rfl⟩ ⟨rfl, hv⟩
      obtain ⟨z, hz, rfl⟩ := map_get hv
      have haG : G a = some (.lst (ss.map V.str)) := sx _ _ nal ha
      refine ⟨_, rfl, a, _, rfl, .inl (SqL.of haG), _, rfl, by rw [List.length_map]; omega, by rw [List.length_map]; omega, fun D2 hD2 => ?_⟩
      refine lc_new (walk_range (lo := 0) (n := (ss.map V.str).length)) (fun i => if ss[i]? = some z then some (.int (i : Nat)) else none) (lt_line (by rw [List.length_map]; omega)) hD2 (fun _ _ => trivial) ?_ ?_
      · rintro i v _ G3 hi s3 ⟨rfl, rfl⟩ Kt Kn kt kn
        rw [List.length_map] at hi
        have e0 : (0 : Int) + (i : Nat) = (i : Nat) := by omega
        refine ⟨rfl, _, rfl, _, rfl, a, _, (0 : Int) + (i : Nat), V.str ss[i], rfl, rfl, SqL.of (s3 _ _ haG), at_of (j := i) e0 (by rw [List.getElem?_map, List.getElem?_eq_getElem hi]; rfl), _, rfl, rfl, _, rfl, ?_⟩
        by_cases e : ss[i] = z
        · rw [decide_eq_true (congrArg V.str e)]
          refine iteT ⟨_, rfl, kt _ _ ?_ (Same.refl _)⟩
          rw [if_pos (by rw [List.getElem?_eq_getElem hi, e])]
          exact congrArg (fun k => some (V.int k)) e0.symm
        · rw [decide_eq_false (fun q => e (V.str.inj q))]
          exact iteF (kn (if_neg (by rw [List.getElem?_eq_getElem hi]; exact fun q => e (Option.some.inj q))) _ (Same.refl _))
      · intro G3 s3 at3
        have nD2l : D2 ≠ l := pg.ne hD2
        rw [List.length_map, kept_spots, nums_map] at at3
        refine ⟨_, rfl, D2, _, rfl, .inl (SqL.of at3), fun lf hlf => ?_⟩
        have nlf : lf ≠ D2 := fun e => by rw [e, at3] at hlf; cases hlf
        have s4 := sNew (o := .lst ((nums (spots ss z)).map V.int)) s3 hlf
        have hlfG : G lf = none := s3.free hlf
        have nlfl : lf ≠ l := pg.ne hlfG
        have nlfD : lf ≠ D := fun e => by rw [e, hf] at hlfG; cases hlfG
        have nlfp : lf ≠ p := fun e => by rw [e, hp2] at hlfG; cases hlfG
        have nD2D : D2 ≠ D := fun e => by rw [e, hf] at hD2; cases hD2
        refine ⟨_, rfl, D2, rfl, ⟨_, SqL.of (old at3 hlf)⟩, for_it (walk_list (K := K) (a := D2) (xs := (nums (spots ss z)).map V.int)) (fun j σ G4 => SameX l H G4 ∧ PotAt G4 l ∧ G4 p = some (.lst (zs.map V.str)) ∧ G4 D2 = some (.lst ((nums (spots ss z)).map V.int)) ∧
          ∃ f left : List Int, G4 D = some (.lst (f.map V.int)) ∧ G4 lf = some (.lst (left.map V.int)) ∧ Mid ss z j f left ∧ ∃ y5, σ = [some (.ref l), some (.ref a), some (.ref D), some (.str z), some (.ref D2), y5, some (.ref lf)])
          ⟨SameX.same sx s4, pg.same s4, s4 _ _ hp2, old at3 hlf, f, nums (spots ss z), s4 _ _ hf, upd_same, Mid.start z mx, _, rfl⟩ (fun j σ G4 _ h => SqL.of h.2.2.2.1) ?_ ?_⟩
        · rintro j v σ _ G4 hj ⟨sx4, pg4, hp4, hs4, f4, left, hf4, hl4, mid, y5, rfl⟩ ⟨rfl, hv⟩
          rw [List.length_map, List.length_map] at hj
          obtain ⟨i', hi', rfl⟩ := map_get hv
          obtain ⟨s0, hs0, rfl⟩ : ∃ s0, (spots ss z)[j]? = some s0 ∧ i' = ((s0 : Nat) : Int) := by
            rw [List.getElem?_map] at hi'
            cases e : (spots ss z)[j]? with
            | none => rw [e] at hi'; cases hi'
            | some x => rw [e] at hi'; exact ⟨x, rfl, (Option.some.inj hi').symm⟩
          have llen := mid.few (Nat.le_of_lt hj)
          have slen : (spots ss z).length ≤ 4 := Nat.le_trans (Nat.le_trans (List.length_filter_le _ _) (by rw [List.length_range]; exact Nat.le_refl _)) n4
          refine ⟨_, rfl, .inl ⟨rfl, _, SqL.of hl4⟩, _, rfl, _, rfl, lf, _, rfl, .inl (SqL.of hl4), l, _, rfl, pg4, by rw [List.length_map]; omega, by rw [List.length_map]; omega, fun G5 d sx5 pg5 d0 d1 => ?_⟩
          rw [List.length_map] at d1
          have hk : d.toNat < left.length := by omega
          have sl5 : s0 < f4.length := by rw [mid.len]; exact (List.getElem?_eq_some_iff.mp (mem_spots.mp (List.mem_of_getElem? hs0))).1
          refine ⟨lf, _, d, d.toNat, V.int left[d.toNat], rfl, rfl, sx5 _ _ nlfl hl4, by omega, by omega, seqIndex_of d0 (by rw [List.length_map]; omega), by rw [List.getElem?_map, List.getElem?_eq_getElem hk]; rfl, ?_⟩
          refine ⟨_, rfl, _, rfl, D, _, _, s0, rfl, rfl, by rw [upd_ne nlfD.symm]; exact sx5 _ _ nDl hf4, by unfold ixN; rw [if_pos (by omega), if_pos (by rw [List.length_map]; omega), Int.toNat_natCast], ?_⟩
          have e1 : (left.map V.int).eraseIdx d.toNat = (left.eraseIdx d.toNat).map V.int := map_erase left _
          have e2 : (f4.map V.int).set s0 (V.int left[d.toNat]) = (f4.set s0 left[d.toNat]).map V.int := by rw [List.map_set]
          refine ⟨fun b o nb e => ?_, (pg5.put nlfl.symm).put nDl.symm, ?_, ?_, f4.set s0 left[d.toNat], left.eraseIdx d.toNat, by rw [upd_same, e2], ?_, mid.step hs0 (List.getElem?_eq_getElem hk), _, rfl⟩
          · have nbD : b ≠ D := ne_of_none e hD
            have nbl : b ≠ lf := fun q => by rw [q] at e; rw [sx _ _ nlfl e] at hlfG; cases hlfG
            rw [upd_ne nbD, upd_ne nbl]
            exact sx5 _ _ nb (sx4 _ _ nb e)
          · rw [upd_ne npD, upd_ne nlfp.symm]; exact sx5 _ _ npl hp4
          · rw [upd_ne nD2D, upd_ne nlf.symm]; exact sx5 _ _ nD2l hs4
          · rw [upd_ne nlfD, upd_same, e1]
        · rintro σ G4 ⟨sx4, pg4, hp4, hs4, f4, left, hf4, hl4, mid, y5, rfl⟩
          rw [List.length_map, List.length_map] at mid
          exact ⟨sx4, pg4, hp4, f4, hf4, mid.done, _, _, _, _, rfl⟩
    · rintro σ G ⟨sx, pg, hp2, f, hf, mx, y3, y4, y5, y6, rfl⟩
      refine ⟨_, rfl, D, _, rfl, .inl ⟨SqL.of hf, fun t ht => ?_⟩⟩
      have s5 := sNew (o := .tup (f.map V.int)) (Same.refl G) ht
      exact q _ t f (SameX.same sx s5) (pg.same s5) (sx.free (pg.ne ht) ht) upd_same mx.keeps
end
end S16

namespace S16
open PySem L2 GM
/-- the law sees what vanishes -/
theorem gone_iff {n : Nat} {T L : List Turn} (n4 : n ≤ 4) (are : Are n T) (few : T.length ≤ 3) (ball : ∀ p, p ∈ L ↔ Ball n T 24 p) : (idn n, (-1 : Int)) ∈ L ↔ ¬ Single n T := by
  constructor
  · intro m sg
    have z := sg (idn n) (-1) 1 ((ball _).mp m).reach .one
    omega
  · exact fun no => (ball _).mpr (ball_neg n4 are few no)
theorem keys_of {n : Nat} {T : List Turn} (sg : Single n T) : ∀ {L : List Turn}, L.Nodup → (∀ p ∈ L, Reach n T p.1 p.2) → (L.map Prod.fst).Nodup
  | [], _, _ => List.nodup_nil
  | p :: L, nd, re => by
    have h := List.nodup_cons.mp nd
    refine List.nodup_cons.mpr ⟨fun m => ?_, keys_of sg h.2 fun q hq => re q (List.mem_cons_of_mem _ hq)⟩
    obtain ⟨q, hq, e⟩ := List.mem_map.mp m
    have r1 := re q (List.mem_cons_of_mem _ hq)
    have r2 := re p List.mem_cons_self
    rw [e] at r1
    have s := sg _ _ _ r1 r2
    exact h.1 ((Prod.ext e s : q = p) ▸ hq)
/-- the law's list is the program's group -/
theorem grp_of {n : Nat} {T L : List Turn} (n4 : n ≤ 4) (are : Are n T) (sg : Single n T) (srt : Srt L) (nd : L.Nodup) (ball : ∀ p, p ∈ L ↔ Ball n T 24 p) : Grp n T L :=
  ⟨srt, fun p => (ball p).trans (Ball.all n4 are sg), keys_of sg nd fun p m => ((ball p).mp m).reach⟩
theorem grp_one {n : Nat} {T L M : List Turn} (a : Grp n T L) (b : Grp n T M) : L = M := srt_same (nodup_of_keys a.nd) (nodup_of_keys b.nd) (fun p => (a.lists p).trans (b.lists p).symm) a.srt b.srt
theorem Grp.are {n : Nat} {T L : List Turn} (are : Are n T) (g : Grp n T L) : Are n L := fun p m => ((g.lists p).mp m).are are
theorem Grp.few {n : Nat} {T L : List Turn} (n4 : n ≤ 4) (are : Are n T) (g : Grp n T L) : L.length ≤ 48 := reach_few n4 are (nodup_of_keys g.nd) fun p m => (g.lists p).mp m
/-- fewer turns: their group is all of it, or another one -/
theorem grp_sub {n : Nat} {T S L M : List Turn} (n4 : n ≤ 4) (are : Are n T) (sg : Single n T) (sub : ∀ t ∈ S, Reach n T t.1 t.2) (srt : Srt M) (nd : M.Nodup) (ball : ∀ p, p ∈ M ↔ Ball n S 24 p) : Grp n S M :=
  grp_of n4 (fun t m => (sub t m).are are) (sg.sub are sub) srt nd ball
end S16

/-! min(xs), xs a list of tuples of numbers -/
namespace L2
open PySem PySem.Spec PyProof.Rows
theorem best_low {α : Type} (f : Nat → List Int) : ∀ k, argBest (fun i j => decide (f i < f j)) k ≤ k ∧ ∀ j, j ≤ k → ¬ f j < f (argBest (fun i j => decide (f i < f j)) k)
  | 0 => ⟨Nat.le_refl _, fun j h => by
    obtain rfl : j = 0 := by omega
    exact List.lt_irrefl _⟩
  | k + 1 => by
    obtain ⟨h1, h2⟩ := best_low (α := α) f k
    rw [argBest]
    by_cases h : f (k + 1) < f (argBest (fun i j => decide (f i < f j)) k)
    · rw [if_pos (decide_eq_true h)]
      refine ⟨Nat.le_refl _, fun j hj => ?_⟩
      by_cases e : j = k + 1
      · subst e
        exact List.lt_irrefl _
      · exact fun z => h2 j (by omega) (List.lt_trans z h)
    · rw [if_neg (by simpa using h)]
      refine ⟨by omega, fun j hj => ?_⟩
      by_cases e : j = k + 1
      · subst e
        exact h
      · exact h2 j (by omega)
section
variable {X : Cx}
def rMinT (K : PySem.W.Frag) : List V → Hp → VK → Prop := fun vs H Q => ∃ (a : Addr) (ks : List (Addr × List Int)), vs = [V.ref a] ∧ SqL K H a (ks.map fun p => V.ref p.1) ∧ ks ≠ [] ∧ (∀ p ∈ ks, SqT K H p.1 (p.2.map V.int)) ∧ ∀ p ∈ ks, (∀ q ∈ ks, ¬ q.2 < p.2) → Q (.ref p.1) H
theorem cr_minT (calm : X.calm = true) (room : X.A.units + 70 < cLine) : CallR X (.builtin "min") (rMinT X.K) := by
  intro pins s σ H vs us Q I r h
  obtain ⟨a, ks, rfl, isL, some_, each, q⟩ := h
  obtain ⟨its, rv, at_, many⟩ := I.list isL
  rw [Vals.ref1 r]
  have len : ks.length = its.length := by
    have := rv.length
    rwa [List.length_map] at this
  have pos : 0 < ks.length := List.length_pos_iff.mpr some_
  have eq := refs_of_vals rv
  have at1 := at_.isList
  have lt : a < s.heap.objs.size := at_.lt
  have apart : a ≠ s.heap.objs.size := Nat.ne_of_lt lt
  have item : ∀ (i : Nat) (v : Value), its.toArray[i]? = some v → ∃ p, ks[i]? = some p ∧ v = .ref p.1 := by
    intro i v hv
    rw [List.getElem?_toArray, eq, List.getElem?_map] at hv
    cases e : ks[i]? with
    | none => rw [e] at hv; cases hv
    | some p => rw [e] at hv; exact ⟨p, rfl, (Option.some.inj hv).symm⟩
  let f : Nat → List Int := fun i => ((ks[i]?).map Prod.snd).getD []
  have reads : ∀ p ∈ ks, ∃ as, Reads s.heap (.ref p.1) (.tuple (p.2.map PyData.int)) as := fun p m => by
    have dp : ∀ ns : List Int, DpAll X.K H (ns.map V.int) (ns.map PyData.int) := by
      intro ns
      induction ns with
      | nil => exact .nil
      | cons n ns ih => exact .cons (.int n) ih
    exact Dp.reads I _ (.ref p.1) _ (.tup (each p m) (dp p.2)) rfl
  have cmp : CmpIn X.prog X.w X.A.in1 .Lt s.heap (fun i v => its.toArray[i]? = some v) (fun i j => decide (f i < f j)) := by
    intro i j vi vj s2 Q2 E2 keep hi hj q2
    obtain ⟨p, hp, rfl⟩ := item i vi hi
    obtain ⟨p', hp', rfl⟩ := item j vj hj
    obtain ⟨as, r1⟩ := reads p (List.mem_of_getElem? hp)
    obtain ⟨bs, r2⟩ := reads p' (List.mem_of_getElem? hp')
    have d : (PyData.tuple (p.2.map PyData.int)).depth ≤ 1 := by
      rw [PyData.depth, PySem.W.depth_ints]
      exact Nat.le_refl _
    have al : PySem.W.alike (.tuple (p.2.map PyData.int)) (.tuple (p'.2.map PyData.int)) = true := by
      rw [PySem.W.alike]
      exact PySem.W.alike_ints p.2 p'.2
    have l : PySem.W.dataLt (.tuple (p.2.map PyData.int)) (.tuple (p'.2.map PyData.int)) = decide (f i < f j) := by
      rw [PySem.W.dataLt_tuple]
      show PySem.W.rowLt _ _ = _
      rw [PySem.W.dataLt_ints]
      show _ = decide (((ks[i]?).map Prod.snd).getD [] < ((ks[j]?).map Prod.snd).getD [])
      rw [hp, hp'] <;> rfl
    change Q2 (Value.bool (decide (f i < f j))) s2 at q2
    rw [← l] at q2
    exact PySem.W.rcLt_alike _ _ X.A.in1 s2 _ _ as bs (Reads.keeps keep r1) (Reads.keeps keep r2) al (fun z => by cases z) (by
      show X.A.units + 1 + min (PyData.tuple (p.2.map PyData.int)).depth _ < cLine
      omega) X.prog X.w E2 Q2 q2
  refine call_min_walkH (wpAny_pyIter_list at1 ?_)
  refine ⟨s.heap.objs.size, _, _, _, _, _, _, s.heap, _, rfl, (Walks.list (by simp [I.ok.hd calm]) _ a apart its.toArray).toS, ⟨⟨_, Heap.get?_push_size _ rfl, rfl, rfl⟩, at1.push _⟩, ?_, by rw [List.size_toArray, ← len]; exact pos, ?_, fun b o e => Heap.get?_push_of_some _ e, cmp, ?_⟩
  · intro b hb
    show b < (s.heap.push _).objs.size
    rw [Heap.size_push]
    rcases List.mem_cons.mp hb with rfl | hb
    · exact Nat.lt_succ_self _
    · exact List.mem_singleton.mp hb ▸ Nat.lt_succ_of_lt lt
  · intro b o e hb
    rw [List.mem_singleton.mp hb] at e
    exact Nat.lt_irrefl _ (Heap.lt_size e)
  · rintro v ⟨h2, gens, dr, tk, os⟩ best mv
    obtain ⟨rfl, rfl, rfl⟩ : gens = s.gens ∧ dr = s.drawn ∧ os = s.os := ⟨mv.gens, mv.drawn, mv.os⟩
    obtain ⟨p, hp, rfl⟩ := item _ v best
    obtain ⟨b1, b2⟩ := best_low (α := Nat) f (its.toArray.size - 1)
    have low : ∀ y ∈ ks, ¬ y.2 < p.2 := fun y hy => by
      obtain ⟨j, hj, e⟩ := List.getElem_of_mem hy
      have z := b2 j (by rw [List.size_toArray]; omega)
      have fj : f j = y.2 := by
        show ((ks[j]?).map Prod.snd).getD [] = _
        rw [List.getElem?_eq_getElem hj, e] <;> rfl
      have fp : f (argBest (fun i j => decide (f i < f j)) (its.toArray.size - 1)) = p.2 := by
        show ((ks[_]?).map Prod.snd).getD [] = _
        rw [hp] <;> rfl
      rwa [fj, fp] at z
    refine ⟨.ref p.1, H, I.kept (t' := tk) fun b o e => mv.heap b o (fun hb => ?_) (Heap.get?_push_of_some _ e), rfl, q p (List.mem_of_getElem? hp) low⟩
    rw [List.mem_singleton.mp hb] at e
    exact Nat.lt_irrefl _ (Heap.lt_size e)
end
end L2

namespace S16
open PySem L2 GM
open PySem.W (EachIs)
/-- the two numbers that draw are no group, and no texts -/
theorem GroupAt.off {H : Hp} {a l : Addr} {L : List Turn} (h : GroupAt H a L) (p : PotAt H l) : a ≠ l := fun e => by
  obtain ⟨x, y, el, _⟩ := p
  obtain ⟨vs, h1, h2⟩ := h
  rw [e, el] at h1
  cases h1
  cases h2 with
  | cons r _ =>
    obtain ⟨t, u, z, _⟩ := r
    cases z
theorem TextsS.off {H : Hp} {a l : Addr} {ss : List Str} (h : TextsS H a ss) (p : PotAt H l) : a ≠ l := fun e => by
  obtain ⟨x, y, el, _⟩ := p
  rcases h with h | h
  · rw [e, el] at h
    cases ss with
    | nil => cases h
    | cons z zs => cases h
  · rw [e, el] at h
    cases h
theorem TabAt.pot {C : Addr} {H H' : Hp} {a l : Addr} {z : Str} {ss : List Str} {L : List Turn} (p : PotAt H l) (e : SameX l H H') (h : TabAt C H a z ss L) : TabAt C H' a z ss L := by
  obtain ⟨x, y, el, _⟩ := id p
  obtain ⟨dx, sa, ga, h1, h2, h3⟩ := h
  exact ⟨dx, sa, ga, e _ _ (ne_of h1 el (fun z => by cases z)) h1, e _ _ (ne_of h2 el (fun z => by cases z)) h2, h3.pot p (h3.off p) e⟩
/-- what the law reads: least places, and the sign from the set of theirs -/
theorem least_set {M : List Turn} {lo : List Int} {S : List Int} (mem : ∃ m ∈ M, m.1 = lo) (low : ∀ m ∈ M, ¬ m.1 < lo) (up : S.Pairwise (· < ·)) (iff : ∀ k, k ∈ S ↔ k ∈ signsAt lo M) : LeastIs M lo (if S.length = 1 then S.getD 0 0 else 0) := by
  refine ⟨mem, low, ?_⟩
  match S, up, iff with
  | [], _, iff =>
    obtain ⟨m, hm, e⟩ := mem
    exact absurd ((iff m.2).mpr (mem_signsAt.mpr ⟨m, hm, e, rfl⟩)) List.not_mem_nil
  | [s], _, iff =>
    refine .inl fun m hm e => ?_
    exact List.mem_singleton.mp ((iff m.2).mpr (mem_signsAt.mpr ⟨m, hm, e, rfl⟩))
  | s :: t :: r, up, iff =>
    obtain ⟨m, hm, e, rfl⟩ := mem_signsAt.mp ((iff s).mp List.mem_cons_self)
    obtain ⟨n, hn, e', rfl⟩ := mem_signsAt.mp ((iff t).mp (List.mem_cons_of_mem _ List.mem_cons_self))
    refine .inr ⟨by rw [if_neg (by simp)], m, n, hm, hn, e, e', ?_⟩
    have := (List.pairwise_cons.mp up).1 n.2 List.mem_cons_self
    omega
/-- [mate for mate, sign in mates] -/
theorem firsts_read {K : PySem.W.Frag} {G : Hp} {r : Addr} {M : List Turn} {x0 x1 x2 x3 x4 x5 x7 x8 x9 x10 x11 x12 x13 : Option V} {Q : VK} (g : GroupAt G r M) (few : M.length ≤ 100)
    (q : ∀ G' D (ks : List (Addr × List Int)), Same G G' → G D = none → G' D = some (.lst (ks.map fun p => V.ref p.1)) → (∀ p ∈ ks, OrdIs G' p) → ks.map Prod.snd = M.map Prod.fst → Q (.ref D) G') :
    tLc (iList K (tVar 6)) (gTup K 2 (gCons (gName 12) (gCons (gName 13) gNil))) tYes (tVar 12) [12, 13] [x0, x1, x2, x3, x4, x5, some (.ref r), x7, x8, x9, x10, x11, x12, x13] G Q := by
  obtain ⟨gv, h3, h4⟩ := g
  have len : gv.length = M.length := EachIs.length h4
  refine ⟨_, rfl, r, rfl, ⟨_, SqL.of h3⟩, fun D hD => ?_⟩
  refine lc_it (walk_list (K := K) (a := r) (xs := gv)) (fun i G' => Same G G' ∧ ∃ ks : List (Addr × List Int), G' D = some (.lst (ks.map fun p => V.ref p.1)) ∧ (∀ p ∈ ks, OrdIs G' p) ∧ ks.map Prod.snd = (M.take i).map Prod.fst) ⟨sNew (Same.refl G) hD, [], upd_same, (fun _ m => absurd m List.not_mem_nil), rfl⟩ (fun i G' _ h => SqL.of (h.1 _ _ h3)) ?_ ?_
  · rintro i v _ G1 hi ⟨sG, ks, hks, tks, eks⟩ ⟨rfl, hv⟩
    obtain ⟨q0, hq, T, u, rfl, e1, e2⟩ := each_get (TurnsS.same sG h4) hv
    have klen : ks.length ≤ 100 := by
      have := congrArg List.length eks
      rw [List.length_map, List.length_map, List.length_take] at this
      omega
    refine ⟨T, _, rfl, .inl (.inl e1), rfl, _, _, rfl, _, _, rfl, rfl, rfl, _, rfl, _, hks, lt_line (by rw [List.length_map]; omega), sPut sG hD, ks ++ [(u, q0.1)], by rw [upd_same, List.map_append]; rfl, fun x m => ?_, ?_⟩
    · have o : OrdIs G1 x := by
        rcases List.mem_append.mp m with m | m
        · exact tks x m
        · rw [List.mem_singleton.mp m]
          exact e2
      show upd G1 D _ x.1 = _
      rw [upd_ne (ne_of o hks (fun z => by cases z))]
      exact o
    · rw [List.map_append, eks, List.take_add_one, hq, List.map_append]
      rfl
  · rintro G1 ⟨sG, ks, hks, tks, eks⟩
    rw [len, List.take_length] at eks
    exact q G1 D ks sG hD hks tks eks
end S16

namespace S16
open PySem L2 GM
open PySem.W (EachIs)
theorem signs_map (lo : List Int) (M : List Turn) : (M.filterMap fun m => if m.1 = lo then some (V.int m.2) else none) = (signsAt lo M).map V.int := by
  unfold signsAt
  induction M with
  | nil => rfl
  | cons a X ih =>
    rw [List.filterMap_cons, List.filter_cons]
    by_cases eq : a.1 = lo
    · rw [if_pos eq, if_pos (decide_eq_true eq), List.map_cons, List.map_cons, ← ih]
    · rw [if_neg eq, if_neg (by simpa using eq), ih]
/-- [sign for mate, sign in mates if mate == least] -/
theorem signs_read {K : PySem.W.Frag} {G : Hp} {r la : Addr} {lo : List Int} {M : List Turn} {x0 x1 x2 x3 x4 x5 x8 x9 x10 x11 x12 x13 : Option V} {Q : VK} (g : GroupAt G r M) (few : M.length ≤ 100) (hla : OrdIs G (la, lo))
    (q : ∀ G' D, Same G G' → G D = none → G' D = some (.lst ((signsAt lo M).map V.int)) → Q (.ref D) G') :
    tLc (iList K (tVar 6)) (gTup K 2 (gCons (gName 12) (gCons (gName 13) gNil))) (tTest (tOp (rEqD K) (tVar 12) (tVar 7))) (tVar 13) [12, 13] [x0, x1, x2, x3, x4, x5, some (.ref r), some (.ref la), x8, x9, x10, x11, x12, x13] G Q := by
  obtain ⟨gv, h3, h4⟩ := g
  have len : gv.length = M.length := EachIs.length h4
  refine ⟨_, rfl, r, rfl, ⟨_, SqL.of h3⟩, fun D hD => ?_⟩
  refine lc_new (walk_list (K := K) (a := r) (xs := gv)) (fun i => (M[i]?).bind fun m => if m.1 = lo then some (V.int m.2) else none) (by rw [len]; exact lt_line (by omega)) hD (fun G3 s3 => SqL.of (s3 _ _ h3)) ?_ ?_
  · rintro i v _ G3 hi s3 ⟨rfl, hv⟩ Kt Kn kt kn
    obtain ⟨m, hm, T, u, rfl, x1, x2⟩ := each_get (TurnsS.same s3 h4) hv
    refine ⟨T, _, rfl, .inl (.inl x1), rfl, _, _, rfl, _, _, rfl, rfl, rfl, _, rfl, _, rfl, _, _, dp_ord (.inl (.inl x2)), dp_ord (.inl (.inl (s3 _ _ hla))), sh_intsT _, sh_intsT _, _, rfl, ?_⟩
    rw [eqv_ord]
    by_cases eq : m.1 = lo
    · rw [decide_eq_true eq]
      refine iteT ⟨_, rfl, kt _ _ ?_ (Same.refl _)⟩
      show (M[i]?).bind _ = _
      rw [hm]
      exact if_pos eq
    · rw [decide_eq_false eq]
      refine iteF (kn ?_ _ (Same.refl _))
      show (M[i]?).bind _ = _
      rw [hm]
      exact if_neg eq
  · intro G3 s3 at_
    rw [len, kept_bind, signs_map] at at_
    exact q G3 D s3 hD at_
end S16

namespace S16
open PySem L2 GM
open PySem.W (EachIs)
theorem log_of {n m : Nat} (h : n < 2 ^ m) (h0 : 0 < m) : n.log2 < m := by
  by_cases hn : n = 0
  · subst hn
    exact h0
  · exact (Nat.log2_lt hn).mpr h
theorem small_int {i : Int} (h : i.natAbs < 2 ^ 100) : i.natAbs.log2 < 1920 := Nat.lt_trans (log_of h (by decide)) (by decide)
theorem len_int {i : Int} (h : i.natAbs < 2 ^ 100) : ((toString i : String) : Str).length ≤ 2000 := by
  have := PyProof.Rows.int_text_len_1921 (i := i) (small_int h)
  simpa using Nat.le_trans this (by decide)
def Small (ns : List Int) : Prop := ns.length ≤ 4 ∧ ∀ i ∈ ns, i.natAbs < 2 ^ 100
theorem show_ints : ∀ {ns : List Int}, (∀ i ∈ ns, i.natAbs < 2 ^ 100) → PyData.showableAll (ns.map PyData.int) = true ∧ PyData.hasDictAll (ns.map PyData.int) = false ∧ ((PyData.shownAll (ns.map PyData.int)).map (·.length)).sum ≤ 2000 * ns.length ∧ (PyData.shownAll (ns.map PyData.int)).length = ns.length
  | [], _ => ⟨rfl, rfl, Nat.zero_le _, rfl⟩
  | i :: ns, h => by
    obtain ⟨a, b, c, d⟩ := show_ints (ns := ns) fun q hq => h q (List.mem_cons_of_mem _ hq)
    have h1 := h i List.mem_cons_self
    have l1 : (PyData.shown (.int i)).length ≤ 2000 := len_int h1
    refine ⟨?_, ?_, ?_, ?_⟩
    · show (decide _ && PyData.showableAll (ns.map PyData.int)) = true
      rw [decide_eq_true (small_int h1), a]
      rfl
    · show (false || PyData.hasDictAll (ns.map PyData.int)) = false
      rw [b]
      rfl
    · show (PyData.shown (.int i)).length + ((PyData.shownAll (ns.map PyData.int)).map (·.length)).sum ≤ 2000 * (ns.length + 1)
      omega
    · show (PyData.shownAll (ns.map PyData.int)).length + 1 = ns.length + 1
      rw [d]
theorem show_ord {ns : List Int} (h : Small ns) : (ordD ns).showable = true ∧ (ordD ns).hasDict = false ∧ (ordD ns).shown.length ≤ 9000 := by
  obtain ⟨a, b, c, d⟩ := show_ints h.2
  refine ⟨a, b, ?_⟩
  have z : (ordD ns).shown.length ≤ _ := tupleText_len_le (PyData.shownAll (ns.map PyData.int))
  have l := h.1
  rw [d] at z
  omega
/-- (g, (..)) -/
theorem show_due {g : Int} {ns : List Int} (hg : g.natAbs < 2 ^ 100) (h : Small ns) : (PyData.tuple [.int g, ordD ns]).showable = true ∧ (PyData.tuple [.int g, ordD ns]).hasDict = false ∧ (PyData.tuple [.int g, ordD ns]).shown.length ≤ 20000 := by
  obtain ⟨a, b, c⟩ := show_ord h
  refine ⟨?_, ?_, ?_⟩
  · show (decide _ && ((ordD ns).showable && true)) = true
    rw [decide_eq_true (small_int hg), a]
    rfl
  · show (false || ((ordD ns).hasDict || false)) = false
    rw [b]
    rfl
  · have z : (PyData.tuple [.int g, ordD ns]).shown.length ≤ _ := tupleText_len_le [(PyData.int g).shown, (ordD ns).shown]
    have z1 : (PyData.int g).shown.length ≤ 2000 := len_int hg
    simp only [List.map_cons, List.map_nil, List.sum_cons, List.sum_nil, List.length_cons, List.length_nil] at z
    omega
/-- [(..), ..] -/
theorem show_ordsA : ∀ {D : List (List Int)}, (∀ ns ∈ D, Small ns) → PyData.showableAll (D.map ordD) = true ∧ PyData.hasDictAll (D.map ordD) = false ∧ ((PyData.shownAll (D.map ordD)).map (·.length)).sum ≤ 9000 * D.length ∧ (PyData.shownAll (D.map ordD)).length = D.length
  | [], _ => ⟨rfl, rfl, Nat.zero_le _, rfl⟩
  | ns :: D, h => by
    obtain ⟨a, b, c, d⟩ := show_ordsA (D := D) fun q hq => h q (List.mem_cons_of_mem _ hq)
    obtain ⟨x, y, z⟩ := show_ord (h ns List.mem_cons_self)
    refine ⟨?_, ?_, ?_, ?_⟩
    · show ((ordD ns).showable && PyData.showableAll (D.map ordD)) = true
      rw [x, a]
      rfl
    · show ((ordD ns).hasDict || PyData.hasDictAll (D.map ordD)) = false
      rw [y, b]
      rfl
    · show (ordD ns).shown.length + ((PyData.shownAll (D.map ordD)).map (·.length)).sum ≤ 9000 * (D.length + 1)
      omega
    · show (PyData.shownAll (D.map ordD)).length + 1 = D.length + 1
      rw [d]
theorem show_ords {D : List (List Int)} (h : ∀ ns ∈ D, Small ns) (few : D.length ≤ 100) : (PyData.list (D.map ordD)).showable = true ∧ (PyData.list (D.map ordD)).hasDict = false ∧ (PyData.list (D.map ordD)).shown.length ≤ 1000000 := by
  obtain ⟨a, b, c, d⟩ := show_ordsA h
  refine ⟨a, b, ?_⟩
  have z : (PyData.list (D.map ordD)).shown.length ≤ _ := listText_len_le (PyData.shownAll (D.map ordD))
  rw [d] at z
  omega
theorem small_mv {ns o : List Int} (h : Small ns) (l : o.length ≤ 4) : Small (mv ns o) := by
  refine ⟨by unfold mv; rw [List.length_map]; exact l, fun i hi => ?_⟩
  unfold mv at hi
  obtain ⟨j, hj, rfl⟩ := List.mem_map.mp hi
  rw [List.getD_eq_getElem?_getD]
  cases e : ns[j.toNat]? with
  | none => decide
  | some v => exact h.2 v (List.mem_of_getElem? e)
end S16

namespace S16
open PySem L2 GM
open PySem.W (EachIs)
/-- small turns -/
def SmallT (L : List Turn) : Prop := ∀ p ∈ L, Small p.1 ∧ p.2.natAbs < 2 ^ 100
theorem show_turn {p : Turn} (h : Small p.1) (hs : p.2.natAbs < 2 ^ 100) : (turnD p).showable = true ∧ (turnD p).hasDict = false ∧ (turnD p).shown.length ≤ 20000 := by
  obtain ⟨a, b, c⟩ := show_ord h
  refine ⟨?_, ?_, ?_⟩
  · show ((ordD p.1).showable && (decide _ && true)) = true
    rw [a, decide_eq_true (small_int hs)]
    rfl
  · show ((ordD p.1).hasDict || (false || false)) = false
    rw [b]
    rfl
  · have z : (turnD p).shown.length ≤ _ := tupleText_len_le [(ordD p.1).shown, (PyData.int p.2).shown]
    have z1 : (PyData.int p.2).shown.length ≤ 2000 := len_int hs
    simp only [List.map_cons, List.map_nil, List.sum_cons, List.sum_nil, List.length_cons, List.length_nil] at z
    omega
theorem show_turnsA : ∀ {L : List Turn}, SmallT L → PyData.showableAll (L.map turnD) = true ∧ PyData.hasDictAll (L.map turnD) = false ∧ ((PyData.shownAll (L.map turnD)).map (·.length)).sum ≤ 20000 * L.length ∧ (PyData.shownAll (L.map turnD)).length = L.length
  | [], _ => ⟨rfl, rfl, Nat.zero_le _, rfl⟩
  | p :: L, h => by
    obtain ⟨a, b, c, d⟩ := show_turnsA (L := L) fun q hq => h q (List.mem_cons_of_mem _ hq)
    obtain ⟨x, y, z⟩ := show_turn (h p List.mem_cons_self).1 (h p List.mem_cons_self).2
    refine ⟨?_, ?_, ?_, ?_⟩
    · show ((turnD p).showable && PyData.showableAll (L.map turnD)) = true
      rw [x, a]
      rfl
    · show ((turnD p).hasDict || PyData.hasDictAll (L.map turnD)) = false
      rw [y, b]
      rfl
    · show (turnD p).shown.length + ((PyData.shownAll (L.map turnD)).map (·.length)).sum ≤ 20000 * (L.length + 1)
      omega
    · show (PyData.shownAll (L.map turnD)).length + 1 = L.length + 1
      rw [d]
/-- [((..), s), ..] -/
theorem show_turns {L : List Turn} (h : SmallT L) (few : L.length ≤ 100) : (PyData.list (L.map turnD)).showable = true ∧ (PyData.list (L.map turnD)).hasDict = false ∧ (PyData.list (L.map turnD)).shown.length ≤ 2100000 := by
  obtain ⟨a, b, c, d⟩ := show_turnsA h
  refine ⟨a, b, ?_⟩
  have z : (PyData.list (L.map turnD)).shown.length ≤ _ := listText_len_le (PyData.shownAll (L.map turnD))
  rw [d] at z
  omega
theorem small_idn {n : Nat} {o : List Int} (n4 : n ≤ 4) (p : o.Perm (idn n)) : Small o := by
  refine ⟨by rw [perm_len p]; exact n4, fun i hi => ?_⟩
  have z := idn_fits p i hi
  omega
theorem small_are {n : Nat} {L : List Turn} (n4 : n ≤ 4) (are : Are n L) : SmallT L := fun p m => ⟨small_idn n4 (are p m).1, by
  rcases (are p m).2 with e | e
  · rw [e]; decide
  · rw [e]; decide⟩
end S16

/-! x == y, x != y: x an instance with own methods, y of any type that the layer knows -/
namespace L2
open PySem PySem.Spec PyProof.Rows
section
variable {X : Cx} {k : Nat} {pins : List (Addr × Obj)} {σ : St} {H : Hp} {s : Shared}
/-- what the own __eq__ is asked, beside a value of any type that the layer knows -/
def rOwnEqX (K : PySem.W.Frag) (C : Addr) (sp : Sp) (neg : Bool) : R2 := fun x y H Q => ∃ a dx fs tb, x = .ref a ∧ H a = some (.ins C dx fs) ∧ TyX K H y tb ∧ PySem.W.notFirst K C tb = true ∧ sp [x, y] H (fun v H' => ∃ b, v = .bl b ∧ Q (.bl (xor neg b)) H') E0
theorem op_ownEqX {C g : Addr} {sp : Sp} (hs : PySem.W.findIn X.K (.ref C) "__eq__" = some (some (.ref g))) (hf : PySem.W.isFn X.K (.ref g) = true)
    (F : FnR X.prog X.w X.K X.mg X.base CX0 k g sp) (hr : Room k X.A) : OpR X (compareOp .Eq) (rOwnEqX X.K C sp false) := by
  intro pins s σ H x y v u Q I rx ry h
  obtain ⟨a, dx, fs, tb, rfl, ha, hy, hn, q⟩ := h
  cases (show v = Value.ref a from rx)
  obtain ⟨mA, M, _⟩ := ins_get I.hok ha
  obtain ⟨od, J, _⟩ := M.look
  obtain ⟨m, hF⟩ := I.fr
  obtain ⟨Pr, kx, pr, _⟩ := kit_of I ry hy
  show wpAny _ _ (richCompare .Eq (.ref a) u) _ _ _
  refine PySem.W.cmp_K hr.units0 hF I.ok.mod.kin J (kx.ty _ _ I.kIn pr) hn hs hf ?_
  refine wpAny_mono (run_fnA (vs := [.ref a, y]) F I.ok.frames hr I (.cons rfl (.cons ry .nil)) q) (fun w s' z => ?_) fun _ _ x => x
  obtain ⟨z', H', I', rz, b, rfl, qz⟩ := z
  obtain rfl : w = Value.bool b := rz
  exact ⟨.bl b, H', I', rfl, by rw [Bool.false_xor] at qz; exact qz⟩
theorem op_ownNeX {C g : Addr} {sp : Sp} (hs : PySem.W.findIn X.K (.ref C) "__eq__" = some (some (.ref g))) (hf : PySem.W.isFn X.K (.ref g) = true) (hne : PySem.W.findIn X.K (.ref C) "__ne__" = some (some (.builtin "object.__ne__"))) (hm : PySem.W.mroIn X.K C (.type "object") = some true)

    (F : FnR X.prog X.w X.K X.mg X.base CX0 k g sp) (hr : Room (k + 1) X.A) : OpR X (compareOp .NotEq) (rOwnEqX X.K C sp true) := by
  intro pins s σ H x y v u Q I rx ry h
  obtain ⟨a, dx, fs, tb, rfl, ha, hy, hn, q⟩ := h
  cases (show v = Value.ref a from rx)
  obtain ⟨mA, M, _⟩ := ins_get I.hok ha
  obtain ⟨od, J, _⟩ := M.look
  obtain ⟨Pr, kx, pr, _⟩ := kit_of I ry hy
  have one : wpAny (model X.prog X.w) X.A (tryCompare (.ref a) "__ne__" u) (fun r s' => ∃ v, r = some v ∧ EP X pins σ Q v s') X.xe s := by
    unfold tryCompare
    have hc : wpAny (model X.prog X.w) X.A (call (.builtin "object.__ne__") [.ref a, u]) (fun v s' => ∃ b, v = .bool b ∧ EP X pins σ Q (.bool b) s') X.xe s := by
      refine wpAny_call (codeAny_call_builtin PySem.F.cmp_object.ne.plain PySem.F.cmpEntry_ne (PySem.W.check_slot PySem.F.cmpKind_ne PySem.F.cmpSplit_ne (J.type.andThen (PySem.W.looks_mroIn I.kIn hm)) (PySem.F.cmpArgs_ne _ _) ?_))
      unfold Builtin.«object.__ne__»
      refine wpAny_bind (m := slotArgs "__ne__" 1 _) (wpAny_pure ?_)
      refine wpAny_bind (m := cRoomFor _ _) (wpAny_cRoomFor (by have := hr.un; show X.A.units + 1 < cLine; omega) ?_)
      refine wpAny_bind (m := callSpecialIfBound? (.ref a) (Str.ofString "__eq__") [u]) (PySem.W.ifBound_K I.kIn J hs hf (wpAny_mono (run_fnA (A' := X.A.in1) (vs := [.ref a, y]) F I.ok.frames hr.in1 I (.cons rfl (.cons ry .nil)) q) (fun w s' z => ?_) fun _ _ x => x))
      obtain ⟨z', H', I', rz, b, rfl, qz⟩ := z
      obtain rfl : w = Value.bool b := rz
      refine wpAny_bind (m := truthy (.bool b)) (wpAny_truthy_bool (wpAny_pure ⟨_, rfl, .bl (!b), H', I', rfl, by rw [Bool.true_xor] at qz; exact qz⟩))
    refine wpAny_bind (m := callSpecialIfBound? (.ref a) (Str.ofString "__ne__") [u]) ?_
    simp only [callSpecialIfBound?, bindSpecialIfBound?]
    refine wpAny_holding (wpAny_bind (wpAny_bind (wpAny_bind (J.type.here ((PySem.W.looks_findIn I.kIn hne).here ?_)))))
    simp only [PySem.F.cmp_object.ne.bind]
    refine wpAny_bind (wpAny_askSetting (wpAny_ite ?_))
    have fin : ∀ {Q' : Option Value → Shared → Prop}, (∀ b s', EP X pins σ Q (.bool b) s' → Q' (some (.bool b)) s') → wpAny (model X.prog X.w) X.A (call (.builtin "object.__ne__") ([.ref a] ++ [u]) >>= fun v => pure (some v)) Q' X.xe s := fun {Q'} hq => wpAny_bind (wpAny_mono hc (fun v s' ⟨b, e, h'⟩ => by subst e; exact wpAny_pure (hq b s' h')) fun _ _ h' => h')
    split
    · exact wpAny_bind (wpAny_pure (wpAny_pure (fin fun b s' h' => wpAny_pure ⟨_, rfl, h'⟩)))
    · exact wpAny_tryCatch (wpAny_bind (wpAny_pure (wpAny_pure (fin fun b s' h' => wpAny_pure ⟨_, rfl, h'⟩))))
  have apart : (Value.ref C != tb) = true → PySem.W.subIn X.K tb (.ref C) = some false := fun z => by
    rcases Bool.or_eq_true_iff.mp hn with y | y
    · exact absurd (beq_iff_eq.mp y) (by intro e; rw [e] at z; simp at z)
    · exact beq_iff_eq.mp y
  show wpAny _ _ (richCompare .NotEq (.ref a) u) _ _ _
  simp only [richCompare, oneThing_ref, cmpInfo_NotEq]
  refine wpAny_holding (wpAny_bind (wpAny_cRoomFor hr.units0 (wpAny_bind (J.type.here (wpAny_bind ((kx.ty _ _ I.kIn pr).here ?_))))))
  by_cases z : (Value.ref C != tb) = true
  · rw [if_pos z]
    exact wpAny_bind ((PySem.W.looks_subIn I.kIn (apart z)).here (wpAny_bind (wpAny_mono one (fun _ _ ⟨_, e, y⟩ => by subst e; exact wpAny_pure y) fun _ _ y => y)))
  · rw [if_neg z]
    first
      | exact wpAny_bind (wpAny_pure (wpAny_bind (wpAny_mono one (fun _ _ ⟨_, e, y⟩ => by subst e; exact wpAny_pure y) fun _ _ y => y)))
      | exact wpAny_bind (wpAny_mono one (fun _ _ ⟨_, e, y⟩ => by subst e; exact wpAny_pure y) fun _ _ y => y)
end
end L2

namespace S16
open PySem L2 GM
open PySem.W (EachIs)
section
variable {P : Program} {w : World} {K : PySem.W.Frag} {mg : Str → Option Value} {base : Heap}
theorem op_imp {X : Cx} {o : Value → Value → Sem Value} {r r' : R2} (h : OpR X o r) (i : ∀ x y H Q, r' x y H Q → r x y H Q) : OpR X o r' := fun pins s σ H x y v u Q I rx ry q => h pins s σ H x y v u Q I rx ry (i x y H Q q)
theorem call_imp {X : Cx} {c : Value} {r r' : List V → Hp → VK → Prop} (h : CallR X c r) (i : ∀ us H Q, r' us H Q → r us H Q) : CallR X c r' := fun pins s σ H us vs Q I rv q => h pins s σ H us vs Q I rv (i us H Q q)
/-! ### tables as operands -/
structure TOp (P : Program) (w : World) (K : PySem.W.Frag) (mg : Str → Option Value) (base : Heap) (C : Addr) : Prop where
  tc : Tc K mg C
  eq : ∃ g, PySem.W.findIn K (.ref C) "__eq__" = some (some (.ref g)) ∧ PySem.W.isFn K (.ref g) = true ∧ FnR P w K mg base CX0 1 g (spTEq C)
  ne : PySem.W.findIn K (.ref C) "__ne__" = some (some (.builtin "object.__ne__"))
  st : PySem.W.subIn K (.type "tuple") (.ref C) = some false
  repr : ∃ g fd, PySem.W.findIn K (.ref C) "__repr__" = some (some (.ref g)) ∧ PySem.W.isFn K (.ref g) = true ∧ Binds K fd ["self"] [] ∧ FnG P w K mg base CX0 3 g fd ["self"] (spTRepr C)
/-- x == y, x != y -/
def rTEq (C : Addr) (neg : Bool) : R2 := fun x y H Q => ∃ (p : Addr) (z : Str) (ss : List Str) (L : List Turn), x = .ref p ∧ TabAt C H p z ss L ∧
  ((∃ (q : Addr) (z' : Str) (ss' : List Str) (L' : List Turn), y = .ref q ∧ TabAt C H q z' ss' L' ∧ SlotsOk ss ∧ SlotsOk ss' ∧ Q (.bl (xor neg (decide (z = z' ∧ ss = ss' ∧ L = L')))) H) ∨ ∃ t xs, y = .ref t ∧ H t = some (.tup xs) ∧ Q (.bl neg) H)
theorem not_first {C : Addr} {T : String} (h : PySem.W.subIn K (.type T) (.ref C) = some false) : PySem.W.notFirst K C (.type T) = true := by
  unfold PySem.W.notFirst
  rw [h]
  simp
theorem teq_own {C : Addr} {neg : Bool} (N : Tc K mg C) (st : PySem.W.subIn K (.type "tuple") (.ref C) = some false) (x y : V) (H : Hp) (Q : VK) (h : rTEq C neg x y H Q) : rOwnEqX K C (spTEq C) neg x y H Q := by
  obtain ⟨p, z, ss, L, rfl, tab, h⟩ := h
  obtain ⟨dx, sa, ga, h1, h2, h3⟩ := id tab
  rcases h with ⟨q, z', ss', L', rfl, tab', so, so', k⟩ | ⟨t, xs, rfl, ht, k⟩
  · obtain ⟨dy, sb, gb, k1, k2, k3⟩ := id tab'
    exact ⟨p, dx, _, _, rfl, h1, .base (.ins k1 N.cl N.ic N.gt N.tk N.mo), by unfold PySem.W.notFirst; simp, .inl ⟨p, q, z, z', ss, ss', L, L', rfl, tab, tab', so, so', _, rfl, k⟩⟩
  · exact ⟨p, dx, _, _, rfl, h1, .base (.tup ht), not_first st, .inr ⟨p, t, xs, z, ss, L, rfl, tab, ht, _, rfl, by rw [Bool.xor_false]; exact k⟩⟩
variable {X : Cx} {C : Addr}
theorem op_teq (N : TOp X.prog X.w X.K X.mg X.base C) (hr : Room 1 X.A) : OpR X (compareOp .Eq) (rTEq C false) := by
  obtain ⟨g, h1, h2, h3⟩ := N.eq
  exact op_imp (op_ownEqX h1 h2 h3 hr) (teq_own N.tc N.st)
theorem op_tne (N : TOp X.prog X.w X.K X.mg X.base C) (hr : Room 2 X.A) : OpR X (compareOp .NotEq) (rTEq C true) := by
  obtain ⟨g, h1, h2, h3⟩ := N.eq
  exact op_imp (op_ownNeX h1 h2 N.ne N.tc.mo h3 hr) (teq_own N.tc N.st)
/-- repr(table) -/
def rTRepr (C : Addr) : List V → Hp → VK → Prop := fun us H Q => ∃ (p : Addr) (z : Str) (ss : List Str) (L : List Turn), us = [.ref p] ∧ TabAt C H p z ss L ∧ NameOk z ∧ SlotsOk ss ∧ ∀ H', Same H H' → Q (.str (tabText z ss)) H'
theorem call_trepr (N : TOp X.prog X.w X.K X.mg X.base C) (gd : X.A.guards = some []) (hr : Room 4 X.A) : CallR X (.builtin "repr") (rTRepr C) := by
  obtain ⟨g, fd, h1, h2, b, h3⟩ := N.repr
  refine call_imp (call_reprOG h1 h2 h3 b gd hr) fun us H Q h => ?_
  obtain ⟨p, z, ss, L, rfl, tab, zok, sok, k⟩ := h
  obtain ⟨dx, sa, ga, i1, i2⟩ := id tab
  exact ⟨p, dx, _, rfl, i1, p, z, ss, L, rfl, tab, zok, sok, fun H' s => ⟨_, rfl, k H' s⟩⟩
end
/-! ### texts of rows of texts -/
theorem show_strs : ∀ {ss : List Str}, (∀ s ∈ ss, NameOk s) → PyData.showableAll (ss.map PyData.str) = true ∧ PyData.hasDictAll (ss.map PyData.str) = false ∧ ((PyData.shownAll (ss.map PyData.str)).map (·.length)).sum ≤ 100 * ss.length ∧ (PyData.shownAll (ss.map PyData.str)).length = ss.length
  | [], _ => ⟨rfl, rfl, Nat.zero_le _, rfl⟩
  | s :: ss, h => by
    obtain ⟨a, b, c, d⟩ := show_strs (ss := ss) fun q hq => h q (List.mem_cons_of_mem _ hq)
    have l1 : (PyData.shown (.str s)).length ≤ 82 := (h s List.mem_cons_self).shown
    refine ⟨?_, ?_, ?_, ?_⟩
    · show (true && PyData.showableAll (ss.map PyData.str)) = true
      rw [a]; rfl
    · show (false || PyData.hasDictAll (ss.map PyData.str)) = false
      rw [b]; rfl
    · show (PyData.shown (.str s)).length + ((PyData.shownAll (ss.map PyData.str)).map (·.length)).sum ≤ 100 * (ss.length + 1)
      omega
    · show (PyData.shownAll (ss.map PyData.str)).length + 1 = ss.length + 1
      rw [d]
abbrev strsT (ss : List Str) : PyData := .tuple (ss.map PyData.str)
abbrev strsL (ss : List Str) : PyData := .list (ss.map PyData.str)
theorem show_strsT {ss : List Str} (h : SlotsOk ss) : (strsT ss).showable = true ∧ (strsT ss).hasDict = false ∧ (strsT ss).shown.length ≤ 5000 := by
  obtain ⟨a, b, c, d⟩ := show_strs h.2.2
  refine ⟨a, b, ?_⟩
  have z : (strsT ss).shown.length ≤ _ := tupleText_len_le (PyData.shownAll (ss.map PyData.str))
  have l := h.2.1
  rw [d] at z
  omega
theorem show_strsL {ss : List Str} (h : SlotsOk ss) : (strsL ss).showable = true ∧ (strsL ss).hasDict = false ∧ (strsL ss).shown.length ≤ 5000 := by
  obtain ⟨a, b, c, d⟩ := show_strs h.2.2
  refine ⟨a, b, ?_⟩
  have z : (strsL ss).shown.length ≤ _ := listText_len_le (PyData.shownAll (ss.map PyData.str))
  have l := h.2.1
  rw [d] at z
  omega
end S16

namespace S16
open PySem L2 GM
theorem idn_at {n i : Nat} (h : i < n) : (idn n)[i]? = some (i : Int) := by
  unfold idn
  rw [List.getElem?_map, List.getElem?_range h]
  rfl
theorem Keeps.one (ss : List Str) : Keeps ss (idn ss.length) := by
  refine ⟨.refl _, fun i j e => ?_⟩
  have il : i < ss.length := by
    have := (List.getElem?_eq_some_iff.mp e).1
    rwa [idn_len] at this
  rw [idn_at il] at e
  have := Option.some.inj e
  rw [show j = i by omega]
theorem Keeps.mul {ss : List Str} {a b : List Int} (ha : Keeps ss a) (hb : Keeps ss b) : Keeps ss (mv a b) := by
  refine ⟨mv_perm ha.1 hb.1, fun i j e => ?_⟩
  unfold mv at e
  rw [List.getElem?_map] at e
  cases eb : b[i]? with
  | none => rw [eb] at e; cases e
  | some k =>
    rw [eb] at e
    have k0 := idn_fits hb.1 k (List.mem_of_getElem? eb)
    obtain ⟨k', rfl⟩ := Int.eq_ofNat_of_zero_le k0.1
    have kl : k' < a.length := by
      have := perm_len ha.1
      omega
    have ea : a[k']? = some (j : Int) := by
      have e2 : a.getD (k' : Int).toNat 0 = (j : Int) := Option.some.inj e
      rw [Int.toNat_natCast, List.getD_eq_getElem?_getD, List.getElem?_eq_getElem kl] at e2
      rw [List.getElem?_eq_getElem kl]
      exact congrArg some e2
    rw [ha.2 k' j ea, hb.2 i k' eb]
theorem reach_ok {ss : List Str} {T : List Turn} (ok : ∀ p ∈ T, TurnOk ss p) {o : List Int} {s : Int} (r : Reach ss.length T o s) : TurnOk ss (o, s) := by
  induction r with
  | one => exact ⟨Keeps.one ss, .inl rfl⟩
  | step _ m ih => exact ⟨ih.1.mul (ok _ m).1, Sgn.mul ih.2 (ok _ m).2⟩
theorem Grp.ok {ss : List Str} {T L : List Turn} (ok : ∀ p ∈ T, TurnOk ss p) (g : Grp ss.length T L) : ∀ p ∈ L, TurnOk ss p := fun p m => reach_ok ok ((g.lists p).mp m)
theorem Grp.few24 {n : Nat} {T L : List Turn} (n4 : n ≤ 4) (are : Are n T) (g : Grp n T L) : L.length ≤ 24 := Srch.few n4 are g.nd fun p m => (g.lists p).mp m
theorem Grp.has {n : Nat} {T L : List Turn} (g : Grp n T L) : (idn n, (1 : Int)) ∈ L := (g.lists _).mpr .one
theorem Grp.pos {n : Nat} {T L : List Turn} (g : Grp n T L) : 1 ≤ L.length := List.length_pos_of_mem g.has
theorem lone {n : Nat} {L : List Turn} (g : Grp n [] L) : L = [(idn n, 1)] := by
  have all : ∀ p ∈ L, p = (idn n, (1 : Int)) := fun p m => by
    have r := (g.lists p).mp m
    obtain ⟨o, s⟩ := p
    cases r with
    | one => rfl
    | step _ mm => exact absurd mm List.not_mem_nil
  have nd := nodup_of_keys g.nd
  match L, g.has, all, nd with
  | [p], _, all, _ => rw [all p List.mem_cons_self]
  | p :: q :: L, _, all, nd =>
    have e1 := all p List.mem_cons_self
    have e2 := all q (List.mem_cons_of_mem _ List.mem_cons_self)
    exact absurd (by rw [e1, e2]; exact List.mem_cons_self) (List.nodup_cons.mp nd).1
/-- the table without turns beside another one -/
theorem lone_eq {n : Nat} {T L M : List Turn} (g : Grp n [] M) (g2 : Grp n T L) : (M = L) ↔ L.length = 1 := by
  have e := lone g
  subst e
  constructor
  · intro e
    rw [← e]; rfl
  · intro e
    obtain ⟨x, rfl⟩ := List.length_eq_one_iff.mp e
    have := g2.has
    rw [List.mem_singleton.mp this]
theorem take_app {ss : List Str} (z : Str) (h : ss.length ≤ 4) : (ss ++ [z]).take 4 = ss ↔ ss.length = 4 := by
  constructor
  · intro e
    have := congrArg List.length e
    rw [List.length_take, List.length_append] at this
    simp only [List.length_cons, List.length_nil] at this
    omega
  · intro e
    rw [← e, List.take_left]
theorem cut_last (xs : List V) : cutV xs none (some (-1)) = xs.dropLast := by
  unfold cutV
  show (xs.drop 0).take (_ - 0) = _
  rw [List.drop_zero, Nat.sub_zero, List.dropLast_eq_take]
  congr 1
  show (if (-1 : Int) < 0 then ((-1 : Int) + (xs.length : Int)).toNat else min (-1 : Int).toNat xs.length) = xs.length - 1
  rw [if_pos (by decide)]
  omega
theorem cut_four (xs : List V) : cutV xs none (some 4) = xs.take 4 := by
  unfold cutV
  show (xs.drop 0).take (min 4 xs.length - 0) = _
  rw [List.drop_zero, Nat.sub_zero]
  by_cases h : 4 ≤ xs.length
  · rw [Nat.min_eq_left h]
  · rw [Nat.min_eq_right (by omega), List.take_length, List.take_of_length_le (by omega)]
theorem each_take {α β : Type} {R : α → β → Prop} {as : List α} {bs : List β} (h : PySem.W.EachIs R as bs) : PySem.W.EachIs R as.dropLast bs.dropLast := by
  induction h with
  | nil => exact .nil
  | @cons a b as bs r h ih =>
    cases h with
    | nil => exact .nil
    | cons r2 h2 => exact .cons r ih
theorem GroupAt.less {H : Hp} {l : Addr} {T : List Turn} {vs : List V} (h : TurnsS H vs T) (hl : H l = some (.lst vs.dropLast)) : GroupAt H l T.dropLast := ⟨_, hl, each_take h⟩
end S16

namespace S16
open PySem L2 GM
open PySem.W (EachIs)
theorem PS.less {X : Cx} {st : Stmt} {t t' : TS} (h : PS X st t) (i : ∀ D σ H, t' D σ H → t D σ H) : PS X st t' := ⟨fun pins s σ H D I q => h.run pins s σ H D I (i D σ H q)⟩
abbrev zOther : Str := "other"
theorem other_ok : NameOk zOther := by
  unfold NameOk
  decide +kernel
/-- what the law knows of a table that it has made -/
structure EqP (z : Str) (ss : List Str) (T L : List Turn) : Prop where
  zok : NameOk z
  ne : z ≠ zOther
  sok : SlotsOk ss
  tok : ∀ p ∈ T, TurnOk ss p
  few : T.length ≤ 3
  sg : Single ss.length T
  gr : Grp ss.length T L
theorem EqP.are {z : Str} {ss : List Str} {T L : List Turn} (h : EqP z ss T L) : Are ss.length T := are_of h.tok
/-- where it stands -/
structure EqH (C l m a t g : Addr) (z : Str) (ss : List Str) (T L : List Turn) (H : Hp) : Prop where
  pot : PotAt H l
  tab : TabAt C H m z ss L
  sl : H a = some (.lst (ss.map V.str))
  tr : GroupAt H t T
  gp : GroupAt H g L
theorem EqH.same {C l m a t g : Addr} {z : Str} {ss : List Str} {T L : List Turn} {H G : Hp} (s : Same H G) (h : EqH C l m a t g z ss T L H) : EqH C l m a t g z ss T L G := ⟨h.pot.same s, h.tab.same s, s _ _ h.sl, h.tr.same s, h.gp.same s⟩
theorem EqH.x {C l m a t g : Addr} {z : Str} {ss : List Str} {T L : List Turn} {H G : Hp} (h : EqH C l m a t g z ss T L H) (s : SameX l H G) (p : PotAt G l) : EqH C l m a t g z ss T L G :=
  ⟨p, h.tab.pot h.pot s, s _ _ (TextsS.off (.inl h.sl) h.pot) h.sl, h.tr.pot h.pot (h.tr.off h.pot) s, h.gp.pot h.pot (h.gp.off h.pot) s⟩
/-- the parameters, ahead of what the law names later -/
abbrev six (l m a t g : Addr) (z : Str) (rest : St) : St := some (.ref l) :: some (.ref m) :: some (.str z) :: some (.ref a) :: some (.ref t) :: some (.ref g) :: rest
def OthR (G : Hp) (v : V) (ss : List Str) (L : List Turn) : Prop := v = .non ∨ ∃ r M, v = .ref r ∧ GroupAt G r M ∧ M.length = 3 ∧ (∀ p ∈ M, p ∈ L) ∧ ∀ p, p ∈ L ↔ Ball ss.length M 24 p
def t1 (C : Addr) : TE := fun σ H Q => ∃ (l m a t g : Addr) (z : Str) (ss : List Str) (T L : List Turn) (rest : St), σ = six l m a t g z rest ∧ EqP z ss T L ∧ EqH C l m a t g z ss T L H ∧ ∀ G v, SameX l H G → PotAt G l → OthR G v ss L → Q v G
def t2 (C : Addr) : TS := fun D σ H => ∃ (l m a t g : Addr) (z : Str) (ss : List Str) (T L : List Turn) (v : V) (rest : St), σ = six l m a t g z (some v :: rest) ∧ EqP z ss T L ∧ EqH C l m a t g z ss T L H ∧ OthR H v ss L ∧ ∀ G, Same H G → D.nx σ G
def t5 (C : Addr) : TS := fun D σ H => ∃ (l m a t g f : Addr) (z : Str) (ss : List Str) (T L : List Turn) (v : Option V) (b : Bool) (rest : St), σ = six l m a t g z (v :: some (.ref f) :: some (.bl b) :: rest) ∧ EqP z ss T L ∧ EqH C l m a t g z ss T L H ∧ GroupAt H f T.dropLast ∧
  (∀ M, Grp ss.length T.dropLast M → b = decide (M = L)) ∧ ∀ G, Same H G → D.nx σ G
def t6 (C : Addr) : TE := fun σ H Q => ∃ (l m a t g : Addr) (z : Str) (ss : List Str) (rest : St), σ = six l m a t g z rest ∧ NameOk z ∧ SlotsOk ss ∧ H a = some (.lst (ss.map V.str)) ∧
  ∀ G lg M, Same H G → TabAt C G lg z ((ss ++ [("s" : Str)]).take 4) M → Grp ((ss ++ [("s" : Str)]).take 4).length [] M → Q (.ref lg) G
def t7 (C : Addr) : TS := fun D σ H => ∃ (l m a t g lg : Addr) (z : Str) (ss : List Str) (T L M : List Turn) (v w x : Option V) (rest : St), σ = six l m a t g z (v :: w :: x :: some (.ref lg) :: rest) ∧ EqP z ss T L ∧ EqH C l m a t g z ss T L H ∧ TabAt C H lg z ((ss ++ [("s" : Str)]).take 4) M ∧
  Grp ((ss ++ [("s" : Str)]).take 4).length [] M ∧ ∀ G, Same H G → D.nx σ G
theorem reach_nil {n : Nat} {o : List Int} {s : Int} (r : Reach n [] o s) : s = 1 := by
  induction r with
  | one => rfl
  | step _ mm _ => exact absurd mm List.not_mem_nil
theorem single_nil {n : Nat} : Single n [] := fun _ _ _ a b => (reach_nil a).trans (reach_nil b).symm
theorem SlotsOk.cut {ss : List Str} (h : SlotsOk ss) : SlotsOk ((ss ++ [("s" : Str)]).take 4) := by
  refine ⟨?_, List.length_take_le _ _, fun z m => ?_⟩
  · rw [List.length_take, List.length_append]
    have := h.1
    simp only [List.length_cons, List.length_nil]
    omega
  · rcases List.mem_append.mp (List.mem_of_mem_take m) with m | m
    · exact h.2.2 z m
    · rw [List.mem_singleton.mp m]
      unfold NameOk
      decide +kernel
theorem sh_strsL {ss : List Str} (h : SlotsOk ss) : SeqAt.shaped (.list (ss.map PyData.str)) = true := by
  have d := deep_strs ss
  unfold SeqAt.shaped
  rw [Bool.and_eq_true, decide_eq_true_eq, PyData.canLay0, PyData.depth]
  exact ⟨lay_strs ss h.2.2, by omega⟩
theorem eqv_strsL (a b : List Str) : PyData.eqv (.list (a.map PyData.str)) (.list (b.map PyData.str)) = decide (a = b) := by rw [PyData.eqv, eqv_strs]
section
variable {P : Program} {w : World} {K : PySem.W.Frag} {mg : Str → Option Value} {base : Heap}
/-! ### _law_equal_right -/
/-- (slots + ["s"])[:4] -/
theorem cut4_read {σ : St} {G : Hp} {a : Addr} {ss : List Str} {Q : VK} (hσ : σ[3]? = some (some (.ref a))) (ha : G a = some (.lst (ss.map V.str))) (n4 : ss.length ≤ 4)
    (q : ∀ G' r, Same G G' → G r = none → G' r = some (.lst (((ss ++ [("s" : Str)]).take 4).map V.str)) → Q (.ref r) G') : tSl (rSlL K) (tOp rCat (tVar 3) (tLst (tCons (tC (.str "s")) tNil))) tNoPart (tPart (tC (.int 4))) σ G Q := by
  refine ⟨_, hσ, (by show 1 ≤ sizeLine; decide), fun l1 h1 => ?_⟩
  have s1 := sNew (o := .lst [.str "s"]) (Same.refl G) h1
  refine ⟨a, l1, _, _, rfl, rfl, s1 _ _ ha, upd_same, le_line (by rw [List.length_map]; show ss.length + 1 ≤ 2000000; omega), fun p hp => ?_⟩
  have s2 := sNew (o := .lst (ss.map V.str ++ [.str "s"])) s1 hp
  refine ⟨4, rfl, p, _, rfl, SqL.of upd_same, fun r hr => ?_⟩
  have s3 := sNew (o := .lst (cutV (ss.map V.str ++ [.str "s"]) none (some 4))) s2 hr
  refine q _ r s3 (s2.free hr) ?_
  rw [upd_same, cut_four, List.map_take, List.map_append]
  rfl
def spEqual (C : Addr) : Sp := fun vs H Q _ => ∃ (l m a t g : Addr) (z : Str) (ss : List Str) (T L : List Turn), vs = [.ref l, .ref m, .str z, .ref a, .ref t, .ref g] ∧ EqP z ss T L ∧ EqH C l m a t g z ss T L H ∧ ∀ H', SameX l H H' → PotAt H' l → Q (.bl true) H'
abbrev nEqual : List Str := ["_law_pot_here", "_law_made", "_law_title", "_law_slots", "_law_turns_here", "_law_group_here", "_law_others_here", "_law_fewer", "_law_leads_to_all", "_law_longer", "_law_other"]
abbrev pEqual : List Str := ["_law_pot_here", "_law_made", "_law_title", "_law_slots", "_law_turns_here", "_law_group_here"]
theorem scEqual : FnScope nEqual pEqual (defScope sEqual) := ⟨rfl, rfl, rfl, by decide +kernel, rfl, by decide +kernel, by decide +kernel⟩
theorem ok_equal {f C D : Addr} {fd : FuncData} (F : Fun K "_law_equal_right" "_law_equal_right" sEqual f fd) (B : Bn mg) (TO : TOp P w K mg base C) (M : TMk P w K mg base C D) (LT : LTab P w K mg base C D)
    (DO : Df P w K mg base "_law_others" ["_law_pot_here", "_law_slots", "_law_group_here"] 3 spOthers) (DG : Df P w K mg base "_law_group" ["_law_slots", "_law_turns_here"] 1 spGroup)
    (MN : ∃ f fd, Meth K C "renamed" f ∧ Binds K fd ["self", "name"] [] ∧ FnG P w K mg base CX0 8 f fd ["self", "name"] (spTNamed C)) (MT : Mt P w K mg base C "turns" ["self"] 1 (spTTurns C)) (MS : Mt P w K mg base C "slots" ["self"] 1 (spTSlots C)) :
    FnG P w K mg base CX0 9 f fd pEqual (spEqual C) := by
  obtain ⟨ft, fdt, mt, kt, bt, GT⟩ := LT.ex
  obtain ⟨fn, fdn, hn, bn, GN⟩ := MN
  obtain ⟨fu, fdu, hu1, bu, GU⟩ := MT.ex
  obtain ⟨fs, fds, hs1, bs, GS⟩ := MS.ex
  have N := TO.tc
  refine F.okG scEqual (fun vs H Q E h => ?_) (fun cdv A outer s H vs Q E gd hr h => ?_)
  · obtain ⟨l, m, a, t, g, z, ss, T, L, rfl, _⟩ := h
    rfl
  · have hu := hr.units
    have h1 : Room 1 _ := hr.mono (by decide)
    have h2 : Room 2 _ := hr.mono (by decide)
    have h3 : Room 3 _ := hr.mono (by decide)
    have dg : (A.deeper (PyProof.Rows.envOfC "_law_equal_right" (defScope sEqual) s.heap.objs.size f cdv)).guards = some [] := deeper_guards.trans gd
    have room : (A.deeper (PyProof.Rows.envOfC "_law_equal_right" (defScope sEqual) s.heap.objs.size f cdv)).units + 70 < cLine := by
      have := hr.un
      omega
    refine' ⟨_, pss_cons (ps_set (i := 6) scEqual.nd rfl (Or.inl rfl) (PE.imp (t' := t1 C) (pe_df DO h3 (by rfl) (pa_cons (pv 0) (pa_cons (pv 3) (pa_cons (pv 5) pa_nil)))) ?r1))
      (pss_cons (PS.less (t' := t2 C) (ps_if (PW.pt (pw_and (pt_cmpR op_notN (pv 6) pe_non (nomark _)) (pw_and1 (pt_cmpR (op_tne TO h2) (pe_callG (E := E0) GT dg hr (by rfl) mt kt bt .nil passF (pa_cons (pv 2) (pa_cons (pe_texts (by rfl) B.tuple (pv 3)) (pa_cons (pv 6) pa_nil)))) (pv 1) (nomark _))))) (pss_one (ps_ret pe_bl)) pss_nil) ?r2)
      (pss_cons (ps_set (i := 7) scEqual.nd rfl (Or.inl rfl) (pe_slice sl_list (pv 4) po_none (po_some (pe_un un_neg pe_int))))
      (pss_cons (ps_set (i := 8) scEqual.nd rfl (Or.inl rfl) (pe_cmpR (op_eqD hu) (pe_df DG h1 (by rfl) (pa_cons (pv 3) (pa_cons (pv 7) pa_nil))) (pv 5) (nomark _)))
      (pss_cons (PS.less (t' := t5 C) (ps_if (PW.pt (pw_and (pt_cmpR (op_neD hu) (pv 4) (pe_lst pa_nil) (nomark _)) (pw_and1 (pt_cmpR op_ne (pe_cmpR (op_teq TO h1) (pe_callG (E := E0) GT dg hr (by rfl) mt kt bt .nil passF (pa_cons (pv 2) (pa_cons (pv 3) (pa_cons (pv 7) pa_nil)))) (pv 1) (nomark _)) (pv 8) (nomark _))))) (pss_one (ps_ret pe_bl)) pss_nil) ?r5)
      (pss_cons (ps_set (i := 9) scEqual.nd rfl (Or.inl rfl) (PE.imp (t' := t6 C) (pe_tab (E := E0) M dg (hr.mono (by decide)) (by rfl) passF (pa_cons (pv 2) (pa_cons (pe_slice sl_list (pe_op op_cat (pv 3) (pe_lst (pa_cons pe_str pa_nil))) po_none (po_some pe_int)) pa_nil))) ?r6))
      (pss_cons (PS.less (t' := t7 C) (ps_if (pt_cmpR op_ne (pe_cmpR (op_teq TO h1) (pv 9) (pv 1) (nomark _)) (pe_and (pe_cmpR op_eq (pe_callB call_len_seq (by rfl) B.len PySem.boot_len (pa_cons (pv 3) pa_nil)) pe_int (nomark _)) (pe_and (pe_cmpR (op_eqD hu) (pv 3) (pe_slice sl_list (pe_op op_cat (pv 3) (pe_lst (pa_cons pe_str pa_nil))) po_none (po_some pe_int)) (nomark _))
          (pe_one (pe_cmpR op_eq (pe_callB call_len_seq (by rfl) B.len PySem.boot_len (pa_cons (pv 5) pa_nil)) pe_int (nomark _))))) (nomark _)) (pss_one (ps_ret pe_bl)) pss_nil) ?r7)
      (pss_cons (ps_set (i := 10) scEqual.nd rfl (Or.inl rfl) (pe_methX (E := E0) (pv 1) N.cl hn GN dg hr bn pass0 (pa_cons pe_str pa_nil)))
      (pss_cons (ps_if (PW.pt (pw_or (pt_cmpR (op_teq TO h1) (pv 10) (pv 1) (nomark _)) (pw_or (pt_cmpR op_ne (pe_fld (pv 10) rfl) pe_str (nomark _)) (pw_or (pt_cmpR op_ne (pe_fld (pv 1) rfl) (pv 2) (nomark _))
          (pw_or1 (pt_cmpR (op_tne TO h2) (pe_methX (E := E0) (pv 10) N.cl hn GN dg hr bn pass0 (pa_cons (pv 2) pa_nil)) (pv 1) (nomark _))))))) (pss_one (ps_ret pe_bl)) pss_nil)
      (pss_one (ps_ret (pe_and (pe_cmpR op_eq (pe_callB (call_reprD dg room) (by rfl) B.repr (by decide +kernel) (pa_cons (pe_meth0 (pv 10) N.cl hu1 GU h1 bu .nil pass0) pa_nil)) (pe_callB (call_reprD dg room) (by rfl) B.repr (by decide +kernel) (pa_cons (pv 5) pa_nil)) (nomark _))
          (pe_and (pe_cmpR op_eq (pe_callB (call_reprD dg room) (by rfl) B.repr (by decide +kernel) (pa_cons (pe_meth0 (pv 10) N.cl hs1 GS h1 bs .nil pass0) pa_nil)) (pe_callB (call_reprD dg room) (by rfl) B.repr (by decide +kernel) (pa_cons (pe_texts (by rfl) B.tuple (pv 3)) pa_nil)) (nomark _))
          (pe_one (pe_cmpR (op_tne TO h2) (pv 1) (pe_tup (pa_cons (pv 2) (pa_cons (pv 3) pa_nil))) (nomark _))))))))))))))), ?_⟩
    case r1 =>
      rintro σ H Q ⟨l, m, a, t, g, z, ss, T, L, rest, rfl, ep, eh, k⟩
      have n4 := ep.sok.2.1
      refine ⟨_, rfl, _, rfl, _, rfl, l, a, g, ss, L, rfl, eh.pot, .inl eh.sl, TextsS.off (.inl eh.sl) eh.pot, eh.gp, eh.gp.off eh.pot, n4, ep.gr.are ep.are, ep.gr.pos, Nat.le_trans (ep.gr.few n4 ep.are) (by decide), fun G sx p => k G _ sx p (.inl rfl), fun G r M sx p hr grp len sub ball => k G _ sx p (.inr ⟨r, M, rfl, grp, len, sub, ball⟩)⟩
    case r2 =>
      rintro D σ H ⟨l, m, a, t, g, z, ss, T, L, v, rest, rfl, ep, eh, oth, k⟩
      have n4 := ep.sok.2.1
      rcases oth with rfl | ⟨r, M, rfl, grp, len, sub, ball⟩
      · exact ⟨_, rfl, rfl, _, rfl, iteF (iteF (k H (Same.refl H)))⟩
      · refine ⟨_, rfl, rfl, _, rfl, ?_⟩
        rw [show (!decide (V.ref r = V.non)) = true by simp]
        have okL := ep.gr.ok ep.tok
        have areL := ep.gr.are ep.are
        have sgL : Single ss.length L := Single.sub ep.are (fun p hp => (ep.gr.lists p).mp hp) ep.sg
        have sgM : Single ss.length M := Single.sub areL (fun p hp => Reach.self areL (sub p hp)) sgL
        have gM : Grp ss.length M L := grp_of n4 (fun p hp => areL p (sub p hp)) sgM ep.gr.srt (nodup_of_keys ep.gr.nd) ball
        refine iteT ⟨_, rfl, a, ss, rfl, .inl eh.sl, fun H1 sa s1 hsa => ⟨_, rfl, z, sa, r, ss, M, rfl, ep.zok, .inr hsa, ep.sok, grp.same s1, fun p hp => okL p (sub p hp), by omega, fun no => absurd sgM no, fun H2 p LM s2 hp tab gLM => ?_⟩⟩
        have s12 := Same.trans s1 s2
        obtain rfl := grp_one gLM gM
        refine ⟨_, rfl, p, z, ss, _, rfl, tab, .inl ⟨m, z, ss, _, rfl, (eh.same s12).tab, ep.sok, ep.sok, ?_⟩⟩
        rw [show (xor true (decide (z = z ∧ ss = ss ∧ LM = LM))) = false by simp]
        exact ⟨_, rfl, iteF (k H2 s12)⟩
    case r5 =>
      rintro D σ H ⟨l, m, a, t, g, fa, z, ss, T, L, v, b, rest, rfl, ep, eh, hfa, hb, k⟩
      have n4 := ep.sok.2.1
      obtain ⟨tv, ht, hts⟩ := id eh.tr
      refine ⟨_, rfl, (by show 0 ≤ sizeLine; decide), fun l0 h0 => ?_⟩
      have s0 := sNew (o := .lst []) (Same.refl H) h0
      refine ⟨_, _, (eh.tr.same s0).dp, .lst (SqL.of upd_same) (dp_turns (L := []) .nil), sh_turns _, sh_turns [], _, rfl, ?_⟩
      rw [eqv_turnsL]
      generalize upd H l0 (.lst []) = H1 at s0
      by_cases e : T = []
      · rw [decide_eq_true e]
        exact iteF (iteF (k H1 s0))
      · rw [decide_eq_false e]
        have sub : ∀ p ∈ T.dropLast, p ∈ T := fun p hp => (List.dropLast_sublist T).subset hp
        have sgF : Single ss.length T.dropLast := Single.sub ep.are (fun p hp => Reach.self ep.are (sub p hp)) ep.sg
        refine iteT ⟨_, rfl, _, rfl, _, rfl, z, a, fa, ss, T.dropLast, rfl, ep.zok, .inl (s0 _ _ eh.sl), ep.sok, hfa.same s0, fun p hp => ep.tok p (sub p hp), by rw [List.length_dropLast]; have := ep.few; omega, fun no => absurd sgF no, fun H2 p LM s2 hp tab gLM => ?_⟩
        have s12 := Same.trans s0 s2
        refine ⟨_, rfl, p, z, ss, _, rfl, tab, .inl ⟨m, z, ss, _, rfl, (eh.same s12).tab, ep.sok, ep.sok, ?_⟩⟩
        refine ⟨_, rfl, rfl, _, rfl, ?_⟩
        rw [show (xor false (decide (z = z ∧ ss = ss ∧ LM = L))) = decide (LM = L) by simp, ← hb LM gLM, decide_eq_true rfl]
        exact iteF (k H2 s12)
    case r6 =>
      rintro σ H Q ⟨l, m, a, t, g, z, ss, rest, rfl, zok, sok, ha, k⟩
      refine ⟨_, rfl, ?_⟩
      refine cut4_read rfl ha sok.2.1 fun G6 r6 s6 hr6 hrr6 => fun x dx hx hdx ne => made_t (K := K) (tv := []) (T := []) zok (.inl hrr6) (SlotsOk.cut sok) trivial (fun p hp => absurd hp List.not_mem_nil) (Nat.zero_le _) ⟨fun no => absurd single_nil no, fun G7 lg L4 s7 hlg tab7 g4 => k G7 lg L4 (Same.trans s6 s7) tab7 g4⟩ x dx hx hdx ne
    case r7 =>
      rintro D σ H ⟨l, m, a, t, g, lg, z, ss, T, L, M, v, w, x, rest, rfl, ep, eh, tab, gM, k⟩
      have n4 := ep.sok.2.1
      obtain ⟨gv, hg, hgt⟩ := id eh.gp
      have gl : gv.length = L.length := EachIs.length hgt
      have sok4 := SlotsOk.cut ep.sok
      refine ⟨_, rfl, _, rfl, lg, z, _, M, rfl, tab, .inl ⟨m, z, ss, L, rfl, eh.tab, sok4, ep.sok, ?_⟩⟩
      refine ⟨_, rfl, a, _, rfl, .inl (SqL.of eh.sl), rfl, _, rfl, ?_⟩
      by_cases e4 : ss.length = 4
      · have e5 : (ss ++ [("s" : Str)]).take 4 = ss := (take_app _ n4).mpr e4
        rw [decide_eq_true (by rw [List.length_map, e4]; rfl)]
        refine iteT ⟨_, rfl, ?_⟩
        refine cut4_read rfl eh.sl n4 fun G r s1 hr hrr => ?_
        refine ⟨_, _, .lst (SqL.of (s1 _ _ eh.sl)) (dp_strs ss), .lst (SqL.of hrr) (dp_strs _), sh_strsL ep.sok, sh_strsL sok4, _, rfl, ?_⟩
        rw [eqv_strsL, decide_eq_true e5.symm]
        refine iteT ⟨_, rfl, g, _, rfl, .inl (SqL.of (s1 _ _ hg)), rfl, rfl, _, rfl, ?_⟩
        rw [gl]
        have ex : (M = L) ↔ L.length = 1 := by
          rw [e5] at gM
          exact lone_eq gM ep.gr
        have same : (!decide (V.bl (xor false (decide (z = z ∧ (ss ++ [("s" : Str)]).take 4 = ss ∧ M = L))) = V.bl (decide (V.int ((L.length : Nat) : Int) = V.int 1)))) = false := by
          by_cases e : L.length = 1
          · simp [e5, e, ex.mpr e]
          · have e' : ¬ M = L := fun q => e (ex.mp q)
            have e'' : ¬ ((L.length : Nat) : Int) = 1 := by omega
            simp [e5, e', e'']
        rw [same]
        exact iteF (k G s1)
      · have e5 : ¬ (ss ++ [("s" : Str)]).take 4 = ss := fun q => e4 ((take_app _ n4).mp q)
        have no : decide (V.int (((ss.map V.str).length : Nat) : Int) = V.int 4) = false := decide_eq_false fun q => e4 (by
          have := V.int.inj q
          rw [List.length_map] at this
          omega)
        rw [no]
        refine iteF ⟨rfl, _, rfl, ?_⟩
        rw [show (!decide (V.bl (xor false (decide (z = z ∧ (ss ++ [("s" : Str)]).take 4 = ss ∧ M = L))) = V.bl false)) = false by simp [e5]]
        exact iteF (k H (Same.refl H))
    obtain ⟨l, m, a, t, g, z, ss, T, L, rfl, ep, eh, q⟩ := h
    have n4 := ep.sok.2.1
    have okL := ep.gr.ok ep.tok
    have few := ep.gr.few24 n4 ep.are
    refine ⟨l, m, a, t, g, z, ss, T, L, _, rfl, ep, eh, fun G v sx pot oth => ?_⟩
    have eh1 := eh.x sx pot
    refine ⟨l, m, a, t, g, z, ss, T, L, v, _, rfl, ep, eh1, oth, fun G2 s2 => ?_⟩
    have eh2 := eh1.same s2
    obtain ⟨tv, ht, hts⟩ := id eh2.tr
    refine ⟨_, rfl, _, rfl, _, rfl, t, _, rfl, SqL.of ht, fun fa hfa => ?_⟩
    have s3 := sNew (o := .lst (cutV tv none (some (-1)))) (Same.refl G2) hfa
    have atf := upd_same (H := G2) (a := fa) (o := .lst (cutV tv none (some (-1))))
    generalize upd G2 fa (.lst (cutV tv none (some (-1)))) = G3 at s3 atf
    rw [cut_last] at atf
    have eh3 := eh2.same s3
    have less3 : GroupAt G3 fa T.dropLast := GroupAt.less (TurnsS.same s3 hts) atf
    have sub : ∀ p ∈ T.dropLast, p ∈ T := fun p hp => (List.dropLast_sublist T).subset hp
    refine ⟨_, rfl, _, rfl, a, fa, ss, T.dropLast, rfl, .inl eh3.sl, n4, less3, fun p hp => ep.are p (sub p hp), by rw [List.length_dropLast]; have := ep.few; omega, fun G4 r L2 s4 hr2 g2 srt nd ball => ?_⟩
    have eh4 := eh3.same s4
    have g2F : Grp ss.length T.dropLast L2 := grp_sub (L := L) n4 ep.are ep.sg (fun p hp => Reach.self ep.are (sub p hp)) srt nd ball
    refine ⟨_, rfl, _, _, g2.dp, eh4.gp.dp, sh_turns _, sh_turns _, ?_⟩
    rw [eqv_turnsL]
    refine ⟨l, m, a, t, g, fa, z, ss, T, L, _, decide (L2 = L), _, rfl, ep, eh4, less3.same s4, fun M gM => by rw [grp_one gM g2F], fun G5 s5 => ?_⟩
    have eh5 := eh4.same s5
    refine ⟨l, m, a, t, g, z, ss, _, rfl, ep.zok, ep.sok, eh5.sl, fun G7 lg L4 s7 tab7 g4 => ?_⟩
    have eh7 := eh5.same s7
    refine ⟨l, m, a, t, g, lg, z, ss, T, L, L4, _, _, _, _, rfl, ep, eh7, tab7, g4, fun G8 s8 => ?_⟩
    have eh8 := eh7.same s8
    obtain ⟨dx, sa, ga, i1, i2, i3⟩ := id eh8.tab
    refine ⟨_, rfl, m, dx, _, rfl, i1, fld_none (by decide) (by decide) (by decide), m, z, zOther, ss, T, L, rfl, eh8.tab, other_ok, ep.sok, okL, ep.are, ep.gr, few, fun G9 ot s9 hot tab9 => ?_⟩
    have eh9 := eh8.same s9
    obtain ⟨dy, sb, gb, j1, j2, j3⟩ := id tab9
    obtain ⟨dz, sc, gc, k1, k2, k3⟩ := id eh9.tab
    refine ⟨_, rfl, _, rfl, ot, zOther, ss, L, rfl, tab9, .inl ⟨m, z, ss, L, rfl, eh9.tab, ep.sok, ep.sok, ?_⟩⟩
    rw [show (xor false (decide (zOther = z ∧ ss = ss ∧ L = L))) = false by rw [decide_eq_false (fun e => ep.ne e.1.symm)]; rfl]
    refine ⟨_, rfl, iteF ?_⟩
    refine ⟨_, rfl, ot, C, dy, _, _, rfl, j1, N.cl, N.nN, rfl, rfl, _, rfl, ?_⟩
    rw [show (!decide (V.str zOther = V.str zOther)) = false by rw [decide_eq_true rfl]; rfl]
    refine iteF ⟨_, rfl, m, C, dz, _, _, rfl, k1, N.cl, N.nN, rfl, _, rfl, rfl, _, rfl, ?_⟩
    rw [show (!decide (V.str z = V.str z)) = false by rw [decide_eq_true rfl]; rfl]
    refine iteF ⟨_, rfl, ot, dy, _, rfl, j1, fld_none (by decide) (by decide) (by decide), _, rfl, ot, zOther, z, ss, T, L, rfl, tab9, ep.zok, ep.sok, okL, ep.are, ep.gr, few, fun G10 o2 s10 ho2 tab10 => ?_⟩
    have eh10 := eh9.same s10
    refine ⟨_, rfl, o2, z, ss, L, rfl, tab10, .inl ⟨m, z, ss, L, rfl, eh10.tab, ep.sok, ep.sok, ?_⟩⟩
    rw [show (xor true (decide (z = z ∧ ss = ss ∧ L = L))) = false by simp]
    refine ⟨_, rfl, iteF ?_⟩
    have areL := ep.gr.are ep.are
    have tab9' := tab9.same s10
    obtain ⟨du, su, gu, u1, u2, u3⟩ := id tab9'
    obtain ⟨v1, v2, v3⟩ := show_turns (small_are n4 areL) (by omega)
    have wd : (PyData.list (L.map turnD)).depth ≤ 64 := by
      have := deep_turns L
      show PyData.depthAll (L.map turnD) + 1 ≤ 64
      omega
    refine ⟨_, rfl, ot, du, _, rfl, u1, fld_none (by decide) (by decide) (by decide), ot, zOther, ss, L, rfl, tab9', fun G11 lt s11 hlt g11 => ⟨lt, _, rfl, g11.dp, v1, v2, wd, (by rw [sizeLine_eq]; omega), ?_⟩⟩
    have eh11 := eh10.same s11
    refine ⟨_, rfl, g, _, rfl, eh11.gp.dp, v1, v2, wd, (by rw [sizeLine_eq]; omega), rfl, _, rfl, ?_⟩
    rw [decide_eq_true rfl]
    obtain ⟨y1, y2, y3⟩ := show_strsT ep.sok
    have zd : (strsT ss).depth ≤ 64 := by
      have := deep_strs ss
      show PyData.depthAll (ss.map PyData.str) + 1 ≤ 64
      omega
    have tab11 := tab9'.same s11
    obtain ⟨dv, sv, gvv, w1, w2, w3⟩ := id tab11
    refine iteT ⟨_, rfl, ot, dv, _, rfl, w1, fld_none (by decide) (by decide) (by decide), ot, zOther, ss, L, rfl, tab11, fun sa2 hsa2 => ⟨sa2, _, rfl, .tup (.inl (.inl hsa2)) (dp_strs ss), y1, y2, zd, le_line (Nat.le_trans y3 (by decide)), ?_⟩⟩
    refine ⟨a, ss, rfl, .inl eh11.sl, fun G12 tu s12 htu => ⟨tu, _, rfl, .tup (.inl (.inl htu)) (dp_strs ss), y1, y2, zd, le_line (Nat.le_trans y3 (by decide)), rfl, _, rfl, ?_⟩⟩
    rw [decide_eq_true rfl]
    have eh12 := eh11.same s12
    refine iteT ⟨_, rfl, _, rfl, _, rfl, (by show 2 ≤ sizeLine; decide), fun pr hpr => ?_⟩
    have s13 := sNew (o := .tup [.str z, .ref a]) (Same.refl G12) hpr
    refine ⟨m, z, ss, L, rfl, eh12.tab.same s13, .inr ⟨pr, _, rfl, upd_same, ?_⟩⟩
    have all : SameX l H (upd G12 pr (.tup [.str z, .ref a])) := SameX.same sx (Same.trans s2 (Same.trans s3 (Same.trans s4 (Same.trans s5 (Same.trans s7 (Same.trans s8 (Same.trans s9 (Same.trans s10 (Same.trans s11 (Same.trans s12 s13))))))))))
    exact q _ all (eh12.pot.same s13)
end
end S16

/-! set(xs), xs a list of nums: the set that sorted() and 'in' know -/
namespace L2
open PySem PySem.Spec PyProof.Rows
/-- a set without members, as it is made -/
abbrev setE (w : World) : Obj := { cls := .type "set", dict := none, data := .set #[] 0 (.fresh 0 0 (!w.params.followText "set-order")) }
section
variable {P : Program} {w : World} {A : Around} {E : Value → Shared → Prop} {s : Shared}
/-- the members of a list are put into the set just made -/
def FilledBy (w : World) (ns : List Int) (s : Shared) (r : Value) (s2 : Shared) : Prop :=
  r = .none ∧ ∃ (h2 : Heap) (tk c : Nat), s2 = { s with heap := h2, toks := tk } ∧ SetR w h2 s.heap.objs.size (fun j => decide (j ∈ ns)) c ∧ c ≤ ns.length ∧ ∀ b o, s.heap.get? b = some o → h2.get? b = some o
theorem set_fills {l : Addr} {items : Array Value} {ns : List Int} (calm : A.handled = none) (isL : s.heap.IsList l items) (nums : IntsAre items.toList ns) (few : ns.length + 1 < scanBound) :
    codeAny (model P w) A (.call (.builtin "set.__init__") ⟨[.ref s.heap.objs.size, .ref l], []⟩) (wants (FilledBy w ns s) E) { s with heap := s.heap.push (setE w) } := by
  have many : items.size = ns.length := by
    have e := nums.length
    simpa using e
  have old : l < s.heap.objs.size := let ⟨_, e, _⟩ := isL; Heap.lt_size e
  have made : (s.heap.push (setE w)).get? s.heap.objs.size = some (setE w) := Heap.get?_push_size _ rfl
  have each : ∀ (i : Nat) (v : Value), items[i]? = some v → ∃ k t, ns[i]? = some k ∧ v = .int k t := by
    intro i v hv
    have lt : i < ns.length := many ▸ (Array.getElem?_eq_some_iff.mp hv).1
    obtain ⟨t, e⟩ := PyProof.Rows.IntsAre.int_at nums i v (by rw [Array.getElem?_toList, hv])
    exact ⟨ns[i], t, List.getElem?_eq_getElem lt, by simpa [List.getD_eq_getElem?_getD, List.getElem?_eq_getElem lt] using e⟩
  refine codeAny_call_builtin F.called_set.init.plain F.entry_set_init (check_set_init_1 ⟨_, made, rfl⟩ ?_)
  obtain ⟨⟨_, dd, _, sl⟩, at_, rfl, n, rfl⟩ := isL
  have list1 : (s.heap.push (setE w)).IsList l items := ⟨_, Heap.get?_push_of_some _ at_, rfl, n, rfl⟩
  have at1 := Heap.get?_push_of_some (setE w) at_
  have n1 := F.sub_list_set
  have n2 := F.sub_list_frozenset
  have n3 : (Value.type "list" == Value.type "dict") = false := rfl
  unfold Builtin.«set.__init__» noKeywords Builtin.Frozenset.updateFrom
  generalize it : pyIter = PI
  wp_walk
  subst it
  refine wpAny_pyIter_list list1 (wpAny_bind (wpAny_runValue ?_))
  have above : (s.heap.push (setE w)).objs.size = s.heap.objs.size + 1 := Heap.size_push ..
  have apart : l ≠ (s.heap.push (setE w)).objs.size := Nat.ne_of_lt (above ▸ Nat.lt_succ_of_lt old)
  have off : s.heap.objs.size ∉ [(s.heap.push (setE w)).objs.size, l] := by
    rw [above, List.mem_cons, List.mem_singleton]
    exact fun z => z.elim (fun e => Nat.ne_of_lt (Nat.lt_succ_self _) e) fun e => Nat.ne_of_gt old e
  refine set_update_ints ((Walks.list (by simp [calm]) _ l apart items).toS) s.heap.objs.size off ns many few each items.size 0 _ (Nat.sub_zero _) (Nat.zero_le _)
    ⟨⟨_, Heap.get?_push_size _ rfl, rfl, rfl⟩, list1.push _⟩ ⟨0, Nat.le_refl 0, setR_new_at (Heap.get?_push_of_some _ made)⟩ ?_
  rintro ⟨h2, gens, dr, tk, os⟩ c mv le R
  obtain ⟨rfl, rfl, rfl⟩ : gens = s.gens ∧ dr = s.drawn ∧ os = s.os := ⟨mv.gens, mv.drawn, mv.os⟩
  refine wpAny_pure (wpAny_pure ⟨rfl, h2, tk, c, rfl, R, many ▸ le, fun b o e => ?_⟩)
  have lt := Heap.lt_size e
  refine mv.heap b o ?_ (Heap.get?_push_of_some _ (Heap.get?_push_of_some _ e))
  rw [List.mem_cons, List.mem_singleton, above]
  exact fun z => z.elim (fun e => Nat.ne_of_lt lt e) fun e => Nat.ne_of_lt (Nat.lt_succ_of_lt lt) e
theorem call_set_ofL {l : Addr} {items : Array Value} {ns : List Int} {Q : Value → Shared → Prop} (calm : A.handled = none) (isL : s.heap.IsList l items) (nums : IntsAre items.toList ns) (few : ns.length + 1 < scanBound)
    (fin : ∀ (h2 : Heap) (tk c : Nat), SetR w h2 s.heap.objs.size (fun j => decide (j ∈ ns)) c → c ≤ ns.length → (∀ b o, s.heap.get? b = some o → h2.get? b = some o) → Q (.ref s.heap.objs.size) { s with heap := h2, toks := tk }) :
    wpAny (model P w) A (call (.type "set") [.ref l]) Q E s := by
  obtain ⟨_, _, mro⟩ := F.called_set.mro
  have facts := And.intro F.called_set.made (And.intro F.called_set.sub (And.intro F.called_set.notType (And.intro F.called_set.canCreate (F.typeCall_set_1 (.ref l)))))
  obtain ⟨f1, f2, f3, f4, f5⟩ := facts
  refine wpAny_call (codeAny_of_tree (show wpAny _ _ (callAny (.type "set") _) _ _ _ from wpAny_pure ⟨Code.quiet_builtin _ (by decide +kernel), codeAny_builtin F.entry_type_call ?_⟩))
  rw [Around.under_plain (weight_type_call_type "set" [.ref l] []) rfl]
  repeat any_goals first | wp_step | assumption
  refine codeAny_mono (code_set_led1 (.ref l) (E := E) (Q₁ := fun v s1 => v = .ref s.heap.objs.size ∧ s1 = { s with heap := s.heap.push (setE w) }) ⟨rfl, rfl⟩) ?_
  rintro (er | fl) s1 z
  · exact z
  cases fl with
  | ret v =>
    obtain ⟨rfl, rfl⟩ := z
    have made : Shared.TypeIs { s with heap := s.heap.push (setE w) } (.ref s.heap.objs.size) "set" := ⟨_, Heap.get?_push_size _ rfl, rfl⟩
    have g1 := F.called_set.init.lookup
    have g2 := F.called_set.init.bind (.ref s.heap.objs.size)
    repeat any_goals first | wp_step | assumption
    refine codeAny_mono (set_fills (P := P) (w := w) (E := E) (by simp [calm]) isL nums few) ?_
    rintro (er | fl) s2 y
    · exact y
    cases fl with
    | ret v =>
      obtain ⟨rfl, h2, tk, c, rfl, R, le, keep⟩ := y
      repeat any_goals first | wp_step | assumption
      exact fin h2 tk c R le keep
    | _ => exact y.elim
  | _ => exact z.elim
end
section
variable {X : Cx}
/-- set(xs), xs a list of nums -/
def rSetOfL (K : PySem.W.Frag) (w : World) : List V → Hp → VK → Prop := fun us H Q => ∃ (l : Addr) (ns : List Int), us = [V.ref l] ∧ SqL K H l (ns.map V.int) ∧ ns.length < 60 ∧ ∀ (a : Addr) (c : Nat), H a = none → c ≤ ns.length → Q (.ref a) (upd H a (SetO w a (fun j => decide (j ∈ ns)) c))
theorem cr_setOfL (calm : X.calm = true) : CallR X (.type "set") (rSetOfL X.K X.w) := by
  rintro pins s σ H _ us Q I r ⟨l, ns, rfl, list, few, q⟩
  rw [Vals.ref1 r]
  obtain ⟨its, vals, plain, line⟩ := I.list list
  have fresh := I.hok.fresh (Nat.le_refl s.heap.objs.size)
  refine call_set_ofL (ns := ns) (I.ok.hd calm) plain.isList (by simpa using ints_of_vals vals) (Nat.lt_of_lt_of_le (show ns.length + 1 < 62 by omega) (by decide)) fun h2 tk c R le keep => ?_
  exact ⟨.ref s.heap.objs.size, _, I.laid (t' := tk) keep (Nat.le_refl _) (setO_new R), rfl, q _ c fresh le⟩
end
end L2

namespace S16
open PySem L2 GM
open PySem.W (EachIs)
theorem code_lex {B : Int} : ∀ {a b : List Int}, a.length = b.length → TS.Bd B a → TS.Bd B b → a < b → TS.code B a < TS.code B b
  | [], [], _, _, _, h => absurd h (List.lt_irrefl _)
  | x :: a, y :: b, l, ha, hb, h => by
    have l' : a.length = b.length := by simpa using l
    rcases List.cons_lt_cons_iff.mp h with z | ⟨z, k⟩
    · exact TS.code_lt l' ha.tail hb.tail z
    · subst z
      have r := code_lex l' ha.tail hb.tail k
      show x * B ^ a.length + TS.code B a < x * B ^ b.length + TS.code B b
      rw [l']
      omega
/-- the first of a class is the least one -/
theorem head_least {ns : List Int} {L : List Turn} {D : List (List Int)} {d0 lo : List Int} {g : Int} {n : Nat} (pos : ∀ i ∈ ns, 0 ≤ i) (len : ∀ t ∈ L, t.1.length = n) (c : Cls ns L (d0 :: D)) (l : LeastIs (mates ns L) lo g) : d0 = lo := by
  obtain ⟨m, hm, rfl⟩ := l.mem
  unfold mates at hm
  obtain ⟨u, hu, rfl⟩ := List.mem_map.mp hm
  obtain ⟨t, ht, e⟩ := (c.mem d0).mp List.mem_cons_self
  have le : (mv ns t.1).length = (mv ns u.1).length := by unfold mv; rw [List.length_map, List.length_map, len t ht, len u hu]
  refine List.le_antisymm (fun z => ?_) (fun z => ?_)
  · have z1 := code_lex (B := bnd ns) (by rw [e]; exact le.symm) (bd_mv pos) (by rw [e]; exact bd_mv pos) z
    rcases List.mem_cons.mp ((c.mem (mv ns u.1)).mpr ⟨u, hu, rfl⟩) with y | y
    · rw [y] at z1
      omega
    · have z2 := (List.pairwise_cons.mp c.srt).1 _ y
      omega
  · refine l.low (mv ns t.1, t.2) (List.mem_map.mpr ⟨t, ht, rfl⟩) ?_
    rw [e] at z
    exact z
theorem nodup_le {α : Type} [DecidableEq α] : ∀ {D E : List α}, D.Nodup → (∀ x ∈ D, x ∈ E) → D.length ≤ E.length
  | [], _, _, _ => Nat.zero_le _
  | a :: D, E, h, sub => by
    have ha := sub a List.mem_cons_self
    have hp := List.nodup_cons.mp h
    have z := nodup_le (D := D) (E := E.erase a) hp.2 fun x hx => (List.mem_erase_of_ne (fun (e : x = a) => hp.1 (e ▸ hx))).mpr (sub x (List.mem_cons_of_mem _ hx))
    rw [List.length_erase_of_mem ha] at z
    have := List.length_pos_of_mem ha
    rw [List.length_cons]
    omega
theorem dp_js {K : PySem.W.Frag} {H : Hp} : ∀ {js : List (Addr × List Int)}, (∀ p ∈ js, OrdIs H p) → DpAll K H (js.map fun p => V.ref p.1) ((js.map Prod.snd).map ordD)
  | [], _ => .nil
  | p :: js, h => .cons (dp_ord (.inl (.inl (h p List.mem_cons_self)))) (dp_js fun q m => h q (List.mem_cons_of_mem _ m))
theorem deep_js (D : List (List Int)) : (PyData.list (D.map ordD)).depth ≤ 64 := by
  have e : ∀ D : List (List Int), PyData.depthAll (D.map ordD) ≤ 1 := by
    intro D
    induction D with
    | nil => exact Nat.zero_le _
    | cons ns D ih =>
      have d := PySem.W.depth_ints ns
      show max (ordD ns).depth (PyData.depthAll (D.map ordD)) ≤ 1
      have : (ordD ns).depth ≤ 1 := by simp only [PyData.depth, d]; omega
      omega
  have := e D
  show PyData.depthAll (D.map ordD) + 1 ≤ 64
  omega
section
variable {P : Program} {w : World} {K : PySem.W.Frag} {mg : Str → Option Value} {base : Heap}
/-! ### _law_places_right -/
def spPlaces (C : Addr) : Sp := fun vs H Q _ => ∃ (l p a g : Addr) (z : Str) (ss : List Str) (L : List Turn), vs = [.ref l, .ref p, .ref a, .ref g] ∧ PotAt H l ∧ TabAt C H p z ss L ∧ H a = some (.lst (ss.map V.str)) ∧ GroupAt H g L ∧ 1 ≤ ss.length ∧ ss.length ≤ 4 ∧ Are ss.length L ∧ L ≠ [] ∧ L.length ≤ 48 ∧
  ∀ H', SameX l H H' → PotAt H' l → Q (.bl true) H'
abbrev nPlaces : List Str := ["_law_pot_here", "_law_made", "_law_slots", "_law_group_here", "_law_pool", "_law_places", "_law_mates_here", "_law_least", "_law_signs", "_law_due", "_law_told", "_law_sort", "_law_mate", "_law_sign"]
theorem scPlaces : FnScope nPlaces ["_law_pot_here", "_law_made", "_law_slots", "_law_group_here"] (defScope sPlaces) := ⟨rfl, rfl, rfl, by decide +kernel, rfl, by decide +kernel, by decide +kernel⟩
theorem ok_places {f C : Addr} {fd : FuncData} (F : Fun K "_law_places_right" "_law_places_right" sPlaces f fd) (B : Bn mg) (N : Tc K mg C) (DP : Df P w K mg base "_law_pick" ["_law_pot_here", "_law_some"] 2 spPick) (DM : Df P w K mg base "_law_mates" ["_law_places", "_law_group_here"] 1 (spMates K))
    (ML : Mt P w K mg base C "least" ["self", "places"] 5 (spTLeast K C)) (MC : Mt P w K mg base C "class_of" ["self", "places"] 5 (spTClass K C)) (MI : Mt P w K mg base C "is_slot_places" ["self", "value"] 3 (spTIsPl K C)) :
    FnG P w K mg base CX0 6 f fd ["_law_pot_here", "_law_made", "_law_slots", "_law_group_here"] (spPlaces C) := by
  obtain ⟨fl, fdl, hl, bl, GL⟩ := ML.ex
  obtain ⟨fc, fdc, hc, bc, GCl⟩ := MC.ex
  obtain ⟨fi, fdi, hi, bi, GI⟩ := MI.ex
  refine F.okG scPlaces (fun vs H Q E h => ?_) (fun cdv A outer s H vs Q E gd hr h => ?_)
  · obtain ⟨l, p, a, g, z, ss, L, rfl, _⟩ := h
    rfl
  · obtain ⟨l, p, a, g, z, ss, L, rfl, pot, tab, ha, hg, n1, n4, are, ne, few, q⟩ := h
    have perm : ∀ q ∈ L, q.1.Perm (idn ss.length) := fun q m => (are q m).1
    have hu := hr.units
    have h1 : Room 1 _ := hr.mono (by decide)
    have h2 : Room 2 _ := hr.mono (by decide)
    have h3 : Room 3 _ := hr.mono (by decide)
    have dg : (A.deeper (PyProof.Rows.envOfC "_law_places_right" (defScope sPlaces) s.heap.objs.size f cdv)).guards = some [] := deeper_guards.trans gd
    have room : (A.deeper (PyProof.Rows.envOfC "_law_places_right" (defScope sPlaces) s.heap.objs.size f cdv)).units + 70 < cLine := by
      have := hr.un
      omega
    refine ⟨_, pss_cons (ps_set (i := 4) scPlaces.nd rfl (Or.inr rfl) (pe_df DP h2 (by rfl) (pa_cons (pv 0) (pa_cons (pe_lst (pa_cons (pe_lst (pa_cons pe_int (pa_cons pe_int pa_nil))) (pa_cons (pe_lst (pa_cons pe_int (pa_cons pe_int (pa_cons pe_int pa_nil)))) (pa_cons (pe_lst (pa_cons pe_int (pa_cons (pe_op op_pow pe_int pe_int) (pa_cons pe_int pa_nil)))) (pa_cons (pe_lst (pa_cons pe_int pa_nil)) pa_nil))))) pa_nil))))
      (pss_cons (ps_set (i := 5) scPlaces.nd rfl (Or.inl rfl) (pe_callTy call_tuple_of (by rfl) B.tuple (by decide +kernel) (pa_cons (pe_lc (own := [("_law_sort", 11)]) (g := gName 11) (tt := tYes) (te := tCall spPick [] E0 (tCons (tVar 0) (tCons (tVar 4) tNil))) (by rfl) scPlaces.nd (pi_list (pv 2))
          (blkOk_by (own := [("_law_sort", 11)]) (N := nPlaces) (sc := defScope sPlaces) (by decide +kernel)) (fun _ _ _ _ _ => pg_name (i := 11) scPlaces.nd rfl (Or.inl rfl)) (fun _ _ _ _ _ => pts_nil) (fun _ _ _ _ _ => pe_df DP h2 (by rfl) (pa_cons (pv 0) (pa_cons (pv 4) pa_nil)))) pa_nil)))
      (pss_cons (ps_set (i := 6) scPlaces.nd rfl (Or.inl rfl) (pe_df DM h1 (by rfl) (pa_cons (pv 5) (pa_cons (pv 3) pa_nil))))
      (pss_cons (ps_set (i := 7) scPlaces.nd rfl (Or.inr rfl) (pe_callB (cr_minT rfl room) (by rfl) B.min (by decide +kernel) (pa_cons (pe_lc (own := [("_law_mate", 12), ("_law_sign", 13)]) (g := gTup K 2 (gCons (gName 12) (gCons (gName 13) gNil))) (tt := tYes) (te := tVar 12) (by rfl) scPlaces.nd (pi_list (pv 6))
          (blkOk_by (own := [("_law_mate", 12), ("_law_sign", 13)]) (N := nPlaces) (sc := defScope sPlaces) (by decide +kernel)) (fun _ _ _ _ _ => pg_tup rfl (pgs_cons (pg_name (i := 12) scPlaces.nd rfl (Or.inl rfl)) (pgs_cons (pg_name (i := 13) scPlaces.nd rfl (Or.inl rfl)) pgs_nil))) (fun _ _ _ _ _ => pts_nil) (fun _ _ _ _ _ => pv 12)) pa_nil)))
      (pss_cons (ps_set (i := 8) scPlaces.nd rfl (Or.inl rfl) (pe_callB (cr_sortedSet rfl) (by rfl) B.sorted (by decide +kernel) (pa_cons (pe_callTy (cr_setOfL rfl) (by rfl) B.set (by decide +kernel) (pa_cons (pe_lc (own := [("_law_mate", 12), ("_law_sign", 13)]) (g := gTup K 2 (gCons (gName 12) (gCons (gName 13) gNil))) (tt := tTest (tOp (rEqD K) (tVar 12) (tVar 7))) (te := tVar 13) (by rfl) scPlaces.nd (pi_list (pv 6))
          (blkOk_by (own := [("_law_mate", 12), ("_law_sign", 13)]) (N := nPlaces) (sc := defScope sPlaces) (by decide +kernel)) (fun _ _ _ _ _ => pg_tup rfl (pgs_cons (pg_name (i := 12) scPlaces.nd rfl (Or.inl rfl)) (pgs_cons (pg_name (i := 13) scPlaces.nd rfl (Or.inl rfl)) pgs_nil))) (fun _ _ _ _ _ => pts_one (pt_cmpR (op_eqD hu) (pv 12) (pv 7) (nomark _))) (fun _ _ _ _ _ => pv 13)) pa_nil)) pa_nil)))
      (pss_cons (ps_set (i := 9) scPlaces.nd rfl (Or.inl rfl) (pe_tup (pa_cons (pe_ifExp (pt_cmpR op_eq (pe_callB call_len_seq (by rfl) B.len PySem.boot_len (pa_cons (pv 8) pa_nil)) pe_int (nomark _)) (pe_ix ix_list (pv 8) pe_int (fun _ _ => rfl)) pe_int) (pa_cons (pv 7) pa_nil))))
      (pss_cons (ps_if (pt_cmpR op_ne (pe_callB (call_reprD dg room) (by rfl) B.repr (by decide +kernel) (pa_cons (pe_meth (pv 1) N.cl hl GL (hr.mono (by decide)) bl .nil pass0 (pa_cons (pv 5) pa_nil)) pa_nil)) (pe_callB (call_reprD dg room) (by rfl) B.repr (by decide +kernel) (pa_cons (pv 9) pa_nil)) (nomark _)) (pss_one (ps_ret pe_bl)) pss_nil)
      (pss_cons (ps_set (i := 10) scPlaces.nd rfl (Or.inl rfl) (pe_meth (pv 1) N.cl hc GCl (hr.mono (by decide)) bc .nil pass0 (pa_cons (pv 5) pa_nil)))
      (pss_cons (ps_if (PW.pt (pw_or (pt_cmpR op_ne (pe_callB (call_reprD dg room) (by rfl) B.repr (by decide +kernel) (pa_cons (pv 10) pa_nil)) (pe_callB (call_reprD dg room) (by rfl) B.repr (by decide +kernel) (pa_cons (pe_callB (cr_sortedT rfl) (by rfl) B.sorted (by decide +kernel) (pa_cons (pe_callTy (cr_setOfT rfl hu) (by rfl) B.set (by decide +kernel) (pa_cons (pe_lc (own := [("_law_mate", 12), ("_law_sign", 13)]) (g := gTup K 2 (gCons (gName 12) (gCons (gName 13) gNil))) (tt := tYes) (te := tVar 12) (by rfl) scPlaces.nd (pi_list (pv 6))
          (blkOk_by (own := [("_law_mate", 12), ("_law_sign", 13)]) (N := nPlaces) (sc := defScope sPlaces) (by decide +kernel)) (fun _ _ _ _ _ => pg_tup rfl (pgs_cons (pg_name (i := 12) scPlaces.nd rfl (Or.inl rfl)) (pgs_cons (pg_name (i := 13) scPlaces.nd rfl (Or.inl rfl)) pgs_nil))) (fun _ _ _ _ _ => pts_nil) (fun _ _ _ _ _ => pv 12)) pa_nil)) pa_nil)) pa_nil)) (nomark _))
          (pw_or1 (pt_cmpR op_notBl (pe_meth (pv 1) N.cl hi GI h3 bi .nil pass0 (pa_cons (pv 5) pa_nil)) pe_bl (nomark _))))) (pss_one (ps_ret pe_bl)) pss_nil)
      (pss_cons (ps_expr (pe_bm0 PySem.F.plainAttrs_list PySem.F.slot_list_clear PySem.F.type_list_clear mt_clear (pv 10)))
      (pss_one (ps_ret (pe_and (pe_cmpR (op_eqD hu) (pe_ix ix_list (pe_meth (pv 1) N.cl hc GCl (hr.mono (by decide)) bc .nil pass0 (pa_cons (pv 5) pa_nil)) pe_int (fun _ _ => rfl)) (pv 7) (nomark _)) (pe_one (pe_cmpR op_isBl (pe_meth (pv 1) N.cl hi GI h3 bi .nil pass0 (pa_cons (pe_op op_catT (pv 5) (pe_tup (pa_cons pe_int pa_nil))) pa_nil)) pe_bl (nomark _))))))))))))))), ?_⟩
    refine ⟨_, rfl, (by show 2 ≤ sizeLine; decide), fun l1 q1 => ⟨(by show 3 ≤ sizeLine; decide), fun l2 q2 => ⟨_, _, rfl, rfl, ⟨by decide, by decide, by decide⟩, (by show 3 ≤ sizeLine; decide), fun l3 q3 => ⟨(by show 1 ≤ sizeLine; decide), fun l4 q4 => ⟨(by show 4 ≤ sizeLine; decide), fun l5 q5 => ?_⟩⟩⟩⟩⟩
    have s1 := sNew (o := .lst [.int 0, .int 1]) (Same.refl H) q1
    have at1 := upd_same (H := H) (a := l1) (o := .lst [.int 0, .int 1])
    generalize upd H l1 (.lst [.int 0, .int 1]) = H1 at s1 at1 q2 q3 q4 q5
    have s2 := sNew (o := .lst [.int 0, .int 1, .int 2]) (Same.refl H1) q2
    have at2 := upd_same (H := H1) (a := l2) (o := .lst [.int 0, .int 1, .int 2])
    generalize upd H1 l2 (.lst [.int 0, .int 1, .int 2]) = H2 at s2 at2 q3 q4 q5
    have s3 := sNew (o := .lst [.int 3, .int (10 ^ (20 : Int).toNat), .int 5]) (Same.refl H2) q3
    have at3 := upd_same (H := H2) (a := l3) (o := .lst [.int 3, .int (10 ^ (20 : Int).toNat), .int 5])
    generalize upd H2 l3 (.lst [.int 3, .int (10 ^ (20 : Int).toNat), .int 5]) = H3 at s3 at3 q4 q5
    have s4 := sNew (o := .lst [.int 4]) (Same.refl H3) q4
    have at4 := upd_same (H := H3) (a := l4) (o := .lst [.int 4])
    generalize upd H3 l4 (.lst [.int 4]) = H4 at s4 at4 q5
    have s5 := sNew (o := .lst [.ref l1, .ref l2, .ref l3, .ref l4]) (Same.refl H4) q5
    have at5 := upd_same (H := H4) (a := l5) (o := .lst [.ref l1, .ref l2, .ref l3, .ref l4])
    generalize upd H4 l5 (.lst [.ref l1, .ref l2, .ref l3, .ref l4]) = H5 at s5 at5
    have s15 : Same H H5 := Same.trans s1 (Same.trans s2 (Same.trans s3 (Same.trans s4 s5)))
    have pot5 := pot.same s15
    refine ⟨l, l5, _, rfl, pot5, at5, pot.ne (s1.free (s2.free (s3.free (s4.free q5)))), (by show 1 ≤ 4; decide), (by show 4 ≤ 1000; decide), fun H6 v sx6 pot6 hv => ?_⟩
    obtain ⟨pa, ns0, rfl, hpa, npl, p1, p3, bd⟩ : ∃ (pa : Addr) (ns0 : List Int), v = .ref pa ∧ H6 pa = some (.lst (ns0.map V.int)) ∧ pa ≠ l ∧ 1 ≤ ns0.length ∧ ns0.length ≤ 3 ∧ ∀ i ∈ ns0, 0 ≤ i ∧ i ≤ 10 ^ 20 := by
      rcases List.mem_cons.mp hv with rfl | hv
      · have n := pot.ne q1
        exact ⟨l1, [0, 1], rfl, sx6 _ _ n (s5 _ _ (s4 _ _ (s3 _ _ (s2 _ _ at1)))), n, by decide, by decide, by decide⟩
      rcases List.mem_cons.mp hv with rfl | hv
      · have n := pot.ne (s1.free q2)
        exact ⟨l2, [0, 1, 2], rfl, sx6 _ _ n (s5 _ _ (s4 _ _ (s3 _ _ at2))), n, by decide, by decide, by decide⟩
      rcases List.mem_cons.mp hv with rfl | hv
      · have n := pot.ne (s1.free (s2.free q3))
        exact ⟨l3, [3, 10 ^ 20, 5], rfl, sx6 _ _ n (s5 _ _ (s4 _ _ at3)), n, by decide, by decide, by decide⟩
      · obtain rfl := List.mem_singleton.mp hv
        have n := pot.ne (s1.free (s2.free (s3.free q4)))
        exact ⟨l4, [4], rfl, sx6 _ _ n (s5 _ _ at4), n, by decide, by decide, by decide⟩
    have sxH6 : SameX l H H6 := SameX.trans (SameX.of s15) sx6
    have nal : a ≠ l := TextsS.off (.inl ha) pot
    refine ⟨_, rfl, a, rfl, ⟨_, SqL.of (sxH6 _ _ nal ha)⟩, fun D hD => ?_⟩
    have nDl : D ≠ l := pot6.ne hD
    refine lc_it (walk_list (K := K) (a := a) (xs := ss.map V.str)) (fun i G => SameX l H6 G ∧ PotAt G l ∧ ∃ ns : List Int, G D = some (.lst (ns.map V.int)) ∧ ns.length = i ∧ ∀ x ∈ ns, 0 ≤ x ∧ x ≤ 10 ^ 20) ⟨SameX.of (sNew (Same.refl H6) hD), pot6.same (sNew (Same.refl H6) hD), [], upd_same, rfl, by simp⟩ (fun i G _ h => SqL.of (h.1 _ _ nal (sxH6 _ _ nal ha))) ?_ ?_
    · rintro i v _ G hi ⟨sx, pg, ns, hns, nl, bn⟩ ⟨rfl, hv2⟩
      rw [List.length_map] at hi
      refine ⟨rfl, _, rfl, _, rfl, l, pa, _, rfl, pg, sx _ _ npl hpa, npl, by rw [List.length_map]; exact p1, by rw [List.length_map]; omega, fun G2 v sx2 pg2 hv3 => ?_⟩
      obtain ⟨x, hx, rfl⟩ := List.mem_map.mp hv3
      have hns2 := sx2 _ _ nDl hns
      refine ⟨_, hns2, lt_line (by rw [List.length_map]; omega), fun b o nb e => ?_, pg2.put nDl.symm, ns ++ [x], by rw [upd_same, List.map_append]; rfl, by rw [List.length_append, nl]; rfl, fun y hy => ?_⟩
      · rw [upd_ne (ne_of_none e hD)]
        exact sx2 _ _ nb (sx _ _ nb e)
      · rcases List.mem_append.mp hy with m | m
        · exact bn y m
        · rw [List.mem_singleton.mp m]; exact bd x hx
    rintro G ⟨sx, pg, ns, hns, nl, bn⟩
    rw [List.length_map] at nl
    refine ⟨D, _, rfl, .inl ⟨SqL.of hns, fun t htn => ?_⟩⟩
    have sT := sNew (o := .tup (ns.map V.int)) (Same.refl G) htn
    have ht := upd_same (H := G) (a := t) (o := .tup (ns.map V.int))
    have sxT : SameX l H (upd G t (.tup (ns.map V.int))) := SameX.same (SameX.trans sxH6 sx) sT
    have potT := pg.same sT
    generalize upd G t (.tup (ns.map V.int)) = H7 at sT ht sxT potT
    have tab7 := tab.pot pot sxT
    have hg7 := hg.pot pot (hg.off pot) sxT
    have perm7 : ∀ q ∈ L, q.1.Perm (idn ns.length) := by rw [nl]; exact perm
    refine ⟨_, rfl, _, rfl, t, g, ns, L, rfl, .inl (.inl ht), hg7, by omega, perm7, by omega, fun H8 r s8 hr8 grp8 => ?_⟩
    have mfew : (mates ns L).length ≤ 100 := by unfold mates; rw [List.length_map]; omega
    dsimp only [gName, tSeq, tAsg, tCB, tCons]
    refine firsts_read grp8 mfew fun H9 D2 ks s9 hD2 hks tks eks => ?_
    have kne : ks ≠ [] := fun e => by
      have z := congrArg List.length eks
      unfold mates at z
      rw [e, List.length_map, List.length_map, List.length_map] at z
      exact ne (List.length_eq_zero_iff.mp z.symm)
    refine ⟨D2, ks, rfl, SqL.of hks, kne, fun p m => .inl (.inl (tks p m)), fun m0 hm0 low0 => ?_⟩
    refine signs_read (grp8.same s9) mfew (tks m0 hm0) fun H10 D3 s10 hD3 hsg => ?_
    have slen : (signsAt m0.2 (mates ns L)).length < 60 := by
      have := List.length_filter_le (fun m : Turn => decide (m.1 = m0.2)) (mates ns L)
      unfold signsAt
      rw [List.length_map]
      have l2 : (mates ns L).length = L.length := by unfold mates; rw [List.length_map]
      omega
    refine ⟨D3, _, rfl, SqL.of hsg, slen, fun sa c hsa le => ?_⟩
    have s11 := sNew (o := SetO w sa (fun j => decide (j ∈ signsAt m0.2 (mates ns L))) c) (Same.refl H10) hsa
    refine ⟨sa, _, c, rfl, upd_same, by omega, fun S sp up iff Slen hsp => ?_⟩
    rw [show (cxOf CX0 P w K mg base nPlaces "_law_places_right" (defScope sPlaces) f cdv A outer s H E).w = w from rfl]
    have s12 := sNew (o := .lst (S.map V.int)) s11 hsp
    have atS := upd_same (H := upd H10 sa (SetO w sa (fun j => decide (j ∈ signsAt m0.2 (mates ns L))) c)) (a := sp) (o := .lst (S.map V.int))
    generalize upd (upd H10 sa (SetO w sa (fun j => decide (j ∈ signsAt m0.2 (mates ns L))) c)) sp (.lst (S.map V.int)) = H12 at s12 atS
    have fin : LeastIs (mates ns L) m0.2 (if S.length = 1 then S.getD 0 0 else 0) := by
      refine least_set ?_ (fun m hm => ?_) up fun k => (iff k).trans decide_eq_true_iff
      · have z : m0.2 ∈ (mates ns L).map Prod.fst := by rw [← eks]; exact List.mem_map.mpr ⟨m0, hm0, rfl⟩
        obtain ⟨m, hm, e⟩ := List.mem_map.mp z
        exact ⟨m, hm, e⟩
      · have z : m.1 ∈ ks.map Prod.snd := by rw [eks]; exact List.mem_map.mpr ⟨m, hm, rfl⟩
        obtain ⟨y, hy, e⟩ := List.mem_map.mp z
        rw [← e]
        exact low0 y hy
    have s8T : Same H7 H12 := Same.trans s8 (Same.trans s9 (Same.trans s10 s12))
    have fork : ∀ {A0 B0 : Prop} {Kc : VK}, (rIxL K (.ref sp) (.int 0) H12 Kc → A0) → (Kc (.int 0) H12 → B0) → Kc (.int (if S.length = 1 then S.getD 0 0 else 0)) H12 → (if decide (V.int (((S.map V.int).length : Nat) : Int) = V.int 1) = true then A0 else B0) := by
      intro A0 B0 Kc ka kb kc
      rw [List.length_map]
      by_cases e : S.length = 1
      · rw [if_pos e] at kc
        rw [decide_eq_true (by rw [e]; rfl), if_pos rfl]
        obtain ⟨x, rfl⟩ := List.length_eq_one_iff.mp e
        exact ka ⟨sp, _, 0, V.int x, rfl, rfl, SqL.of atS, at_of (j := 0) rfl rfl, kc⟩
      · rw [if_neg e] at kc
        rw [decide_eq_false (fun z => e (by have := V.int.inj z; omega)), if_neg (by decide)]
        exact kb kc
    have lm0 : OrdIs H12 m0 := Same.trans s10 s12 _ _ (tks m0 hm0)
    have smallns : Small ns := ⟨by omega, fun i hi => by
      have z := bn i hi
      have z2 : (10 : Int) ^ 20 < 2 ^ 100 := (by decide)
      omega⟩
    have small0 : Small m0.2 := by
      have z : m0.2 ∈ (mates ns L).map Prod.fst := by rw [← eks]; exact List.mem_map.mpr ⟨m0, hm0, rfl⟩
      obtain ⟨m, hm, e⟩ := List.mem_map.mp z
      unfold mates at hm
      obtain ⟨q0, hq0, rfl⟩ := List.mem_map.mp hm
      rw [← e]
      exact small_mv smallns (by rw [perm_len (perm7 q0 hq0)]; omega)
    generalize hgg : (if S.length = 1 then S.getD 0 0 else 0) = gg at fin fork
    have sgg : gg.natAbs < 2 ^ 100 := by
      rcases fin.sign with k | ⟨k, _⟩
      · obtain ⟨m, hm, e⟩ := fin.mem
        have z := k m hm e
        unfold mates at hm
        obtain ⟨q0, hq0, rfl⟩ := List.mem_map.mp hm
        rcases (are q0 hq0).2 with y | y
        · rw [← z, y]; decide
        · rw [← z, y]; decide
      · rw [k]; decide
    refine ⟨_, rfl, sp, _, rfl, .inl (SqL.of atS), rfl, _, rfl, ?_⟩
    dsimp only [tOp, tVar, tC]
    refine fork (fun h => ⟨_, rfl, h⟩) (fun h => h) ?_
    refine ⟨_, rfl, (by show 2 ≤ sizeLine; decide), fun du hdu => ?_⟩
    have s13 := sNew (o := .tup [.int gg, .ref m0.1]) (Same.refl H12) hdu
    have hdue := upd_same (H := H12) (a := du) (o := .tup [.int gg, .ref m0.1])
    generalize upd H12 du (.tup [.int gg, .ref m0.1]) = H13 at s13 hdue
    have s713 : Same H7 H13 := Same.trans s8T s13
    obtain ⟨dx, sa2, ga, i1, i2, i3⟩ := id tab7
    have fn : ∀ m : Str, m ≠ fN → m ≠ fS → m ≠ fT → ([(fN, V.str z), (fS, V.ref sa2), (fT, V.ref ga)] : List (Str × V)).lookup m = none := fun m a b c => fld_none a b c
    refine ⟨_, rfl, p, dx, _, rfl, s713 _ _ i1, fn _ (by decide) (by decide) (by decide), _, rfl, p, t, z, ss, L, ns, rfl, tab7.same s713, .inl (.inl (s713 _ _ ht)), nl, by omega, fun i hi => (bn i hi).1, perm7, ne, by omega, fun H14 r2 l2 lo2 g2 s14 hr2 hl2 least2 => ?_⟩
    obtain ⟨e1, e2⟩ := fin.one least2
    subst e1
    subst e2
    obtain ⟨w1, w2, w3⟩ := show_due sgg small0
    have wd : (PyData.tuple [.int gg, ordD m0.2]).depth ≤ 64 := by
      have d := PySem.W.depth_ints m0.2
      simp only [PyData.depth, PyData.depthAll, d]
      omega
    have dp1 : Dp K H14 (.ref r2) (.tuple [.int gg, ordD m0.2]) := .tup (.inl (.inl hr2)) (.cons (.int _) (.cons (dp_ord (.inl (.inl hl2))) .nil))
    have dp2 : Dp K H14 (.ref du) (.tuple [.int gg, ordD m0.2]) := .tup (.inl (.inl (s14 _ _ hdue))) (.cons (.int _) (.cons (dp_ord (.inl (.inl (s14 _ _ (s13 _ _ lm0))))) .nil))
    refine ⟨r2, _, rfl, dp1, w1, w2, wd, le_line (by omega), _, rfl, du, _, rfl, dp2, w1, w2, wd, le_line (by omega), rfl, _, rfl, ?_⟩
    rw [decide_eq_true rfl]
    refine iteF ?_
    have s714 : Same H7 H14 := Same.trans s713 s14
    refine ⟨_, rfl, p, dx, _, rfl, s714 _ _ i1, fn _ (by decide) (by decide) (by decide), _, rfl, p, t, z, ss, L, ns, rfl, tab7.same s714, .inl (.inl (s714 _ _ ht)), nl, n1, by omega, fun i hi => (bn i hi).1, perm7, by omega, fun H15 ct js s15 hct hctl hjs cls => ?_⟩
    have s715 : Same H7 H15 := Same.trans s714 s15
    have smallD : ∀ x ∈ js.map Prod.snd, Small x := fun x hx => by
      obtain ⟨q0, hq0, rfl⟩ := (cls.mem x).mp hx
      exact small_mv smallns (by rw [perm_len (perm7 q0 hq0)]; omega)
    have fewD : (js.map Prod.snd).length ≤ 100 := by
      have y := nodup_le (E := (mates ns L).map Prod.fst) cls.nd fun x hx => by
        obtain ⟨q0, hq0, rfl⟩ := (cls.mem x).mp hx
        exact List.mem_map.mpr ⟨(mv ns q0.1, q0.2), List.mem_map.mpr ⟨q0, hq0, rfl⟩, rfl⟩
      have y2 : ((mates ns L).map Prod.fst).length = (mates ns L).length := by rw [List.length_map]
      omega
    obtain ⟨v1, v2, v3⟩ := show_ords smallD fewD
    refine ⟨_, rfl, ct, _, rfl, .lst (SqL.of hctl) (dp_js hjs), v1, v2, deep_js _, le_line (by omega), ?_⟩
    have s815 : Same H8 H15 := Same.trans s9 (Same.trans s10 (Same.trans s12 (Same.trans s13 (Same.trans s14 s15))))
    dsimp only [tCB, tCons]
    refine firsts_read (grp8.same s815) mfew fun H16 D4 ks4 s16 hD4 hks4 tks4 eks4 => ?_
    dsimp only [tNil]
    refine class_read hks4 tks4 (by rw [eks4]; unfold mates; rw [List.map_map]; rfl) (by omega) (d := ns.length) (by omega) (fun q m => perm_len (perm7 q m)) (fun i hi => (bn i hi).1) fun H17 r3 js2 s17 hr3 hr3l hjs2 cls2 => ?_
    have same2 : js2.map Prod.snd = js.map Prod.snd := Cls.one (fun i hi => (bn i hi).1) (fun q m => perm_len (perm7 q m)) cls2 cls
    have s817 : Same H8 H17 := Same.trans s815 (Same.trans s16 s17)
    have s817b : Same H7 H17 := Same.trans s8 s817
    refine ⟨r3, _, rfl, by rw [← same2]; exact .lst (SqL.of hr3l) (dp_js hjs2), v1, v2, deep_js _, le_line (by omega), rfl, _, rfl, ?_⟩
    rw [decide_eq_true rfl]
    refine iteF ⟨_, rfl, p, dx, _, rfl, s817b _ _ i1, fn _ (by decide) (by decide) (by decide), _, rfl, p, t, z, ss, L, ns, rfl, tab7.same s817b, .inl (.inl (s817b _ _ ht)), by omega, fun i hi => (bn i hi).1, fun H18 s18 => ?_⟩
    rw [decide_eq_true nl]
    refine ⟨true, true, rfl, rfl, _, rfl, ?_⟩
    rw [decide_eq_true rfl]
    refine iteF ?_
    have hct18 : H18 ct = some (.lst (js.map fun p => V.ref p.1)) := s18 _ _ (s17 _ _ (s16 _ _ hctl))
    refine ⟨_, rfl, .inl ⟨rfl, _, SqL.of hct18⟩, ct, _, rfl, rfl, hct18, ?_⟩
    have s1419 : Same H14 (upd H18 ct (.lst [])) := sPut (Same.trans s15 (Same.trans s16 (Same.trans s17 s18))) hct
    generalize upd H18 ct (.lst []) = H19 at s1419
    have s719 : Same H7 H19 := Same.trans s714 s1419
    refine ⟨_, rfl, p, dx, _, rfl, s719 _ _ i1, fn _ (by decide) (by decide) (by decide), _, rfl, p, t, z, ss, L, ns, rfl, tab7.same s719, .inl (.inl (s719 _ _ ht)), nl, n1, by omega, fun i hi => (bn i hi).1, perm7, by omega, fun H20 ct2 js3 s20 hct2 hl2 hjs3 cls3 => ?_⟩
    have s720 : Same H7 H20 := Same.trans s719 s20
    obtain ⟨j0, jr, rfl⟩ : ∃ j0 jr, js3 = j0 :: jr := by
      cases js3 with
      | nil =>
        obtain ⟨m, hm, e⟩ := fin.mem
        unfold mates at hm
        obtain ⟨u, hu, rfl⟩ := List.mem_map.mp hm
        exact absurd ((cls3.mem (mv ns u.1)).mpr ⟨u, hu, rfl⟩) List.not_mem_nil
      | cons a b => exact ⟨a, b, rfl⟩
    have hd0 : j0.2 = m0.2 := head_least (fun i hi => (bn i hi).1) (fun q m => perm_len (perm7 q m)) cls3 fin
    refine ⟨ct2, _, 0, V.ref j0.1, rfl, rfl, SqL.of hl2, at_of (j := 0) rfl rfl, _, rfl, _, _, dp_ord (.inl (.inl (hjs3 j0 List.mem_cons_self))), dp_ord (.inl (.inl (s20 _ _ (s1419 _ _ (s14 _ _ (s13 _ _ lm0)))))), sh_intsT _, sh_intsT _, _, rfl, ?_⟩
    rw [eqv_ord, decide_eq_true hd0]
    refine iteT ⟨_, rfl, p, dx, _, rfl, s720 _ _ i1, fn _ (by decide) (by decide) (by decide), _, rfl, (by show 1 ≤ sizeLine; decide), fun o1 ho1 => ?_⟩
    have s21 := sNew (o := .tup [.int 0]) (Same.refl H20) ho1
    have ho := upd_same (H := H20) (a := o1) (o := .tup [.int 0])
    generalize upd H20 o1 (.tup [.int 0]) = H21 at s21 ho
    have s721 : Same H7 H21 := Same.trans s720 s21
    refine ⟨t, o1, ns.map V.int, [.int 0], rfl, rfl, .inl (.inl (s721 _ _ ht)), .inl (.inl ho), fun e => ?_, le_line (by rw [List.length_map]; show ns.length + 1 ≤ 2000000; omega), fun e => (by cases e), fun _ p2 hp2 => ?_⟩
    · have := congrArg List.length e
      rw [List.length_map] at this
      have n0 : ns.length = 0 := this
      omega
    · have s22 := sNew (o := .tup (ns.map V.int ++ [.int 0])) (Same.refl H21) hp2
      have hp3 := upd_same (H := H21) (a := p2) (o := .tup (ns.map V.int ++ [.int 0]))
      generalize upd H21 p2 (.tup (ns.map V.int ++ [.int 0])) = H22 at s22 hp3
      have s722 : Same H7 H22 := Same.trans s721 s22
      refine ⟨p, p2, z, ss, L, ns ++ [0], rfl, tab7.same s722, .inl (.inl (by rw [List.map_append]; exact hp3)), by rw [List.length_append]; show ns.length + 1 ≤ 100; omega, fun i hi => ?_, fun H23 s23 => ?_⟩
      · rcases List.mem_append.mp hi with m | m
        · exact (bn i m).1
        · rw [List.mem_singleton.mp m]; decide
      · rw [decide_eq_false (fun e => by rw [List.length_append, nl] at e; have e2 : ss.length + 1 = ss.length := e; omega)]
        refine ⟨false, false, rfl, rfl, ?_⟩
        have s723 : Same H7 H23 := Same.trans s722 s23
        exact q H23 (SameX.same sxT s723) (potT.same s723)
end
end S16

namespace S16
open PySem L2 GM
open PySem.W (EachIs)
theorem show_kept {ss : List Str} {T : List Turn} (sok : SlotsOk ss) (tok : ∀ p ∈ T, TurnOk ss p) (few : T.length ≤ 3) :
    (PyData.list [strsL ss, .list (T.map turnD)]).showable = true ∧ (PyData.list [strsL ss, .list (T.map turnD)]).hasDict = false ∧ (PyData.list [strsL ss, .list (T.map turnD)]).depth ≤ 64 ∧ (PyData.list [strsL ss, .list (T.map turnD)]).shown.length ≤ sizeLine := by
  obtain ⟨a1, a2, a3⟩ := show_strsL sok
  obtain ⟨b1, b2, b3⟩ := show_turns (small_are sok.2.1 (are_of tok)) (by omega)
  refine ⟨?_, ?_, ?_, ?_⟩
  · show ((strsL ss).showable && ((PyData.list (T.map turnD)).showable && true)) = true
    rw [a1, b1]; rfl
  · show ((strsL ss).hasDict || ((PyData.list (T.map turnD)).hasDict || false)) = false
    rw [a2, b2]; rfl
  · have d1 := deep_strs ss
    have d2 := deep_turns T
    simp only [PyData.depth, PyData.depthAll]
    omega
  · have z : (PyData.list [strsL ss, .list (T.map turnD)]).shown.length ≤ _ := listText_len_le [(strsL ss).shown, (PyData.list (T.map turnD)).shown]
    rw [sizeLine_eq]
    simp only [List.map_cons, List.map_nil, List.sum_cons, List.sum_nil, List.length_cons, List.length_nil] at z
    have a3' : (PyData.list (ss.map PyData.str)).shown.length ≤ 5000 := a3
    omega
theorem sh_strsA {ss : List Str} (h : ∀ z ∈ ss, NameOk z) : SeqAt.shaped (.list (ss.map PyData.str)) = true := by
  have d := deep_strs ss
  unfold SeqAt.shaped
  rw [Bool.and_eq_true, decide_eq_true_eq, PyData.canLay0, PyData.depth]
  exact ⟨lay_strs ss h, by omega⟩
theorem bool_fits (b : Bool) : ((if b = true then ("True" : Str) else "False")).length ≤ sizeLine := by
  rw [sizeLine_eq]
  cases b <;> decide
theorem kept_signs (L : List Turn) : kept (fun i => (L.map fun q => V.int q.2)[i]?) L.length = L.map fun q => V.int q.2 := by
  have z := kept_all (ys := L.map fun q => V.int q.2) (f := fun i => (L.map fun q => V.int q.2)[i]?) fun i => rfl
  rwa [List.length_map] at z
theorem flat_signs (L : List Turn) : (L.map fun q => V.int q.2).all flatV = true := by
  rw [List.all_map]
  exact List.all_eq_true.mpr fun _ _ => rfl
theorem signs_any {n : Nat} : ∀ {L : List Turn}, Are n L → (L.any fun t => decide (t.2 < 0)) = inV (.int (-1)) (L.map fun q => V.int q.2)
  | [], _ => rfl
  | p :: L, are => by
    have ih := signs_any (n := n) (L := L) fun q m => are q (List.mem_cons_of_mem _ m)
    show (decide (p.2 < 0) || L.any _) = (eqV (.int p.2) (.int (-1)) || inV (.int (-1)) (L.map fun q => V.int q.2))
    rw [ih]
    have s := (are p List.mem_cons_self).2
    congr 1
    rcases s with e | e <;> rw [e] <;> rfl
theorem shown_strs : ∀ ss : List Str, PyData.shownAll (ss.map PyData.str) = ss.map reprText
  | [] => rfl
  | s :: ss => by
    show reprText s :: PyData.shownAll (ss.map PyData.str) = reprText s :: ss.map reprText
    rw [shown_strs ss]
section
variable {P : Program} {w : World} {K : PySem.W.Frag} {mg : Str → Option Value} {base : Heap}
/-! ### _law_right -/
/-- the sorts, drawn -/
def r1 : TE := fun σ H Q => ∃ (l : Addr) (rest : St), σ = some (.ref l) :: rest ∧ PotAt H l ∧ ∀ (G : Hp) (p : Addr) (sv : List Str), SameX l H G → PotAt G l → G p = some (.lst (sv.map V.str)) → p ≠ l → 1 ≤ sv.length → sv.length ≤ 3 → (∀ z ∈ sv, NameOk z) → Q (.ref p) G
/-- the slots and the name -/
def r2 : TS := fun D σ H => ∃ (l p : Addr) (sv : List Str) (x2 x3 x4 x5 x6 x7 x8 x9 x10 x11 x12 : Option V), σ = [some (.ref l), some (.ref p), x2, x3, x4, x5, x6, x7, x8, x9, x10, x11, x12] ∧ PotAt H l ∧ H p = some (.lst (sv.map V.str)) ∧ p ≠ l ∧ 1 ≤ sv.length ∧ sv.length ≤ 3 ∧ (∀ z ∈ sv, NameOk z) ∧
  ∀ (G : Hp) (a : Addr) (z : Str) (ss : List Str), SameX l H G → PotAt G l → G a = some (.lst (ss.map V.str)) → NameOk z → z ≠ zOther → SlotsOk ss → D.nx [some (.ref l), some (.ref p), some (.ref a), some (.str z), x4, x5, x6, x7, x8, x9, x10, x11, x12] G
/-- what is kept of the arguments -/
abbrev keptD (ss : List Str) (T : List Turn) : PyData := .list [strsL ss, .list (T.map turnD)]
def tKept (K : PySem.W.Frag) : TE := fun σ H Q => ∃ (l p a t : Addr) (z : Str) (ss : List Str) (T : List Turn) (rest : St), σ = some (.ref l) :: some (.ref p) :: some (.ref a) :: some (.str z) :: some (.ref t) :: rest ∧ H a = some (.lst (ss.map V.str)) ∧ GroupAt H t T ∧ SlotsOk ss ∧ (∀ p ∈ T, TurnOk ss p) ∧ T.length ≤ 3 ∧
  ∀ G, Same H G → Q (.str (keptD ss T).shown) G
abbrev nRight : List Str := ["_law_pot_here", "_law_sorts", "_law_slots", "_law_title", "_law_turns_here", "_law_group_here", "_law_kept", "_law_is_gone", "_law_made", "_law_at", "_law_order_here", "_law_sign", "_law_turn"]
theorem scRight : FnScope nRight ["_law_pot_here"] (defScope sRight) := ⟨rfl, rfl, rfl, by decide +kernel, rfl, by decide +kernel, by decide +kernel⟩
theorem ok_right {f C D : Addr} {fd : FuncData} (F : Fun K "_law_right" "_law_right" sRight f fd) (B : Bn mg) (TO : TOp P w K mg base C) (LT : LTab P w K mg base C D)
    (DD : Df P w K mg base "_law_draw" ["_law_pot_here", "_law_many"] 1 spDraw) (DP : Df P w K mg base "_law_pick" ["_law_pot_here", "_law_some"] 2 spPick) (DT : Df P w K mg base "_law_turns" ["_law_pot_here", "_law_slots"] 3 spTurns)
    (DG : Df P w K mg base "_law_group" ["_law_slots", "_law_turns_here"] 1 spGroup) (DM : DfG P w K mg base "_law_met" ["_law_title", "_law_slots", "_law_turns_here"] 9 spMet)
    (DL : DfG P w K mg base "_law_places_right" ["_law_pot_here", "_law_made", "_law_slots", "_law_group_here"] 6 (spPlaces C)) (DE : DfG P w K mg base "_law_equal_right" pEqual 9 (spEqual C))
    (MT : Mt P w K mg base C "turns" ["self"] 1 (spTTurns C)) (MS : Mt P w K mg base C "slots" ["self"] 1 (spTSlots C)) (MG : ∃ q g fd, PropOf K C "changes_sign" q g ∧ Binds K fd ["self"] [] ∧ FnOk P w K mg base CX0 1 g fd ["self"] (spTSign C)) :
    FnG P w K mg base CX0 12 f fd ["_law_pot_here"] spRight := by
  obtain ⟨ft, fdt, mt, kt, bt, GT⟩ := LT.ex
  obtain ⟨fu, fdu, hu1, bu, GU⟩ := MT.ex
  obtain ⟨fs, fds, hs1, bs, GS⟩ := MS.ex
  obtain ⟨qp, gp, fdp, hp1, bp, GP⟩ := MG
  have N := TO.tc
  refine F.okG scRight (fun vs H Q E h => ?_) (fun cdv A outer s H vs Q E gd hr h => ?_)
  · obtain ⟨l, rfl, _⟩ := h
    rfl
  · have hu := hr.units
    have hu1' := hu_of hr
    have h1 : Room 1 _ := hr.mono (by decide)
    have h2 : Room 2 _ := hr.mono (by decide)
    have h3 : Room 3 _ := hr.mono (by decide)
    have h6 : Room 6 _ := hr.mono (by decide)
    have h9 : Room 9 _ := hr.mono (by decide)
    have dg : (A.deeper (PyProof.Rows.envOfC "_law_right" (defScope sRight) s.heap.objs.size f cdv)).guards = some [] := deeper_guards.trans gd
    have room : (A.deeper (PyProof.Rows.envOfC "_law_right" (defScope sRight) s.heap.objs.size f cdv)).units + 70 < cLine := by
      have := hr.un
      omega
    have hu65 : (A.deeper (PyProof.Rows.envOfC "_law_right" (defScope sRight) s.heap.objs.size f cdv)).units + 65 < cLine := by omega
    have nd := scRight.nd
    refine' ⟨_, pss_cons (ps_set (i := 1) nd rfl (Or.inr rfl) (PE.imp (t' := r1) (pe_df DP h2 (by rfl) (pa_cons (pv 0) (pa_cons (pe_lst (pa_cons (pe_lst (pa_cons pe_str pa_nil)) (pa_cons (pe_lst (pa_cons pe_str (pa_cons pe_str pa_nil))) (pa_cons (pe_lst (pa_cons pe_str (pa_cons pe_str (pa_cons pe_str pa_nil)))) (pa_cons (pe_lst (pa_cons pe_str (pa_cons pe_str (pa_cons pe_str pa_nil)))) pa_nil))))) pa_nil))) ?q1))
      (pss_cons (PS.less (t' := r2) (ps_asg (pe_tup (pa_cons (pe_lc (own := [("_law_at", 9)]) (g := gName 9) (tt := tYes) (te := tCall spPick [] E0 (tCons (tVar 0) (tCons (tVar 1) tNil))) (by rfl) nd (pi_range1 (by rfl) B.range (pa_cons (pe_op op_add pe_int (pe_df DD h1 (by rfl) (pa_cons (pv 0) (pa_cons pe_int pa_nil)))) pa_nil))
          (blkOk_by (own := [("_law_at", 9)]) (N := nRight) (sc := defScope sRight) (by decide +kernel)) (fun _ _ _ _ _ => pg_name (i := 9) nd rfl (Or.inl rfl)) (fun _ _ _ _ _ => pts_nil) (fun _ _ _ _ _ => pe_df DP h2 (by rfl) (pa_cons (pv 0) (pa_cons (pv 1) pa_nil))))
          (pa_cons (pe_df DP h2 (by rfl) (pa_cons (pv 0) (pa_cons (pe_lst (pa_cons pe_str (pa_cons pe_str (pa_cons pe_str pa_nil)))) pa_nil))) pa_nil))) (pg_tup (by rfl) (pgs_cons (pg_name (i := 2) nd rfl (Or.inr rfl)) (pgs_cons (pg_name (i := 3) nd rfl (Or.inl rfl)) pgs_nil)))) ?q2)
      (pss_cons (ps_set (i := 4) nd rfl (Or.inl rfl) (pe_df DT h3 (by rfl) (pa_cons (pv 0) (pa_cons (pv 2) pa_nil))))
      (pss_cons (ps_asg (pe_tup (pa_cons (pe_df DG h1 (by rfl) (pa_cons (pv 2) (pa_cons (pv 4) pa_nil))) (pa_cons (PE.imp (t' := tKept K) (pe_callB (call_reprD dg room) (by rfl) B.repr (by decide +kernel) (pa_cons (pe_lst (pa_cons (pv 2) (pa_cons (pv 4) pa_nil))) pa_nil)) ?q3) pa_nil))) (pg_tup (by rfl) (pgs_cons (pg_name (i := 5) nd rfl (Or.inr rfl)) (pgs_cons (pg_name (i := 6) nd rfl (Or.inl rfl)) pgs_nil))))
      (pss_cons (ps_set (i := 7) nd rfl (Or.inl rfl) (pe_cmpR (op_inD hu65) (pe_tup (pa_cons (pe_tupRg rfl (by rfl) B.tuple (prg_1 (by rfl) B.range (pe_callB call_len_seq (by rfl) B.len PySem.boot_len (pa_cons (pv 2) pa_nil)))) (pa_cons (pe_un un_neg pe_int) pa_nil))) (pv 5) (by rfl)))
      (pss_cons (ps_if (pt_cmpR (op_neD hu) (pe_dfG DM dg h9 (by rfl) (pa_cons (pv 3) (pa_cons (pv 2) (pa_cons (pv 4) pa_nil)))) (pe_op op_rep (pe_lst (pa_cons (pv 3) pa_nil)) (pe_callTy call_int1 (by rfl) B.int (by decide +kernel) (pa_cons (pv 7) pa_nil))) (nomark _)) (pss_one (ps_ret pe_bl)) pss_nil)
      (pss_cons (ps_if (pt_val (pv 7)) (pss_one (ps_ret (pe_cmpR op_eq (PE.imp (t' := tKept K) (pe_callB (call_reprD dg room) (by rfl) B.repr (by decide +kernel) (pa_cons (pe_lst (pa_cons (pv 2) (pa_cons (pv 4) pa_nil))) pa_nil)) ?q4) (pv 6) (nomark _)))) pss_nil)
      (pss_cons (ps_set (i := 8) nd rfl (Or.inr rfl) (pe_callG (E := E0) GT dg (hr.mono (by decide)) (by rfl) mt kt bt .nil passF (pa_cons (pv 3) (pa_cons (pv 2) (pa_cons (pv 4) pa_nil)))))
      (pss_cons (ps_if (PW.pt (pw_or (pt_cmpR op_ne (pe_callB (call_reprD dg room) (by rfl) B.repr (by decide +kernel) (pa_cons (pe_meth0 (pv 8) N.cl hu1 GU h1 bu .nil pass0) pa_nil)) (pe_callB (call_reprD dg room) (by rfl) B.repr (by decide +kernel) (pa_cons (pv 5) pa_nil)) (nomark _))
          (pw_or1 (pt_cmpR op_ne (pe_callB (call_reprD dg room) (by rfl) B.repr (by decide +kernel) (pa_cons (pe_meth0 (pv 8) N.cl hs1 GS h1 bs .nil pass0) pa_nil)) (pe_callB (call_reprD dg room) (by rfl) B.repr (by decide +kernel) (pa_cons (pe_texts (by rfl) B.tuple (pv 2)) pa_nil)) (nomark _))))) (pss_one (ps_ret pe_bl)) pss_nil)
      (pss_cons (ps_if (pt_cmpR op_ne (pe_callB (call_sg (k := 1) dg h2) (by rfl) B.repr (by decide +kernel) (pa_cons (pe_prop (E := E0) (pv 8) N.cl hp1 GP h2 bp .nil pass0 rfl) pa_nil)) (pe_callB (call_sg (k := 1) dg h2) (by rfl) B.repr (by decide +kernel) (pa_cons (pe_cmpR op_in_seq (pe_un un_neg pe_int) (pe_lc (own := [("_law_order_here", 10), ("_law_sign", 11)]) (g := gTup K 2 (gCons (gName 10) (gCons (gName 11) gNil))) (tt := tYes) (te := tVar 11) (by rfl) nd (pi_list (pv 5))
          (blkOk_by (own := [("_law_order_here", 10), ("_law_sign", 11)]) (N := nRight) (sc := defScope sRight) (by decide +kernel)) (fun _ _ _ _ _ => pg_tup rfl (pgs_cons (pg_name (i := 10) nd rfl (Or.inl rfl)) (pgs_cons (pg_name (i := 11) nd rfl (Or.inl rfl)) pgs_nil))) (fun _ _ _ _ _ => pts_nil) (fun _ _ _ _ _ => pv 11)) (by rfl)) pa_nil)) (nomark _)) (pss_one (ps_ret pe_bl)) pss_nil)
      (pss_cons (ps_expr (pe_bm0 PySem.F.plainAttrs_list PySem.F.slot_list_clear PySem.F.type_list_clear mt_clear (pe_meth0 (pv 8) N.cl hu1 GU h1 bu .nil pass0)))
      (pss_cons (ps_if (pt_cmpR op_ne (pe_callB (call_trepr TO dg (hr.mono (by decide))) (by rfl) B.repr (by decide +kernel) (pa_cons (pv 8) pa_nil)) (pe_op op_add_str (pe_op op_add_str (pe_op op_add_str (pe_op op_add_str pe_str (pe_callB (call_sg (k := 1) dg h2) (by rfl) B.repr (by decide +kernel) (pa_cons (pv 3) pa_nil))) pe_str)
          (pe_callB (call_reprD dg room) (by rfl) B.repr (by decide +kernel) (pa_cons (pe_texts (by rfl) B.tuple (pv 2)) pa_nil))) pe_str) (nomark _)) (pss_one (ps_ret pe_bl)) pss_nil)
      (pss_cons (ps_if (pt_not (pt_val (pe_callB (cr_all rfl) (by rfl) B.all (by decide +kernel) (pa_cons (pe_lc (own := [("_law_turn", 12)]) (g := gName 12) (tt := tYes) (te := tCall (spPlaces C) [] E0 (tCons (tVar 0) (tCons (tVar 8) (tCons (tVar 2) (tCons (tVar 5) tNil))))) (by rfl) nd (pi_range1 (by rfl) B.range (pa_cons pe_int pa_nil))
          (blkOk_by (own := [("_law_turn", 12)]) (N := nRight) (sc := defScope sRight) (by decide +kernel)) (fun _ _ _ _ _ => pg_name (i := 12) nd rfl (Or.inl rfl)) (fun _ _ _ _ _ => pts_nil) (fun _ _ _ _ _ => pe_dfG DL dg h6 (by rfl) (pa_cons (pv 0) (pa_cons (pv 8) (pa_cons (pv 2) (pa_cons (pv 5) pa_nil)))))) pa_nil)))) (pss_one (ps_ret pe_bl)) pss_nil)
      (pss_one (ps_ret (pe_and (pe_dfG DE dg h9 (by rfl) (pa_cons (pv 0) (pa_cons (pv 8) (pa_cons (pv 3) (pa_cons (pv 2) (pa_cons (pv 4) (pa_cons (pv 5) pa_nil))))))) (pe_one (pe_cmpR op_eq (PE.imp (t' := tKept K) (pe_callB (call_reprD dg room) (by rfl) B.repr (by decide +kernel) (pa_cons (pe_lst (pa_cons (pv 2) (pa_cons (pv 4) pa_nil))) pa_nil)) ?q5) (pv 6) (nomark _)))))))))))))))))), ?_⟩
    case q3 =>
      rintro σ H Q ⟨l, p, a, t, z, ss, T, rest, rfl, ha, ht, sok, tok, few, k⟩
      refine ⟨_, rfl, _, rfl, (by show 2 ≤ sizeLine; decide), fun D hD => ?_⟩
      have s1 := sNew (o := .lst [.ref a, .ref t]) (Same.refl H) hD
      obtain ⟨x1, x2, x3, x4⟩ := show_kept sok tok few
      exact ⟨D, keptD ss T, rfl, .lst (SqL.of upd_same) (.cons (.lst (SqL.of (s1 _ _ ha)) (dp_strs ss)) (.cons (ht.same s1).dp .nil)), x1, x2, x3, x4, k _ s1⟩
    case q4 =>
      rintro σ H Q ⟨l, p, a, t, z, ss, T, rest, rfl, ha, ht, sok, tok, few, k⟩
      refine ⟨_, rfl, _, rfl, (by show 2 ≤ sizeLine; decide), fun D hD => ?_⟩
      have s1 := sNew (o := .lst [.ref a, .ref t]) (Same.refl H) hD
      obtain ⟨x1, x2, x3, x4⟩ := show_kept sok tok few
      exact ⟨D, keptD ss T, rfl, .lst (SqL.of upd_same) (.cons (.lst (SqL.of (s1 _ _ ha)) (dp_strs ss)) (.cons (ht.same s1).dp .nil)), x1, x2, x3, x4, k _ s1⟩
    case q5 =>
      rintro σ H Q ⟨l, p, a, t, z, ss, T, rest, rfl, ha, ht, sok, tok, few, k⟩
      refine ⟨_, rfl, _, rfl, (by show 2 ≤ sizeLine; decide), fun D hD => ?_⟩
      have s1 := sNew (o := .lst [.ref a, .ref t]) (Same.refl H) hD
      obtain ⟨x1, x2, x3, x4⟩ := show_kept sok tok few
      exact ⟨D, keptD ss T, rfl, .lst (SqL.of upd_same) (.cons (.lst (SqL.of (s1 _ _ ha)) (dp_strs ss)) (.cons (ht.same s1).dp .nil)), x1, x2, x3, x4, k _ s1⟩
    case q1 =>
      rintro σ H Q ⟨l, rest, rfl, pot, k⟩
      refine ⟨_, rfl, (by show 1 ≤ sizeLine; decide), fun l1 q1 => ⟨(by show 2 ≤ sizeLine; decide), fun l2 q2 => ⟨(by show 3 ≤ sizeLine; decide), fun l3 q3 => ⟨(by show 3 ≤ sizeLine; decide), fun l4 q4 => ⟨(by show 4 ≤ sizeLine; decide), fun l5 q5 => ?_⟩⟩⟩⟩⟩
      have s1 := sNew (o := .lst [.str "s"]) (Same.refl H) q1
      have at1 := upd_same (H := H) (a := l1) (o := .lst [.str "s"])
      generalize upd H l1 (.lst [.str "s"]) = H1 at s1 at1 q2 q3 q4 q5
      have s2 := sNew (o := .lst [.str "s", .str "t"]) (Same.refl H1) q2
      have at2 := upd_same (H := H1) (a := l2) (o := .lst [.str "s", .str "t"])
      generalize upd H1 l2 (.lst [.str "s", .str "t"]) = H2 at s2 at2 q3 q4 q5
      have s3 := sNew (o := .lst [.str "s", .str "s", .str "t"]) (Same.refl H2) q3
      have at3 := upd_same (H := H2) (a := l3) (o := .lst [.str "s", .str "s", .str "t"])
      generalize upd H2 l3 (.lst [.str "s", .str "s", .str "t"]) = H3 at s3 at3 q4 q5
      have s4 := sNew (o := .lst [.str "a", .str "B", .str "zz"]) (Same.refl H3) q4
      have at4 := upd_same (H := H3) (a := l4) (o := .lst [.str "a", .str "B", .str "zz"])
      generalize upd H3 l4 (.lst [.str "a", .str "B", .str "zz"]) = H4 at s4 at4 q5
      have s5 := sNew (o := .lst [.ref l1, .ref l2, .ref l3, .ref l4]) (Same.refl H4) q5
      have at5 := upd_same (H := H4) (a := l5) (o := .lst [.ref l1, .ref l2, .ref l3, .ref l4])
      generalize upd H4 l5 (.lst [.ref l1, .ref l2, .ref l3, .ref l4]) = H5 at s5 at5
      have s15 : Same H H5 := Same.trans s1 (Same.trans s2 (Same.trans s3 (Same.trans s4 s5)))
      refine ⟨l, l5, _, rfl, pot.same s15, at5, pot.ne (s1.free (s2.free (s3.free (s4.free q5)))), (by show 1 ≤ 4; decide), (by show 4 ≤ 1000; decide), fun H6 v sx6 pot6 hv => ?_⟩
      have all := SameX.trans (SameX.of s15) sx6
      rcases List.mem_cons.mp hv with rfl | hv
      · have n := pot.ne q1
        exact k H6 l1 ["s"] all pot6 (sx6 _ _ n (s5 _ _ (s4 _ _ (s3 _ _ (s2 _ _ at1))))) n (by decide) (by decide) (by unfold NameOk; decide +kernel)
      rcases List.mem_cons.mp hv with rfl | hv
      · have n := pot.ne (s1.free q2)
        exact k H6 l2 ["s", "t"] all pot6 (sx6 _ _ n (s5 _ _ (s4 _ _ (s3 _ _ at2)))) n (by decide) (by decide) (by unfold NameOk; decide +kernel)
      rcases List.mem_cons.mp hv with rfl | hv
      · have n := pot.ne (s1.free (s2.free q3))
        exact k H6 l3 ["s", "s", "t"] all pot6 (sx6 _ _ n (s5 _ _ (s4 _ _ at3))) n (by decide) (by decide) (by unfold NameOk; decide +kernel)
      · obtain rfl := List.mem_singleton.mp hv
        have n := pot.ne (s1.free (s2.free (s3.free q4)))
        exact k H6 l4 ["a", "B", "zz"] all pot6 (sx6 _ _ n (s5 _ _ at4)) n (by decide) (by decide) (by unfold NameOk; decide +kernel)
    case q2 =>
      rintro D σ H ⟨l, p, sv, x2, x3, x4, x5, x6, x7, x8, x9, x10, x11, x12, rfl, pot, hp, npl, n1, n3, names, k⟩
      refine ⟨_, rfl, l, _, rfl, pot, by decide, by decide, fun H1 d sx1 pot1 d0 d1 => ⟨_, _, rfl, rfl, _, rfl, by omega, by omega, fun D2 hD2 => ?_⟩⟩
      have nDl : D2 ≠ l := pot1.ne hD2
      have hp1 := sx1 _ _ npl hp
      refine lc_it (walk_range (lo := 0) (n := (1 + d).toNat)) (fun i G => SameX l H1 G ∧ PotAt G l ∧ ∃ ss : List Str, G D2 = some (.lst (ss.map V.str)) ∧ ss.length = i ∧ ∀ z ∈ ss, NameOk z) ⟨SameX.of (sNew (Same.refl H1) hD2), pot1.same (sNew (Same.refl H1) hD2), [], upd_same, rfl, by simp⟩ (fun _ _ _ _ => trivial) ?_ ?_
      · rintro i v _ G hi ⟨sx, pg, ss, hss, sl, ok⟩ ⟨rfl, rfl⟩
        refine ⟨rfl, _, rfl, _, rfl, l, p, _, rfl, pg, sx _ _ npl hp1, npl, by rw [List.length_map]; exact n1, by rw [List.length_map]; omega, fun G2 v sx2 pg2 hv => ?_⟩
        obtain ⟨z, hz, rfl⟩ := List.mem_map.mp hv
        have hss2 := sx2 _ _ nDl hss
        refine ⟨_, hss2, lt_line (by rw [List.length_map]; omega), fun b o nb e => ?_, pg2.put nDl.symm, ss ++ [z], by rw [upd_same, List.map_append]; rfl, by rw [List.length_append, sl]; rfl, fun u hu => ?_⟩
        · rw [upd_ne (ne_of_none e hD2)]
          exact sx2 _ _ nb (sx _ _ nb e)
        · rcases List.mem_append.mp hu with m | m
          · exact ok u m
          · rw [List.mem_singleton.mp m]; exact names z hz
      · rintro G ⟨sx, pg, ss, hss, sl, ok⟩
        refine ⟨_, rfl, (by show 3 ≤ sizeLine; decide), fun tl htl => ?_⟩
        have s1 := sNew (o := .lst [.str "A", .str "table", .str "z"]) (Same.refl G) htl
        have at1 := upd_same (H := G) (a := tl) (o := .lst [.str "A", .str "table", .str "z"])
        have ntl : tl ≠ l := pg.ne htl
        generalize upd G tl (.lst [.str "A", .str "table", .str "z"]) = G1 at s1 at1
        refine ⟨l, tl, _, rfl, pg.same s1, at1, ntl, (by show 1 ≤ 3; decide), (by show 3 ≤ 1000; decide), fun G2 v sx2 pg2 hv => ?_⟩
        obtain ⟨z, rfl, zok, zne⟩ : ∃ z : Str, v = .str z ∧ NameOk z ∧ z ≠ zOther := by
          rcases List.mem_cons.mp hv with rfl | hv
          · exact ⟨_, rfl, by unfold NameOk; decide +kernel, by decide +kernel⟩
          rcases List.mem_cons.mp hv with rfl | hv
          · exact ⟨_, rfl, by unfold NameOk; decide +kernel, by decide +kernel⟩
          · obtain rfl := List.mem_singleton.mp hv
            exact ⟨_, rfl, by unfold NameOk; decide +kernel, by decide +kernel⟩
        refine ⟨(by show 2 ≤ sizeLine; decide), fun t ht => ?_⟩
        have s3 := sNew (o := .tup [.ref D2, .str z]) (Same.refl G2) ht
        refine ⟨t, _, rfl, .inl (.inl upd_same), rfl, _, _, rfl, _, _, rfl, rfl, ?_⟩
        have all := SameX.same (SameX.trans sx1 (SameX.trans (SameX.same sx s1) sx2)) s3
        exact k _ D2 z ss all (pg2.same s3) (s3 _ _ (sx2 _ _ nDl (s1 _ _ hss))) zok zne ⟨by omega, by omega, ok⟩
    obtain ⟨l, rfl, pot, q⟩ := h
    refine ⟨l, _, rfl, pot, fun H1 p sv sx1 pot1 hp npl n1 n3 names => ?_⟩
    refine ⟨l, p, sv, _, _, _, _, _, _, _, _, _, _, _, rfl, pot1, hp, npl, n1, n3, names, fun H2 a z ss sx2 pot2 ha zok zne sok => ?_⟩
    have n4 := sok.2.1
    have nal : a ≠ l := TextsS.off (.inl ha) pot2
    refine ⟨_, rfl, _, rfl, l, a, ss, rfl, pot2, ha, nal, sok, n4, fun H3 t T sx3 pot3 ht0 ht few tok => ?_⟩
    have are := are_of tok
    have ha3 := sx3 _ _ nal ha
    refine ⟨_, rfl, _, rfl, a, t, ss, T, rfl, .inl ha3, n4, ht, are, by omega, fun H4 g LG s4 hg0 gp srt ndp ball => ?_⟩
    refine ⟨l, p, a, t, z, ss, T, _, rfl, s4 _ _ ha3, ht.same s4, sok, tok, few, fun H5 s5 => ?_⟩
    refine ⟨(by show 2 ≤ sizeLine; decide), fun tp htp => ?_⟩
    have s6 := sNew (o := .tup [.ref g, .str (keptD ss T).shown]) (Same.refl H5) htp
    have at6 := upd_same (H := H5) (a := tp) (o := .tup [.ref g, .str (keptD ss T).shown])
    refine ⟨tp, _, rfl, .inl (.inl at6), rfl, _, _, rfl, _, _, rfl, rfl, ?_⟩
    have s36 := Same.trans s4 (Same.trans s5 s6)
    generalize upd H5 tp (.tup [.ref g, .str (keptD ss T).shown]) = H6 at s6 at6 s36
    have ha6 := s36 _ _ ha3
    have ht6 := ht.same s36
    have gp6 := gp.same (Same.trans s5 s6)
    have pot6 := pot3.same s36
    refine ⟨_, rfl, a, _, rfl, .inl (SqL.of ha6), _, rfl, RgOk.of_le (by decide) (by rw [List.length_map]; omega) (by decide) (by omega), fun k0 hk0 => ?_⟩
    rw [List.length_map, rg_idn]
    have s7 := sNew (o := .tup ((idn ss.length).map V.int)) (Same.refl H6) hk0
    have at7 := upd_same (H := H6) (a := k0) (o := .tup ((idn ss.length).map V.int))
    generalize upd H6 k0 (.tup ((idn ss.length).map V.int)) = H7 at s7 at7
    refine ⟨_, rfl, (by show 2 ≤ sizeLine; decide), fun t0 ht0 => ?_⟩
    have s8 := sNew (o := .tup [.ref k0, .int (-1)]) (Same.refl H7) ht0
    have at8 := upd_same (H := H7) (a := t0) (o := .tup [.ref k0, .int (-1)])
    generalize upd H7 t0 (.tup [.ref k0, .int (-1)]) = H8 at s8 at8
    have s68 := Same.trans s7 s8
    have gp8 := gp6.same s68
    refine ⟨_, rfl, turnD (idn ss.length, -1), LG.map turnD, .tup (.inl (.inl at8)) (.cons (dp_ord (.inl (.inl (s8 _ _ at7)))) (.cons (.int _) .nil)), gp8.dp, sh_turn _, sh_turns _, ?_⟩
    rw [any_turn]
    have ha8 := s68 _ _ ha6
    have ht8 := ht6.same s68
    have pot8 := pot6.same s68
    have gone := gone_iff n4 are few ball
    by_cases sg : Single ss.length T
    · rw [decide_eq_false (fun m => gone.mp m sg)]
      refine ⟨_, rfl, _, rfl, _, rfl, z, a, t, ss, T, rfl, zok, .inl ha8, sok, ht8, tok, few, fun _ H9 lm s9 hlm0 hlm => ?_, fun no => absurd sg no⟩
      refine ⟨_, rfl, (by show 1 ≤ sizeLine; decide), fun l1 hl1 => ?_⟩
      have s10 := sNew (o := .lst [.str z]) (Same.refl H9) hl1
      have at10 := upd_same (H := H9) (a := l1) (o := .lst [.str z])
      generalize upd H9 l1 (.lst [.str z]) = H10 at s10 at10
      refine ⟨_, rfl, .inr ⟨_, rfl, l1, _, _, rfl, rfl, at10, by decide, by decide, (by show 1 * 0 ≤ sizeLine; decide), fun p2 hp2 => ?_⟩⟩
      have s11 : Same H9 (upd H10 p2 (.lst [])) := sNew s10 hp2
      refine ⟨strsL [], strsL [], .lst (SqL.of (s11 _ _ hlm)) .nil, .lst (SqL.of upd_same) .nil, sh_strsA (by simp), sh_strsA (by simp), _, rfl, ?_⟩
      rw [eqv_strsL, decide_eq_true rfl]
      refine iteF ⟨_, rfl, _, rfl, iteF ?_⟩
      have s811 := Same.trans s9 s11
      refine ⟨_, rfl, _, rfl, _, rfl, z, a, t, ss, T, rfl, zok, .inl (s811 _ _ ha8), sok, ht8.same s811, tok, few, fun no => absurd sg no, fun G1 m L sB hm0 tab grp => ?_⟩
      obtain rfl := grp_one grp (grp_of n4 are sg srt ndp ball)
      have s8G := Same.trans s811 sB
      have ep : EqP z ss T L := ⟨zok, zne, sok, tok, few, sg, grp⟩
      have eh : EqH C l m a t g z ss T L G1 := ⟨pot8.same s8G, tab, s8G _ _ ha8, ht8.same s8G, gp8.same s8G⟩
      have sxG : SameX l H G1 := SameX.same (SameX.trans sx1 (SameX.trans sx2 sx3)) (Same.trans s36 (Same.trans s68 s8G))
      have areL := grp.are are
      have few24 := grp.few24 n4 are
      have posL := grp.pos
      clear hlm hlm0 at10 s10 s11 s811 s9 s8G sB hm0 hl1 hp2
      obtain ⟨dx, sa, ga, i1, i2, i3⟩ := id eh.tab
      obtain ⟨v1, v2, v3⟩ := show_turns (small_are n4 areL) (by omega)
      have wd : (PyData.list (L.map turnD)).depth ≤ 64 := by
        have := deep_turns L
        show PyData.depthAll (L.map turnD) + 1 ≤ 64
        omega
      have v3' : (PyData.list (L.map turnD)).shown.length ≤ sizeLine := by rw [sizeLine_eq]; omega
      obtain ⟨y1, y2, y3⟩ := show_strsT sok
      have zd : (strsT ss).depth ≤ 64 := by
        have := deep_strs ss
        show PyData.depthAll (ss.map PyData.str) + 1 ≤ 64
        omega
      have y3' : (strsT ss).shown.length ≤ sizeLine := le_line (Nat.le_trans y3 (by decide))
      refine ⟨_, rfl, m, dx, _, rfl, i1, fld_none (by decide) (by decide) (by decide), m, z, ss, L, rfl, eh.tab, fun G2 lt s2 hlt g2 => ⟨lt, _, rfl, g2.dp, v1, v2, wd, v3', ?_⟩⟩
      have eh2 := eh.same s2
      refine ⟨_, rfl, g, _, rfl, eh2.gp.dp, v1, v2, wd, v3', rfl, _, rfl, ?_⟩
      rw [decide_eq_true rfl]
      refine iteF ⟨_, rfl, m, dx, _, rfl, s2 _ _ i1, fld_none (by decide) (by decide) (by decide), m, z, ss, L, rfl, eh2.tab, fun sa2 hsa2 => ⟨sa2, _, rfl, .tup (.inl (.inl hsa2)) (dp_strs ss), y1, y2, zd, y3', ?_⟩⟩
      refine ⟨a, ss, rfl, .inl eh2.sl, fun G3 tu s3 htu => ⟨tu, _, rfl, .tup (.inl (.inl htu)) (dp_strs ss), y1, y2, zd, y3', rfl, _, rfl, ?_⟩⟩
      rw [decide_eq_true rfl]
      have eh3 := eh2.same s3
      have i13 := s3 _ _ (s2 _ _ i1)
      refine iteF ⟨_, rfl, m, dx, _, rfl, i13, m, z, ss, L, rfl, eh3.tab, by omega, fun G4 s4 => ?_⟩
      have eh4 := eh3.same s4
      refine ⟨_, _, (fun G => G = G4), (fun _ => False), rfl, rfl, sg_bl, bool_fits _, fun G e => ?_⟩
      have e' := e.symm
      subst e'
      obtain ⟨gv, hgv, hgt⟩ := id eh4.gp
      have gl : gv.length = L.length := EachIs.length hgt
      refine ⟨_, rfl, _, rfl, g, rfl, ⟨_, SqL.of hgv⟩, fun D3 hD3 => ?_⟩
      refine lc_new (walk_list (K := K) (a := g) (xs := gv)) (fun i => (L.map fun q => V.int q.2)[i]?) (by rw [gl]; exact lt_line (by omega)) hD3 (fun G5 s5 => SqL.of (s5 _ _ hgv)) ?_ ?_
      · rintro i v _ G5 hi s5 ⟨rfl, hv⟩ Kt Kn kt kn
        obtain ⟨q0, hq, T0, u0, rfl, e1, e2⟩ := each_get (TurnsS.same s5 hgt) hv
        refine ⟨T0, _, rfl, .inl (.inl e1), rfl, _, _, rfl, _, _, rfl, rfl, rfl, _, rfl, kt _ _ ?_ (Same.refl _)⟩
        show (L.map fun q => V.int q.2)[i]? = _
        rw [List.getElem?_map, hq] <;> rfl
      intro G5 s5 at5
      rw [gl, kept_signs] at at5
      have eh5 := eh4.same s5
      refine ⟨D3, _, rfl, .inl (SqL.of at5), rfl, flat_signs L, ?_⟩
      refine ⟨_, _, (fun G => G = G5), (fun _ => False), rfl, rfl, sg_bl, bool_fits _, fun G e => ?_⟩
      have e' := e.symm
      subst e'
      refine ⟨rfl, _, rfl, ?_⟩
      rw [signs_any areL]
      rw [show (!decide (V.str (if inV (.int (-1)) (L.map fun q => V.int q.2) = true then ("True" : Str) else "False") = V.str (if (if false = true then !inV (.int (-1)) (L.map fun q => V.int q.2) else inV (.int (-1)) (L.map fun q => V.int q.2)) = true then ("True" : Str) else "False"))) = false by simp]
      have i15 := s5 _ _ (s4 _ _ i13)
      refine iteF ⟨_, rfl, m, dx, _, rfl, i15, fld_none (by decide) (by decide) (by decide), m, z, ss, L, rfl, eh5.tab, fun G6 lt2 s6 hlt2 g6 => ?_⟩
      obtain ⟨ltv, hltv, _⟩ := id g6
      refine ⟨.inl ⟨rfl, _, SqL.of hltv⟩, lt2, _, rfl, rfl, hltv, ?_⟩
      have s57 : Same G5 (upd G6 lt2 (.lst [])) := sPut s6 hlt2
      generalize upd G6 lt2 (.lst []) = G7 at s57
      have eh7 := eh5.same s57
      refine ⟨_, rfl, m, z, ss, L, rfl, eh7.tab, zok, sok, fun G8 s8' => ?_⟩
      have eh8 := eh7.same s8'
      refine ⟨_, rfl, .str z, reprText z, (fun G => G = G8), (fun _ => False), rfl, rfl, sg_str (le_line (Nat.le_trans zok.shown (by decide))), le_line (Nat.le_trans zok.shown (by decide)), fun G e => ?_⟩
      have e' := e.symm
      subst e'
      have zl := zok.shown
      have c6 : ("Table(" : Str).length = 6 := rfl
      have c2 : (", " : Str).length = 2 := rfl
      have c1 : (")" : Str).length = 1 := rfl
      have sl := sizeLine_eq
      refine ⟨_, _, rfl, rfl, by omega, _, _, rfl, rfl, by rw [strLen_append]; omega, a, ss, rfl, .inl eh8.sl, fun G9 tu2 s9 htu2 => ⟨tu2, _, rfl, .tup (.inl (.inl htu2)) (dp_strs ss), y1, y2, zd, y3', ?_⟩⟩
      have y3b : (PyData.tuple (ss.map PyData.str)).shown.length ≤ 5000 := y3
      refine ⟨_, _, rfl, rfl, by rw [strLen_append, strLen_append]; omega, _, _, rfl, rfl, by rw [strLen_append, strLen_append, strLen_append]; omega, rfl, _, rfl, ?_⟩
      have same : tabText z ss = ("Table(" : Str) ++ reprText z ++ (", " : Str) ++ (PyData.tuple (ss.map PyData.str)).shown ++ (")" : Str) := by
        show _ = ("Table(" : Str) ++ reprText z ++ (", " : Str) ++ tupleText (PyData.shownAll (ss.map PyData.str)) ++ (")" : Str)
        rw [shown_strs]
        rfl
      rw [show (!decide (V.str (tabText z ss) = V.str (("Table(" : Str) ++ reprText z ++ (", " : Str) ++ (PyData.tuple (ss.map PyData.str)).shown ++ (")" : Str)))) = false by rw [decide_eq_true (congrArg V.str same)]; rfl]
      have eh9 := eh8.same s9
      have sxH : SameX l H G9 := SameX.same sxG (Same.trans s2 (Same.trans s3 (Same.trans s4 (Same.trans s5 (Same.trans s57 (Same.trans s8' s9))))))
      refine iteF ⟨4, rfl, by decide, by decide, fun D4 hD4 => ?_⟩
      have nDl : D4 ≠ l := eh9.pot.ne hD4
      refine lc_it (walk_range (lo := 0) (n := 4)) (fun j G' => SameX l G9 G' ∧ PotAt G' l ∧ G' D4 = some (.lst ((List.replicate j true).map V.bl))) ⟨SameX.of (sNew (Same.refl G9) hD4), eh9.pot.same (sNew (Same.refl G9) hD4), upd_same⟩ (fun _ _ _ _ => trivial) ?_ ?_
      · rintro j x _ G' hj ⟨sx, pg, hw⟩ ⟨rfl, rfl⟩
        have ehG := eh9.x sx pg
        refine ⟨rfl, _, rfl, _, rfl, _, rfl, _, rfl, l, m, a, g, z, ss, L, rfl, pg, ehG.tab, ehG.sl, ehG.gp, sok.1, n4, areL, fun e => by rw [e] at posL; exact absurd posL (by decide), by omega, fun G2' sx2' pg2' => ?_⟩
        have hw2 := sx2' _ _ nDl hw
        refine ⟨_, hw2, lt_line (by rw [List.length_map, List.length_replicate]; omega), fun b o nb e => ?_, pg2'.put nDl.symm, ?_⟩
        · rw [upd_ne (ne_of_none e hD4)]
          exact sx2' _ _ nb (sx _ _ nb e)
        · rw [upd_same, List.replicate_succ', List.map_append]; rfl
      · rintro G' ⟨sx, pg, hw⟩
        have ehG := eh9.x sx pg
        refine ⟨D4, _, rfl, SqL.of hw, _, rfl, ?_⟩
        refine iteF ⟨_, rfl, _, rfl, _, rfl, _, rfl, _, rfl, _, rfl, l, m, a, t, g, z, ss, T, L, rfl, ep, ehG, fun G2' sx2' pg2' => ⟨_, rfl, iteT ?_⟩⟩
        have ehE := ehG.x sx2' pg2'
        refine ⟨l, p, a, t, z, ss, T, _, rfl, ehE.sl, ehE.tr, sok, tok, few, fun G3' sG => ⟨_, rfl, rfl, ?_⟩⟩
        rw [decide_eq_true rfl]
        exact q G3' (SameX.same (SameX.trans sxH (SameX.trans sx sx2')) sG) (ehE.pot.same sG)
    · rw [decide_eq_true (gone.mpr sg)]
      refine ⟨_, rfl, _, rfl, _, rfl, z, a, t, ss, T, rfl, zok, .inl ha8, sok, ht8, tok, few, fun y => absurd y sg, fun _ H9 lm s9 hlm0 hlm => ?_⟩
      refine ⟨_, rfl, (by show 1 ≤ sizeLine; decide), fun l1 hl1 => ?_⟩
      have s10 := sNew (o := .lst [.str z]) (Same.refl H9) hl1
      have at10 := upd_same (H := H9) (a := l1) (o := .lst [.str z])
      generalize upd H9 l1 (.lst [.str z]) = H10 at s10 at10
      refine ⟨_, rfl, .inr ⟨_, rfl, l1, _, _, rfl, rfl, at10, by decide, by decide, (by show 1 * 1 ≤ sizeLine; decide), fun p2 hp2 => ?_⟩⟩
      have s11 : Same H9 (upd H10 p2 (.lst [.str z])) := sNew s10 hp2
      refine ⟨strsL [z], strsL [z], .lst (SqL.of (s11 _ _ hlm)) (dp_strs [z]), .lst (SqL.of upd_same) (dp_strs [z]), sh_strsA (fun y m => by rw [List.mem_singleton.mp m]; exact zok), sh_strsA (fun y m => by rw [List.mem_singleton.mp m]; exact zok), _, rfl, ?_⟩
      rw [eqv_strsL, decide_eq_true rfl]
      refine iteF ⟨_, rfl, _, rfl, iteT ?_⟩
      have s811 := Same.trans s9 s11
      refine ⟨l, p, a, t, z, ss, T, _, rfl, s811 _ _ ha8, ht8.same s811, sok, tok, few, fun G sG => ⟨_, rfl, rfl, ?_⟩⟩
      rw [decide_eq_true rfl]
      exact q G (SameX.same (SameX.trans sx1 (SameX.trans sx2 sx3)) (Same.trans s36 (Same.trans s68 (Same.trans s811 sG)))) (pot8.same (Same.trans s811 sG))
end
end S16

/-! The end of a law row without lambdas: the end with tables, of no tables -/
namespace L2
open PySem PySem.Spec PyProof.Rows LamX
theorem walk_quiet {l : PySem.W.OpenLaw} {n k : Nat} {q : Program} {loose : List Str} {XP : (Str → Option Value) → Heap → Prop} {YP : World → Heap → Prop} {d : DefRec} {K : Params → PySem.W.Frag} {CX : World → CXT} {sp : World → Sp} {x : Str}
    (most : l.most = some n) (line : n ≤ sizeLine) (plain : d.params.defaults = []) (room : Room k callerA) (keeps : ∀ (w : World) (h : Heap), YP w h → (K w.params).In h)
    (def_ : ∀ (w : World) (mg : Str → Option Value) (fa : Addr) (h : Heap), (K w.params).In h → h.Ns mainGlobals mg → mg d.name = some (.ref fa) →
      ∃ fd : FuncData, (∀ (s : Shared) (u : Value), BindsTo s fd ⟨[u], []⟩ [(x, u)]) ∧ ∀ base : Heap, (K w.params).In base → base.Ns mainGlobals mg → FnG l.prog w (K w.params) mg base (CX w) k fa fd [x] (sp w))
    (asked : ∀ (w : World) (H : Hp) (a : Addr) (ns : List Int), ns.length ≤ n → SqL (K w.params) H a (ns.map V.int) → sp w [.ref a] H (fun v _ => v = .bl true) fun _ _ _ => False)
    (none_ : ∀ (w : World) (G : Hp) (s0 : Shared) (er : Value) (s1 : Shared), CX w [] G s0 (fun _ _ _ => False) er s1 → False) : PySem.W.WalkO q loose XP YP l.row.toRowW d [] (fun f vs => PySem.call f vs) := by
  refine walk_ofT (x := x) most line plain room keeps ?_ none_
  intro w mg fa h _ K1 ns1 _ at_
  obtain ⟨fd, binds, F⟩ := def_ w mg fa h K1 ns1 at_
  exact ⟨fd, [], sp w, by simp, by simp, by simp, binds, fun H a ns few _ list => asked w H a ns few list, fun base KB nsB _ => F base KB nsB⟩
end L2

namespace S16
open PySem L2 GM
open PyProof.Rows
section
variable {P : Program} {w : World} {K : PySem.W.Frag} {mg : Str → Option Value} {base : Heap}
theorem df_of {x : Str} {ps : List Str} {k : Nat} {sp : Sp} {f : Addr} {fd : FuncData} {st : Stmt} (F : Fun K x x st f fd) (hm : mg x = some (.ref f)) (b : Binds K fd ps []) (G : FnOk P w K mg base CX0 k f fd ps sp) : Df P w K mg base x ps k sp := ⟨f, fd, hm, F.kp, b, G⟩
theorem dfG_of {x : Str} {ps : List Str} {k : Nat} {sp : Sp} {f : Addr} {fd : FuncData} {st : Stmt} (F : Fun K x x st f fd) (hm : mg x = some (.ref f)) (b : Binds K fd ps []) (G : FnG P w K mg base CX0 k f fd ps sp) : DfG P w K mg base x ps k sp := ⟨f, fd, hm, F.kp, b, G⟩
theorem raw0 {f : Addr} {fd : FuncData} {ps : List Str} {j k : Nat} {sp : Sp} (G : FnOk P w K mg base CX0 j f fd ps sp) (b : Binds K fd ps []) (h : j ≤ k) : FnR P w K mg base CX0 k f sp := FnR.mono (FnR.imp (FnOk.raw (dvs := []) G b .nil) fun vs H Q E h => by rw [List.append_nil]; exact h) h
theorem kit_tr {C : Addr} {T : String} {b : Bool} (i : PySem.W.isClsIn K C = true) (t : PySem.W.typeIn K (.ref C) = some (.type "type")) (h : PySem.W.subIn K (.type T) (.ref C) = some b) : PySem.W.kitOne K (.type T) (.ref C) = some b := by
  unfold PySem.W.kitOne
  rw [if_neg (by simp)]
  show (if ((PySem.W.clsIn K C).isSome && PySem.W.typeIn K (.ref C) == some (.type "type")) = true then PySem.W.subIn K (.type T) (.ref C) else none) = some b
  rw [if_pos (by rw [t]; show ((PySem.W.clsIn K C).isSome && _) = true; unfold PySem.W.isClsIn at i; rw [i]; simp)]
  exact h
theorem exm_self {C : Addr} (e : PySem.W.subIn K (.ref C) (.type "BaseException") = some true) (i : PySem.W.isClsIn K C = true) (t : PySem.W.typeIn K (.ref C) = some (.type "type")) (h : PySem.W.subIn K (.ref C) (.ref C) = some true) : PySem.W.exmOne K (.ref C) (.ref C) = some true := by
  unfold PySem.W.exmOne
  rw [if_pos (by rw [e]; simp)]
  show (if ((PySem.W.clsIn K C).isSome && PySem.W.typeIn K (.ref C) == some (.type "type")) = true then PySem.W.subIn K (.ref C) (.ref C) else none) = some true
  rw [if_pos (by rw [t]; unfold PySem.W.isClsIn at i; rw [i]; simp)]
  exact h
end
theorem all_mk {l : PySem.W.OpenLaw} {w : World} {K : PySem.W.Frag} {h : Heap} {mg : Str → Option Value} {fa f0 f1 f2 f3 f4 f5 f6 f7 f8 f9 f10 f11 f12 f13 f14 f15 f16 f17 f18 f19 f20 f21 f22 f23 C fm0 fm1 fm2 fm3 fm4 fm5 fm6 fm7 fm8 qmp0 fmp0 fmin D eD cD xD S2 : Addr} (X : K.In h) (G : h.Ns mainGlobals mg) (hfa : mg "law" = some (.ref fa))
    {od0 an0 : Option Addr} {sl0 : Array (Option Value)} {oc0 kV0 dc0 pm0 cd0 ct0 : Value}
    {od1 an1 : Option Addr} {sl1 : Array (Option Value)} {oc1 kV1 dc1 pm1 cd1 ct1 : Value}
    {od2 an2 : Option Addr} {sl2 : Array (Option Value)} {oc2 kV2 dc2 pm2 cd2 ct2 : Value}
    {od3 an3 : Option Addr} {sl3 : Array (Option Value)} {oc3 kV3 dc3 pm3 cd3 ct3 : Value}
    {od4 an4 : Option Addr} {sl4 : Array (Option Value)} {oc4 kV4 dc4 pm4 cd4 ct4 : Value}
    {od5 an5 : Option Addr} {sl5 : Array (Option Value)} {oc5 kV5 dc5 pm5 cd5 ct5 : Value}
    {od6 an6 : Option Addr} {sl6 : Array (Option Value)} {oc6 kV6 dc6 pm6 cd6 ct6 : Value}
    {od7 an7 : Option Addr} {sl7 : Array (Option Value)} {oc7 kV7 dc7 pm7 cd7 ct7 : Value}
    {od8 an8 : Option Addr} {sl8 : Array (Option Value)} {oc8 kV8 dc8 pm8 cd8 ct8 : Value}
    {od9 an9 : Option Addr} {sl9 : Array (Option Value)} {oc9 kV9 dc9 pm9 cd9 ct9 : Value}
    {od10 an10 : Option Addr} {sl10 : Array (Option Value)} {oc10 kV10 dc10 pm10 cd10 ct10 : Value}
    {od11 an11 : Option Addr} {sl11 : Array (Option Value)} {oc11 kV11 dc11 pm11 cd11 ct11 : Value}
    {od12 an12 : Option Addr} {sl12 : Array (Option Value)} {oc12 kV12 dc12 pm12 cd12 ct12 : Value}
    {od13 an13 : Option Addr} {sl13 : Array (Option Value)} {oc13 kV13 dc13 pm13 cd13 ct13 : Value}
    {od14 an14 : Option Addr} {sl14 : Array (Option Value)} {oc14 kV14 dc14 pm14 cd14 ct14 : Value}
    {od15 an15 : Option Addr} {sl15 : Array (Option Value)} {oc15 kV15 dc15 pm15 cd15 ct15 : Value}
    {od16 an16 : Option Addr} {sl16 : Array (Option Value)} {oc16 kV16 dc16 pm16 cd16 ct16 : Value}
    {od17 an17 : Option Addr} {sl17 : Array (Option Value)} {oc17 kV17 dc17 pm17 cd17 ct17 : Value}
    {od18 an18 : Option Addr} {sl18 : Array (Option Value)} {oc18 kV18 dc18 pm18 cd18 ct18 : Value}
    {od19 an19 : Option Addr} {sl19 : Array (Option Value)} {oc19 kV19 dc19 pm19 cd19 ct19 : Value}
    {od20 an20 : Option Addr} {sl20 : Array (Option Value)} {oc20 kV20 dc20 pm20 cd20 ct20 : Value}
    {od21 an21 : Option Addr} {sl21 : Array (Option Value)} {oc21 kV21 dc21 pm21 cd21 ct21 : Value}
    {od22 an22 : Option Addr} {sl22 : Array (Option Value)} {oc22 kV22 dc22 pm22 cd22 ct22 : Value}
    {od23 an23 : Option Addr} {sl23 : Array (Option Value)} {oc23 kV23 dc23 pm23 cd23 ct23 : Value}
    {odm0 anm0 : Option Addr} {slm0 : Array (Option Value)} {ocm0 kVm0 dcm0 pmm0 cdm0 ctm0 : Value}
    {odm1 anm1 : Option Addr} {slm1 : Array (Option Value)} {ocm1 kVm1 dcm1 pmm1 cdm1 ctm1 : Value}
    {odm2 anm2 : Option Addr} {slm2 : Array (Option Value)} {ocm2 kVm2 dcm2 pmm2 cdm2 ctm2 : Value}
    {odm3 anm3 : Option Addr} {slm3 : Array (Option Value)} {ocm3 kVm3 dcm3 pmm3 cdm3 ctm3 : Value}
    {odm4 anm4 : Option Addr} {slm4 : Array (Option Value)} {ocm4 kVm4 dcm4 pmm4 cdm4 ctm4 : Value}
    {odm5 anm5 : Option Addr} {slm5 : Array (Option Value)} {ocm5 kVm5 dcm5 pmm5 cdm5 ctm5 : Value}
    {odm6 anm6 : Option Addr} {slm6 : Array (Option Value)} {ocm6 kVm6 dcm6 pmm6 cdm6 ctm6 : Value}
    {odm7 anm7 : Option Addr} {slm7 : Array (Option Value)} {ocm7 kVm7 dcm7 pmm7 cdm7 ctm7 : Value}
    {odm8 anm8 : Option Addr} {slm8 : Array (Option Value)} {ocm8 kVm8 dcm8 pmm8 cdm8 ctm8 : Value}
    {rmp0 : List Value}
    {odmp0 anmp0 : Option Addr} {slmp0 : Array (Option Value)} {ocmp0 kVmp0 dcmp0 pmmp0 cdmp0 ctmp0 : Value}
    {odmin anmin : Option Addr} {slmin : Array (Option Value)} {ocmin kVmin dcmin pmmin cdmin ctmin : Value}
    {znmD zqD : _} {zND : _} {zbsD : _} {zsnD : _} {zsubD : _} {zabD : _} {zcolD : _} {zddD : _} {z0D z1D z2D z3D z5D : _}
    {odXD anXD : Option Addr} {slXD : Array (Option Value)} {ocXD kVXD dcXD pmXD ctXD : Value}
    {clXD : Option Addr} {csXD : Array (Option Value)}
    {ck1D : Value} {ck2D : Option Addr} {vsXD : Array Value} {ck3D : Array (Option Value)} {flXD : Str} {tfXD : Tok}
    {tkLt : Tok}
    {tkLo : Tok}
    {tkMo : Tok}
    (a0 : PySem.W.nsIn K mainGlobals "is_integer" = some (some (.ref f0)))
    (l0 : K.lookup f0 = some ⟨oc0, od0, .func (PySem.W.fnOf "is_integer" "is_integer" (defArgs sIsInt) (defBody sIsInt) (defScope sIsInt) .none kV0 dc0 pm0 an0 cd0 ct0), sl0⟩)
    (c0 : PySem.W.codeIn K cd0 "is_integer" = true)
    (k0 : PySem.W.keepIn K (.ref f0) = true)
    (a1 : PySem.W.nsIn K mainGlobals "is_count" = some (some (.ref f1)))
    (l1 : K.lookup f1 = some ⟨oc1, od1, .func (PySem.W.fnOf "is_count" "is_count" (defArgs sIsCount) (defBody sIsCount) (defScope sIsCount) .none kV1 dc1 pm1 an1 cd1 ct1), sl1⟩)
    (c1 : PySem.W.codeIn K cd1 "is_count" = true)
    (k1 : PySem.W.keepIn K (.ref f1) = true)
    (a2 : PySem.W.nsIn K mainGlobals "is_name" = some (some (.ref f2)))
    (l2 : K.lookup f2 = some ⟨oc2, od2, .func (PySem.W.fnOf "is_name" "is_name" (defArgs sIsName) (defBody sIsName) (defScope sIsName) .none kV2 dc2 pm2 an2 cd2 ct2), sl2⟩)
    (c2 : PySem.W.codeIn K cd2 "is_name" = true)
    (k2 : PySem.W.keepIn K (.ref f2) = true)
    (a3 : PySem.W.nsIn K mainGlobals "is_list" = some (some (.ref f3)))
    (l3 : K.lookup f3 = some ⟨oc3, od3, .func (PySem.W.fnOf "is_list" "is_list" (defArgs sIsList) (defBody sIsList) (defScope sIsList) .none kV3 dc3 pm3 an3 cd3 ct3), sl3⟩)
    (c3 : PySem.W.codeIn K cd3 "is_list" = true)
    (k3 : PySem.W.keepIn K (.ref f3) = true)
    (a4 : PySem.W.nsIn K mainGlobals "want_name" = some (some (.ref f4)))
    (l4 : K.lookup f4 = some ⟨oc4, od4, .func (PySem.W.fnOf "want_name" "want_name" (defArgs sWantName) (defBody sWantName) (defScope sWantName) .none kV4 dc4 pm4 an4 cd4 ct4), sl4⟩)
    (c4 : PySem.W.codeIn K cd4 "want_name" = true)
    (k4 : PySem.W.keepIn K (.ref f4) = true)
    (a5 : PySem.W.nsIn K mainGlobals "want_slots" = some (some (.ref f5)))
    (l5 : K.lookup f5 = some ⟨oc5, od5, .func (PySem.W.fnOf "want_slots" "want_slots" (defArgs sWantSlots) (defBody sWantSlots) (defScope sWantSlots) .none kV5 dc5 pm5 an5 cd5 ct5), sl5⟩)
    (c5 : PySem.W.codeIn K cd5 "want_slots" = true)
    (k5 : PySem.W.keepIn K (.ref f5) = true)
    (a6 : PySem.W.nsIn K mainGlobals "is_order" = some (some (.ref f6)))
    (l6 : K.lookup f6 = some ⟨oc6, od6, .func (PySem.W.fnOf "is_order" "is_order" (defArgs sIsOrder) (defBody sIsOrder) (defScope sIsOrder) .none kV6 dc6 pm6 an6 cd6 ct6), sl6⟩)
    (c6 : PySem.W.codeIn K cd6 "is_order" = true)
    (k6 : PySem.W.keepIn K (.ref f6) = true)
    (a7 : PySem.W.nsIn K mainGlobals "is_turn" = some (some (.ref f7)))
    (l7 : K.lookup f7 = some ⟨oc7, od7, .func (PySem.W.fnOf "is_turn" "is_turn" (defArgs sIsTurn) (defBody sIsTurn) (defScope sIsTurn) .none kV7 dc7 pm7 an7 cd7 ct7), sl7⟩)
    (c7 : PySem.W.codeIn K cd7 "is_turn" = true)
    (k7 : PySem.W.keepIn K (.ref f7) = true)
    (a8 : PySem.W.nsIn K mainGlobals "moved" = some (some (.ref f8)))
    (l8 : K.lookup f8 = some ⟨oc8, od8, .func (PySem.W.fnOf "moved" "moved" (defArgs sMoved) (defBody sMoved) (defScope sMoved) .none kV8 dc8 pm8 an8 cd8 ct8), sl8⟩)
    (c8 : PySem.W.codeIn K cd8 "moved" = true)
    (k8 : PySem.W.keepIn K (.ref f8) = true)
    (a9 : PySem.W.nsIn K mainGlobals "closed_group" = some (some (.ref f9)))
    (l9 : K.lookup f9 = some ⟨oc9, od9, .func (PySem.W.fnOf "closed_group" "closed_group" (defArgs sClosed) (defBody sClosed) (defScope sClosed) .none kV9 dc9 pm9 an9 cd9 ct9), sl9⟩)
    (c9 : PySem.W.codeIn K cd9 "closed_group" = true)
    (k9 : PySem.W.keepIn K (.ref f9) = true)
    (a10 : PySem.W.nsIn K mainGlobals "_law_pot" = some (some (.ref f10)))
    (l10 : K.lookup f10 = some ⟨oc10, od10, .func (PySem.W.fnOf "_law_pot" "_law_pot" (defArgs sPot) (defBody sPot) (defScope sPot) .none kV10 dc10 pm10 an10 cd10 ct10), sl10⟩)
    (c10 : PySem.W.codeIn K cd10 "_law_pot" = true)
    (k10 : PySem.W.keepIn K (.ref f10) = true)
    (a11 : PySem.W.nsIn K mainGlobals "_law_draw" = some (some (.ref f11)))
    (l11 : K.lookup f11 = some ⟨oc11, od11, .func (PySem.W.fnOf "_law_draw" "_law_draw" (defArgs sDraw) (defBody sDraw) (defScope sDraw) .none kV11 dc11 pm11 an11 cd11 ct11), sl11⟩)
    (c11 : PySem.W.codeIn K cd11 "_law_draw" = true)
    (k11 : PySem.W.keepIn K (.ref f11) = true)
    (a12 : PySem.W.nsIn K mainGlobals "_law_pick" = some (some (.ref f12)))
    (l12 : K.lookup f12 = some ⟨oc12, od12, .func (PySem.W.fnOf "_law_pick" "_law_pick" (defArgs sPick) (defBody sPick) (defScope sPick) .none kV12 dc12 pm12 an12 cd12 ct12), sl12⟩)
    (c12 : PySem.W.codeIn K cd12 "_law_pick" = true)
    (k12 : PySem.W.keepIn K (.ref f12) = true)
    (a13 : PySem.W.nsIn K mainGlobals "_law_order" = some (some (.ref f13)))
    (l13 : K.lookup f13 = some ⟨oc13, od13, .func (PySem.W.fnOf "_law_order" "_law_order" (defArgs sOrder) (defBody sOrder) (defScope sOrder) .none kV13 dc13 pm13 an13 cd13 ct13), sl13⟩)
    (c13 : PySem.W.codeIn K cd13 "_law_order" = true)
    (k13 : PySem.W.keepIn K (.ref f13) = true)
    (a14 : PySem.W.nsIn K mainGlobals "_law_turns" = some (some (.ref f14)))
    (l14 : K.lookup f14 = some ⟨oc14, od14, .func (PySem.W.fnOf "_law_turns" "_law_turns" (defArgs sTurns) (defBody sTurns) (defScope sTurns) .none kV14 dc14 pm14 an14 cd14 ct14), sl14⟩)
    (c14 : PySem.W.codeIn K cd14 "_law_turns" = true)
    (k14 : PySem.W.keepIn K (.ref f14) = true)
    (a15 : PySem.W.nsIn K mainGlobals "_law_table" = some (some (.ref f15)))
    (l15 : K.lookup f15 = some ⟨oc15, od15, .func (PySem.W.fnOf "_law_table" "_law_table" (defArgs sTable) (defBody sTable) (defScope sTable) .none kV15 dc15 pm15 an15 cd15 ct15), sl15⟩)
    (c15 : PySem.W.codeIn K cd15 "_law_table" = true)
    (k15 : PySem.W.keepIn K (.ref f15) = true)
    (a16 : PySem.W.nsIn K mainGlobals "_law_group" = some (some (.ref f16)))
    (l16 : K.lookup f16 = some ⟨oc16, od16, .func (PySem.W.fnOf "_law_group" "_law_group" (defArgs sGroup) (defBody sGroup) (defScope sGroup) .none kV16 dc16 pm16 an16 cd16 ct16), sl16⟩)
    (c16 : PySem.W.codeIn K cd16 "_law_group" = true)
    (k16 : PySem.W.keepIn K (.ref f16) = true)
    (a17 : PySem.W.nsIn K mainGlobals "_law_met" = some (some (.ref f17)))
    (l17 : K.lookup f17 = some ⟨oc17, od17, .func (PySem.W.fnOf "_law_met" "_law_met" (defArgs sMet) (defBody sMet) (defScope sMet) .none kV17 dc17 pm17 an17 cd17 ct17), sl17⟩)
    (c17 : PySem.W.codeIn K cd17 "_law_met" = true)
    (k17 : PySem.W.keepIn K (.ref f17) = true)
    (a18 : PySem.W.nsIn K mainGlobals "_law_mates" = some (some (.ref f18)))
    (l18 : K.lookup f18 = some ⟨oc18, od18, .func (PySem.W.fnOf "_law_mates" "_law_mates" (defArgs sMates) (defBody sMates) (defScope sMates) .none kV18 dc18 pm18 an18 cd18 ct18), sl18⟩)
    (c18 : PySem.W.codeIn K cd18 "_law_mates" = true)
    (k18 : PySem.W.keepIn K (.ref f18) = true)
    (a19 : PySem.W.nsIn K mainGlobals "_law_places_right" = some (some (.ref f19)))
    (l19 : K.lookup f19 = some ⟨oc19, od19, .func (PySem.W.fnOf "_law_places_right" "_law_places_right" (defArgs sPlaces) (defBody sPlaces) (defScope sPlaces) .none kV19 dc19 pm19 an19 cd19 ct19), sl19⟩)
    (c19 : PySem.W.codeIn K cd19 "_law_places_right" = true)
    (k19 : PySem.W.keepIn K (.ref f19) = true)
    (a20 : PySem.W.nsIn K mainGlobals "_law_others" = some (some (.ref f20)))
    (l20 : K.lookup f20 = some ⟨oc20, od20, .func (PySem.W.fnOf "_law_others" "_law_others" (defArgs sOthers) (defBody sOthers) (defScope sOthers) .none kV20 dc20 pm20 an20 cd20 ct20), sl20⟩)
    (c20 : PySem.W.codeIn K cd20 "_law_others" = true)
    (k20 : PySem.W.keepIn K (.ref f20) = true)
    (a21 : PySem.W.nsIn K mainGlobals "_law_equal_right" = some (some (.ref f21)))
    (l21 : K.lookup f21 = some ⟨oc21, od21, .func (PySem.W.fnOf "_law_equal_right" "_law_equal_right" (defArgs sEqual) (defBody sEqual) (defScope sEqual) .none kV21 dc21 pm21 an21 cd21 ct21), sl21⟩)
    (c21 : PySem.W.codeIn K cd21 "_law_equal_right" = true)
    (k21 : PySem.W.keepIn K (.ref f21) = true)
    (a22 : PySem.W.nsIn K mainGlobals "_law_right" = some (some (.ref f22)))
    (l22 : K.lookup f22 = some ⟨oc22, od22, .func (PySem.W.fnOf "_law_right" "_law_right" (defArgs sRight) (defBody sRight) (defScope sRight) .none kV22 dc22 pm22 an22 cd22 ct22), sl22⟩)
    (c22 : PySem.W.codeIn K cd22 "_law_right" = true)
    (k22 : PySem.W.keepIn K (.ref f22) = true)
    (a23 : PySem.W.nsIn K mainGlobals "law" = some (some (.ref f23)))
    (l23 : K.lookup f23 = some ⟨oc23, od23, .func (PySem.W.fnOf "law" "law" (defArgs sLaw) (defBody sLaw) (defScope sLaw) .none kV23 dc23 pm23 an23 cd23 ct23), sl23⟩)
    (c23 : PySem.W.codeIn K cd23 "law" = true)
    (k23 : PySem.W.keepIn K (.ref f23) = true)
    (aC : PySem.W.nsIn K mainGlobals "Table" = some (some (.ref C)))
    (am0 : PySem.W.findIn K (.ref C) "slots" = some (some (.ref fm0)))
    (im0 : PySem.W.isFn K (.ref fm0) = true)
    (lm0 : K.lookup fm0 = some ⟨ocm0, odm0, .func (PySem.W.fnOf "slots" "Table.slots" (defArgs sTSlots) (defBody sTSlots) (defScope sTSlots) .none kVm0 dcm0 pmm0 anm0 cdm0 ctm0), slm0⟩)
    (cm0 : PySem.W.codeIn K cdm0 "Table.slots" = true)
    (km0 : PySem.W.keepIn K (.ref fm0) = true)
    (am1 : PySem.W.findIn K (.ref C) "turns" = some (some (.ref fm1)))
    (im1 : PySem.W.isFn K (.ref fm1) = true)
    (lm1 : K.lookup fm1 = some ⟨ocm1, odm1, .func (PySem.W.fnOf "turns" "Table.turns" (defArgs sTTurns) (defBody sTTurns) (defScope sTTurns) .none kVm1 dcm1 pmm1 anm1 cdm1 ctm1), slm1⟩)
    (cm1 : PySem.W.codeIn K cdm1 "Table.turns" = true)
    (km1 : PySem.W.keepIn K (.ref fm1) = true)
    (am2 : PySem.W.findIn K (.ref C) "is_slot_places" = some (some (.ref fm2)))
    (im2 : PySem.W.isFn K (.ref fm2) = true)
    (lm2 : K.lookup fm2 = some ⟨ocm2, odm2, .func (PySem.W.fnOf "is_slot_places" "Table.is_slot_places" (defArgs sTIsPl) (defBody sTIsPl) (defScope sTIsPl) .none kVm2 dcm2 pmm2 anm2 cdm2 ctm2), slm2⟩)
    (cm2 : PySem.W.codeIn K cdm2 "Table.is_slot_places" = true)
    (km2 : PySem.W.keepIn K (.ref fm2) = true)
    (am3 : PySem.W.findIn K (.ref C) "want_places" = some (some (.ref fm3)))
    (im3 : PySem.W.isFn K (.ref fm3) = true)
    (lm3 : K.lookup fm3 = some ⟨ocm3, odm3, .func (PySem.W.fnOf "want_places" "Table.want_places" (defArgs sTWant) (defBody sTWant) (defScope sTWant) .none kVm3 dcm3 pmm3 anm3 cdm3 ctm3), slm3⟩)
    (cm3 : PySem.W.codeIn K cdm3 "Table.want_places" = true)
    (km3 : PySem.W.keepIn K (.ref fm3) = true)
    (am4 : PySem.W.findIn K (.ref C) "least" = some (some (.ref fm4)))
    (im4 : PySem.W.isFn K (.ref fm4) = true)
    (lm4 : K.lookup fm4 = some ⟨ocm4, odm4, .func (PySem.W.fnOf "least" "Table.least" (defArgs sTLeast) (defBody sTLeast) (defScope sTLeast) .none kVm4 dcm4 pmm4 anm4 cdm4 ctm4), slm4⟩)
    (cm4 : PySem.W.codeIn K cdm4 "Table.least" = true)
    (km4 : PySem.W.keepIn K (.ref fm4) = true)
    (am5 : PySem.W.findIn K (.ref C) "class_of" = some (some (.ref fm5)))
    (im5 : PySem.W.isFn K (.ref fm5) = true)
    (lm5 : K.lookup fm5 = some ⟨ocm5, odm5, .func (PySem.W.fnOf "class_of" "Table.class_of" (defArgs sTClass) (defBody sTClass) (defScope sTClass) .none kVm5 dcm5 pmm5 anm5 cdm5 ctm5), slm5⟩)
    (cm5 : PySem.W.codeIn K cdm5 "Table.class_of" = true)
    (km5 : PySem.W.keepIn K (.ref fm5) = true)
    (am6 : PySem.W.findIn K (.ref C) "renamed" = some (some (.ref fm6)))
    (im6 : PySem.W.isFn K (.ref fm6) = true)
    (lm6 : K.lookup fm6 = some ⟨ocm6, odm6, .func (PySem.W.fnOf "renamed" "Table.renamed" (defArgs sTNamed) (defBody sTNamed) (defScope sTNamed) .none kVm6 dcm6 pmm6 anm6 cdm6 ctm6), slm6⟩)
    (cm6 : PySem.W.codeIn K cdm6 "Table.renamed" = true)
    (km6 : PySem.W.keepIn K (.ref fm6) = true)
    (am7 : PySem.W.findIn K (.ref C) "__eq__" = some (some (.ref fm7)))
    (im7 : PySem.W.isFn K (.ref fm7) = true)
    (lm7 : K.lookup fm7 = some ⟨ocm7, odm7, .func (PySem.W.fnOf "__eq__" "Table.__eq__" (defArgs sTEq) (defBody sTEq) (defScope sTEq) .none kVm7 dcm7 pmm7 anm7 cdm7 ctm7), slm7⟩)
    (cm7 : PySem.W.codeIn K cdm7 "Table.__eq__" = true)
    (km7 : PySem.W.keepIn K (.ref fm7) = true)
    (am8 : PySem.W.findIn K (.ref C) "__repr__" = some (some (.ref fm8)))
    (im8 : PySem.W.isFn K (.ref fm8) = true)
    (lm8 : K.lookup fm8 = some ⟨ocm8, odm8, .func (PySem.W.fnOf "__repr__" "Table.__repr__" (defArgs sTRepr) (defBody sTRepr) (defScope sTRepr) .none kVm8 dcm8 pmm8 anm8 cdm8 ctm8), slm8⟩)
    (cm8 : PySem.W.codeIn K cdm8 "Table.__repr__" = true)
    (km8 : PySem.W.keepIn K (.ref fm8) = true)
    (amp0 : PySem.W.findIn K (.ref C) "changes_sign" = some (some (.ref qmp0)))
    (gmp0 : PySem.W.specialIn K (.ref qmp0) "__get__" = some (some (.builtin "property.__get__")))
    (tmp0 : PySem.W.takesIn K (.ref qmp0) = some true)
    (r_mp0 : PySem.W.recIn K qmp0 "property" = some (.ref fmp0 :: rmp0))
    (lmp0 : K.lookup fmp0 = some ⟨ocmp0, odmp0, .func (PySem.W.fnOf "changes_sign" "Table.changes_sign" (defArgs sTSign) (defBody sTSign) (defScope sTSign) .none kVmp0 dcmp0 pmmp0 anmp0 cdmp0 ctmp0), slmp0⟩)
    (cmp0 : PySem.W.codeIn K cdmp0 "Table.changes_sign" = true)
    (kmp0 : PySem.W.keepIn K (.ref fmp0) = true)
    (amin : PySem.W.findIn K (.ref C) "__init__" = some (some (.ref fmin)))
    (imin : PySem.W.isFn K (.ref fmin) = true)
    (lmin : K.lookup fmin = some ⟨ocmin, odmin, .func (PySem.W.fnOf "__init__" "Table.__init__" (defArgs sTInit) (defBody sTInit) (defScope sTInit) .none kVmin dcmin pmmin anmin cdmin ctmin), slmin⟩)
    (cmin : PySem.W.codeIn K cdmin "Table.__init__" = true)
    (kmin : PySem.W.keepIn K (.ref fmin) = true)
    (pgC : PySem.W.plainGet K C Str.empty = true)
    (hdC : PySem.W.hasDictIn K C = true)
    (poC : PySem.W.plainOver K C = true)
    (saC : PySem.W.findIn K (.ref C) "__setattr__" = some (some (.builtin "object.__setattr__")))
    (mkC : PySem.W.makesIn K C = true)
    (kcC : PySem.W.keepIn K (.ref C) = true)
    (icC : PySem.W.findIn K (.ref C) "__class__" = some (some (.builtin "object.__class__")))
    (moC : PySem.W.mroIn K C (.type "object") = some true)
    (jcC : PySem.W.isClsIn K C = true)
    (tcC : PySem.W.typeIn K (.ref C) = some (.type "type"))
    (nC_name : PySem.W.findIn K (.ref C) "name" = some none)
    (nC_own_slots : PySem.W.findIn K (.ref C) "own_slots" = some none)
    (nC_own_turns : PySem.W.findIn K (.ref C) "own_turns" = some none)
    (suC_tuple : PySem.W.subIn K (.type "tuple") (.ref C) = some false)
    (nneC : PySem.W.findIn K (.ref C) "__ne__" = some (some (.builtin "object.__ne__")))
    (gt : PySem.W.specialIn K (.builtin "object.__class__") "__get__" = some (some (.builtin "getset_descriptor.__get__")))
    (tk : PySem.W.takesIn K (.builtin "object.__class__") = some true)
    (aXD : PySem.W.nsIn K mainGlobals "Vanishing" = some (some (.ref D)))
    (xXD : K.lookup D = some (excClassObj znmD zqD D zND zbsD [.ref S2, .type "ValueError", .type "Exception", .type "BaseException", .type "object"] true zsnD zsubD zabD zcolD zddD z0D z1D z2D z3D z5D "ValueError.__new__"))
    (saXD : PySem.W.findIn K (.ref D) "__setattr__" = some (some (.builtin "object.__setattr__")))
    (eXD : PySem.W.subIn K (.ref D) (.type "BaseException") = some true)
    (tXD : PySem.W.typeIn K (.ref D) = some (.type "type"))
    (kXD : PySem.W.keepIn K (.ref D) = true)
    (jXD : PySem.W.isClsIn K D = true)
    (ssXD : PySem.W.subIn K (.ref D) (.ref D) = some true)
    (svXD : PySem.W.subIn K (.ref D) (.type "ValueError") = some true)
    (adXD : PySem.W.findIn K (.ref D) "__init__" = some (some (.ref eD)))
    (tdXD : PySem.W.typeIn K (.ref eD) = some (.type "function"))
    (ldXD : K.lookup eD = some ⟨ocXD, odXD, .func (fnC "__init__" "Vanishing.__init__" (defArgs sVInit) (defBody sVInit) (defScope sVInit) .none kVXD dcXD pmXD anXD (.ref cD) ctXD xD), slXD⟩)
    (cdXD : PySem.W.codeIn K (.ref cD) "Vanishing.__init__" = true)
    (lcXD : K.lookup xD = some ⟨.type "cell", clXD, .cell (some (.ref D)), csXD⟩)
    (lkXD : K.lookup cD = some ⟨ck1D, ck2D, .fields vsXD, ck3D⟩)
    (hvXD : vsXD[2]? = some (.str flXD tfXD))
    (hfXD : ((l.prog.main.file : Str) == flXD) = true)
    (spXD : PySem.W.ks_superIn K D D "__init__" = some (some (.builtin "ValueError.__init__")))
    (noD_name : PySem.W.findIn K (.ref D) "name" = some none)
    (gaXD : PySem.W.findIn K (.ref D) "__getattribute__" = some (some (.builtin "BaseException.__getattribute__")))
    (ggXD : PySem.W.findIn K (.ref D) "__getattr__" = some none)
    (hdXD : PySem.W.hasDictIn K D = true)
    (htop : (l.prog.main.scope.names.lookup ("super" : Str)).isSome = false)
    (z_super : PySem.W.nsIn K mainGlobals "super" = some none)
    (opn : PySem.W.nsIn K cStatics "thirdparty.any" = some none)
    (kLt : PySem.W.nsIn K mainGlobals "LETTERS" = some (some (.str letters tkLt)))
    (kLo : PySem.W.nsIn K mainGlobals "LONGEST" = some (some (.int 8 tkLo)))
    (kMo : PySem.W.nsIn K mainGlobals "MOST_SLOTS" = some (some (.int 4 tkMo)))
    (z_isinstance : PySem.W.nsIn K mainGlobals "isinstance" = some none)
    (z_int : PySem.W.nsIn K mainGlobals "int" = some none)
    (z_bool : PySem.W.nsIn K mainGlobals "bool" = some none)
    (z_len : PySem.W.nsIn K mainGlobals "len" = some none)
    (z_list : PySem.W.nsIn K mainGlobals "list" = some none)
    (z_max : PySem.W.nsIn K mainGlobals "max" = some none)
    (z_min : PySem.W.nsIn K mainGlobals "min" = some none)
    (z_sum : PySem.W.nsIn K mainGlobals "sum" = some none)
    (z_zip : PySem.W.nsIn K mainGlobals "zip" = some none)
    (z_range : PySem.W.nsIn K mainGlobals "range" = some none)
    (z_tuple : PySem.W.nsIn K mainGlobals "tuple" = some none)
    (z_enumerate : PySem.W.nsIn K mainGlobals "enumerate" = some none)
    (z_any : PySem.W.nsIn K mainGlobals "any" = some none)
    (z_all : PySem.W.nsIn K mainGlobals "all" = some none)
    (z_abs : PySem.W.nsIn K mainGlobals "abs" = some none)
    (z_divmod : PySem.W.nsIn K mainGlobals "divmod" = some none)
    (z_str : PySem.W.nsIn K mainGlobals "str" = some none)
    (z_repr : PySem.W.nsIn K mainGlobals "repr" = some none)
    (z_set : PySem.W.nsIn K mainGlobals "set" = some none)
    (z_sorted : PySem.W.nsIn K mainGlobals "sorted" = some none)
    : ∃ fd : FuncData, (∀ (s : Shared) (v : Value), BindsTo s fd ⟨[v], []⟩ [("_law_script", v)]) ∧ ∀ base : Heap, K.In base → base.Ns mainGlobals mg → FnG l.prog w K mg base CX0 13 fa fd ["_law_script"] (spLaw K) := by
  have e := hfa.symm.trans (PySem.W.mg_of X G a23)
  cases e
  have T : Bn mg := ⟨PySem.W.mg_none_of X G z_isinstance, PySem.W.mg_none_of X G z_int, PySem.W.mg_none_of X G z_bool, PySem.W.mg_none_of X G z_len, PySem.W.mg_none_of X G z_list, PySem.W.mg_none_of X G z_max, PySem.W.mg_none_of X G z_min, PySem.W.mg_none_of X G z_sum, PySem.W.mg_none_of X G z_zip, PySem.W.mg_none_of X G z_range, PySem.W.mg_none_of X G z_tuple, PySem.W.mg_none_of X G z_enumerate, PySem.W.mg_none_of X G z_any, PySem.W.mg_none_of X G z_all, PySem.W.mg_none_of X G z_abs, PySem.W.mg_none_of X G z_divmod, PySem.W.mg_none_of X G z_str, PySem.W.mg_none_of X G z_repr, PySem.W.mg_none_of X G z_set, PySem.W.mg_none_of X G z_sorted⟩
  have F0 := fun_mk (x := "is_integer") (qual := "is_integer") (st := sIsInt) l0 c0 k0
  have b0 := F0.binds (ps := ["value"]) fun _ _ _ _ _ _ us hl => match us, hl with | [_], _ => rfl
  have g0 := PySem.W.mg_of X G a0
  have F1 := fun_mk (x := "is_count") (qual := "is_count") (st := sIsCount) l1 c1 k1
  have b1 := F1.binds (ps := ["value"]) fun _ _ _ _ _ _ us hl => match us, hl with | [_], _ => rfl
  have g1 := PySem.W.mg_of X G a1
  have F2 := fun_mk (x := "is_name") (qual := "is_name") (st := sIsName) l2 c2 k2
  have b2 := F2.binds (ps := ["value"]) fun _ _ _ _ _ _ us hl => match us, hl with | [_], _ => rfl
  have g2 := PySem.W.mg_of X G a2
  have F3 := fun_mk (x := "is_list") (qual := "is_list") (st := sIsList) l3 c3 k3
  have b3 := F3.binds (ps := ["value"]) fun _ _ _ _ _ _ us hl => match us, hl with | [_], _ => rfl
  have g3 := PySem.W.mg_of X G a3
  have F4 := fun_mk (x := "want_name") (qual := "want_name") (st := sWantName) l4 c4 k4
  have b4 := F4.binds (ps := ["value"]) fun _ _ _ _ _ _ us hl => match us, hl with | [_], _ => rfl
  have g4 := PySem.W.mg_of X G a4
  have F5 := fun_mk (x := "want_slots") (qual := "want_slots") (st := sWantSlots) l5 c5 k5
  have b5 := F5.binds (ps := ["slots"]) fun _ _ _ _ _ _ us hl => match us, hl with | [_], _ => rfl
  have g5 := PySem.W.mg_of X G a5
  have F6 := fun_mk (x := "is_order") (qual := "is_order") (st := sIsOrder) l6 c6 k6
  have b6 := F6.binds (ps := ["value", "slots"]) fun _ _ _ _ _ _ us hl => match us, hl with | [_, _], _ => rfl
  have g6 := PySem.W.mg_of X G a6
  have F7 := fun_mk (x := "is_turn") (qual := "is_turn") (st := sIsTurn) l7 c7 k7
  have b7 := F7.binds (ps := ["value", "slots"]) fun _ _ _ _ _ _ us hl => match us, hl with | [_, _], _ => rfl
  have g7 := PySem.W.mg_of X G a7
  have F8 := fun_mk (x := "moved") (qual := "moved") (st := sMoved) l8 c8 k8
  have b8 := F8.binds (ps := ["places", "order"]) fun _ _ _ _ _ _ us hl => match us, hl with | [_, _], _ => rfl
  have g8 := PySem.W.mg_of X G a8
  have F9 := fun_mk (x := "closed_group") (qual := "closed_group") (st := sClosed) l9 c9 k9
  have b9 := F9.binds (ps := ["name", "many", "turns"]) fun _ _ _ _ _ _ us hl => match us, hl with | [_, _, _], _ => rfl
  have g9 := PySem.W.mg_of X G a9
  have F10 := fun_mk (x := "_law_pot") (qual := "_law_pot") (st := sPot) l10 c10 k10
  have b10 := F10.binds (ps := ["_law_script", "_law_k"]) fun _ _ _ _ _ _ us hl => match us, hl with | [_, _], _ => rfl
  have g10 := PySem.W.mg_of X G a10
  have F11 := fun_mk (x := "_law_draw") (qual := "_law_draw") (st := sDraw) l11 c11 k11
  have b11 := F11.binds (ps := ["_law_pot_here", "_law_many"]) fun _ _ _ _ _ _ us hl => match us, hl with | [_, _], _ => rfl
  have g11 := PySem.W.mg_of X G a11
  have F12 := fun_mk (x := "_law_pick") (qual := "_law_pick") (st := sPick) l12 c12 k12
  have b12 := F12.binds (ps := ["_law_pot_here", "_law_some"]) fun _ _ _ _ _ _ us hl => match us, hl with | [_, _], _ => rfl
  have g12 := PySem.W.mg_of X G a12
  have F13 := fun_mk (x := "_law_order") (qual := "_law_order") (st := sOrder) l13 c13 k13
  have b13 := F13.binds (ps := ["_law_pot_here", "_law_slots"]) fun _ _ _ _ _ _ us hl => match us, hl with | [_, _], _ => rfl
  have g13 := PySem.W.mg_of X G a13
  have F14 := fun_mk (x := "_law_turns") (qual := "_law_turns") (st := sTurns) l14 c14 k14
  have b14 := F14.binds (ps := ["_law_pot_here", "_law_slots"]) fun _ _ _ _ _ _ us hl => match us, hl with | [_, _], _ => rfl
  have g14 := PySem.W.mg_of X G a14
  have F15 := fun_mk (x := "_law_table") (qual := "_law_table") (st := sTable) l15 c15 k15
  have b15 := F15.binds (ps := ["_law_title", "_law_slots", "_law_turns_here"]) fun _ _ _ _ _ _ us hl => match us, hl with | [_, _, _], _ => rfl
  have g15 := PySem.W.mg_of X G a15
  have F16 := fun_mk (x := "_law_group") (qual := "_law_group") (st := sGroup) l16 c16 k16
  have b16 := F16.binds (ps := ["_law_slots", "_law_turns_here"]) fun _ _ _ _ _ _ us hl => match us, hl with | [_, _], _ => rfl
  have g16 := PySem.W.mg_of X G a16
  have F17 := fun_mk (x := "_law_met") (qual := "_law_met") (st := sMet) l17 c17 k17
  have b17 := F17.binds (ps := ["_law_title", "_law_slots", "_law_turns_here"]) fun _ _ _ _ _ _ us hl => match us, hl with | [_, _, _], _ => rfl
  have g17 := PySem.W.mg_of X G a17
  have F18 := fun_mk (x := "_law_mates") (qual := "_law_mates") (st := sMates) l18 c18 k18
  have b18 := F18.binds (ps := ["_law_places", "_law_group_here"]) fun _ _ _ _ _ _ us hl => match us, hl with | [_, _], _ => rfl
  have g18 := PySem.W.mg_of X G a18
  have F19 := fun_mk (x := "_law_places_right") (qual := "_law_places_right") (st := sPlaces) l19 c19 k19
  have b19 := F19.binds (ps := ["_law_pot_here", "_law_made", "_law_slots", "_law_group_here"]) fun _ _ _ _ _ _ us hl => match us, hl with | [_, _, _, _], _ => rfl
  have g19 := PySem.W.mg_of X G a19
  have F20 := fun_mk (x := "_law_others") (qual := "_law_others") (st := sOthers) l20 c20 k20
  have b20 := F20.binds (ps := ["_law_pot_here", "_law_slots", "_law_group_here"]) fun _ _ _ _ _ _ us hl => match us, hl with | [_, _, _], _ => rfl
  have g20 := PySem.W.mg_of X G a20
  have F21 := fun_mk (x := "_law_equal_right") (qual := "_law_equal_right") (st := sEqual) l21 c21 k21
  have b21 := F21.binds (ps := ["_law_pot_here", "_law_made", "_law_title", "_law_slots", "_law_turns_here", "_law_group_here"]) fun _ _ _ _ _ _ us hl => match us, hl with | [_, _, _, _, _, _], _ => rfl
  have g21 := PySem.W.mg_of X G a21
  have F22 := fun_mk (x := "_law_right") (qual := "_law_right") (st := sRight) l22 c22 k22
  have b22 := F22.binds (ps := ["_law_pot_here"]) fun _ _ _ _ _ _ us hl => match us, hl with | [_], _ => rfl
  have g22 := PySem.W.mg_of X G a22
  have F23 := fun_mk (x := "law") (qual := "law") (st := sLaw) l23 c23 k23
  have b23 := F23.binds (ps := ["_law_script"]) fun _ _ _ _ _ _ us hl => match us, hl with | [_], _ => rfl
  have g23 := PySem.W.mg_of X G a23
  have Fm0 := fun_mk (x := "slots") (qual := "Table.slots") (st := sTSlots) lm0 cm0 km0
  have bm0 := Fm0.binds (ps := ["self"]) fun _ _ _ _ _ _ us hl => match us, hl with | [_], _ => rfl
  have Fm1 := fun_mk (x := "turns") (qual := "Table.turns") (st := sTTurns) lm1 cm1 km1
  have bm1 := Fm1.binds (ps := ["self"]) fun _ _ _ _ _ _ us hl => match us, hl with | [_], _ => rfl
  have Fm2 := fun_mk (x := "is_slot_places") (qual := "Table.is_slot_places") (st := sTIsPl) lm2 cm2 km2
  have bm2 := Fm2.binds (ps := ["self", "value"]) fun _ _ _ _ _ _ us hl => match us, hl with | [_, _], _ => rfl
  have Fm3 := fun_mk (x := "want_places") (qual := "Table.want_places") (st := sTWant) lm3 cm3 km3
  have bm3 := Fm3.binds (ps := ["self", "places"]) fun _ _ _ _ _ _ us hl => match us, hl with | [_, _], _ => rfl
  have Fm4 := fun_mk (x := "least") (qual := "Table.least") (st := sTLeast) lm4 cm4 km4
  have bm4 := Fm4.binds (ps := ["self", "places"]) fun _ _ _ _ _ _ us hl => match us, hl with | [_, _], _ => rfl
  have Fm5 := fun_mk (x := "class_of") (qual := "Table.class_of") (st := sTClass) lm5 cm5 km5
  have bm5 := Fm5.binds (ps := ["self", "places"]) fun _ _ _ _ _ _ us hl => match us, hl with | [_, _], _ => rfl
  have Fm6 := fun_mk (x := "renamed") (qual := "Table.renamed") (st := sTNamed) lm6 cm6 km6
  have bm6 := Fm6.binds (ps := ["self", "name"]) fun _ _ _ _ _ _ us hl => match us, hl with | [_, _], _ => rfl
  have Fm7 := fun_mk (x := "__eq__") (qual := "Table.__eq__") (st := sTEq) lm7 cm7 km7
  have bm7 := Fm7.binds (ps := ["self", "other"]) fun _ _ _ _ _ _ us hl => match us, hl with | [_, _], _ => rfl
  have Fm8 := fun_mk (x := "__repr__") (qual := "Table.__repr__") (st := sTRepr) lm8 cm8 km8
  have bm8 := Fm8.binds (ps := ["self"]) fun _ _ _ _ _ _ us hl => match us, hl with | [_], _ => rfl
  have Fmp0 := fun_mk (x := "changes_sign") (qual := "Table.changes_sign") (st := sTSign) lmp0 cmp0 kmp0
  have bmp0 := Fmp0.binds (ps := ["self"]) fun _ _ _ _ _ _ us hl => match us, hl with | [_], _ => rfl
  have Fmin := fun_mk (x := "__init__") (qual := "Table.__init__") (st := sTInit) lmin cmin kmin
  refine ⟨PySem.W.fnOf "law" "law" (defArgs sLaw) (defBody sLaw) (defScope sLaw) .none kV23 dc23 pm23 an23 cd23 ct23, fun s v => .of_eq rfl, fun base _ _ => ?_⟩
  have CN : Cn mg := ⟨⟨_, PySem.W.mg_of X G kLt⟩, ⟨_, PySem.W.mg_of X G kLo⟩, ⟨_, PySem.W.mg_of X G kMo⟩⟩
  have N : Tc K mg C := ⟨⟨pgC, hdC, poC, saC⟩, nC_name, nC_own_slots, nC_own_turns, PySem.W.mg_of X G aC, icC, gt, tk, moC⟩
  have D0 := df_of (P := l.prog) (w := w) (base := base) F0 g0 b0 (ok_isInt F0 T)
  have D1 := df_of (P := l.prog) (w := w) (base := base) F1 g1 b1 (ok_isCount F1 D0)
  have D2 := df_of (P := l.prog) (w := w) (base := base) F2 g2 b2 (ok_isName F2 T CN)
  have D3 := df_of (P := l.prog) (w := w) (base := base) F3 g3 b3 (ok_isList F3 T)
  have D4 := df_of (P := l.prog) (w := w) (base := base) F4 g4 b4 (ok_wantName F4 D2)
  have D5 := df_of (P := l.prog) (w := w) (base := base) F5 g5 b5 (ok_wantSlots F5 T CN D3 D2)
  have D6 := df_of (P := l.prog) (w := w) (base := base) F6 g6 b6 (ok_isOrder F6 T D0)
  have D7 := df_of (P := l.prog) (w := w) (base := base) F7 g7 b7 (ok_isTurn F7 T D0 D6)
  have D8 := df_of (P := l.prog) (w := w) (base := base) F8 g8 b8 (ok_moved F8 T)
  have OE : OexC K D := ⟨⟨_, _, _, _, _, _, _, _, _, _, _, _, _, _, _, xXD, by show PySem.HandSPX.refsVE veTail = true; decide +kernel⟩, saXD, eXD, tXD, kXD⟩
  have SI : SupK "ValueError" "ValueError.__new__" "ValueError.__init__" veTail l.prog K mg D eD (fnC "__init__" "Vanishing.__init__" (defArgs sVInit) (defBody sVInit) (defScope sVInit) .none kVXD dcXD pmXD anXD (.ref cD) ctXD xD) vnArg := ⟨⟨_, _, _, ldXD⟩, by rfl, by show (defScope sVInit).names.lookup vnArg.arg = some NameKind.local; decide +kernel, ⟨cD, _, _, vsXD, _, flXD, tfXD, rfl, lkXD, hvXD, hfXD⟩, htop, PySem.W.mg_none_of X G z_super, ⟨_, _, _, _, _, _, _, _, _, _, _, _, _, _, _, xXD, by show decide (veTail = veTail) = true; decide +kernel⟩, spXD, svXD, ssXD, opn⟩
  have Z : Vn l.prog w K mg base D := ⟨OE, PySem.W.mg_of X G aXD, ⟨eD, _, adXD, tdXD, .all (fun us hl => match us, hl with | [_, _], _ => rfl), ok_vn cdXD lcXD SI OE noD_name⟩, exm_self eXD jXD tXD ssXD, ⟨gaXD, ggXD, eXD, hdXD⟩, noD_name⟩
  have TD : TDs l.prog w K mg base D := ⟨D4, D5, D7, D8, ⟨f9, _, g9, F9.kp, b9, ok_closed F9 T Z D8⟩⟩
  have TM : TMk l.prog w K mg base C D := ⟨N, fmin, ⟨mkC, amin, imin, kcC⟩, ok_tinit Fmin T N TD⟩
  have MS : Mt l.prog w K mg base C "slots" ["self"] 1 (spTSlots C) := ⟨fm0, _, ⟨am0, im0, km0⟩, bm0, ok_tslots Fm0 N⟩
  have MT : Mt l.prog w K mg base C "turns" ["self"] 1 (spTTurns C) := ⟨fm1, _, ⟨am1, im1, km1⟩, bm1, ok_tturns Fm1 T N⟩
  have MI : Mt l.prog w K mg base C "is_slot_places" ["self", "value"] 3 (spTIsPl K C) := ⟨fm2, _, ⟨am2, im2, km2⟩, bm2, ok_tispl Fm2 T N D1⟩
  have MW : Mt l.prog w K mg base C "want_places" ["self", "places"] 4 (spTWant K C) := ⟨fm3, _, ⟨am3, im3, km3⟩, bm3, ok_twant Fm3 N MI⟩
  have ML : Mt l.prog w K mg base C "least" ["self", "places"] 5 (spTLeast K C) := ⟨fm4, _, ⟨am4, im4, km4⟩, bm4, ok_tleast Fm4 T N D8 MW⟩
  have MC : Mt l.prog w K mg base C "class_of" ["self", "places"] 5 (spTClass K C) := ⟨fm5, _, ⟨am5, im5, km5⟩, bm5, ok_tclass Fm5 T N D8 MW⟩
  have MN : ∃ f fd, Meth K C "renamed" f ∧ Binds K fd ["self", "name"] [] ∧ FnG l.prog w K mg base CX0 8 f fd ["self", "name"] (spTNamed C) := ⟨fm6, _, ⟨am6, im6, km6⟩, bm6, ok_tnamed Fm6 N TM⟩
  have TO : TOp l.prog w K mg base C := ⟨N, ⟨fm7, am7, im7, raw0 (ok_teq Fm7 T N (kit_tr jcC tcC suC_tuple)) bm7 (by decide)⟩, nneC, suC_tuple, ⟨fm8, _, am8, im8, bm8, ok_trepr Fm8 N⟩⟩
  have MG : ∃ q g fd, PropOf K C "changes_sign" q g ∧ Binds K fd ["self"] [] ∧ FnOk l.prog w K mg base CX0 1 g fd ["self"] (spTSign C) := ⟨qmp0, fmp0, _, ⟨amp0, gmp0, tmp0, ⟨_, r_mp0⟩⟩, bmp0, ok_tsign Fmp0 T N⟩
  have D10 := df_of (P := l.prog) (w := w) (base := base) F10 g10 b10 (ok_pot F10 T)
  have D11 := df_of (P := l.prog) (w := w) (base := base) F11 g11 b11 (ok_draw F11 T)
  have D12 := df_of (P := l.prog) (w := w) (base := base) F12 g12 b12 (ok_pick F12 T D11)
  have D13 := df_of (P := l.prog) (w := w) (base := base) F13 g13 b13 (ok_order F13 T D11)
  have D14 := df_of (P := l.prog) (w := w) (base := base) F14 g14 b14 (ok_turns F14 T D11 D12 D13)
  have LT : LTab l.prog w K mg base C D := ⟨f15, _, g15, F15.kp, b15, ok_ltable F15 T TM⟩
  have D16 := df_of (P := l.prog) (w := w) (base := base) F16 g16 b16 (ok_group F16 T)
  have D17 := dfG_of (P := l.prog) (w := w) (base := base) F17 g17 b17 (ok_met F17 Z LT)
  have D18 := df_of (P := l.prog) (w := w) (base := base) F18 g18 b18 (ok_mates F18 T)
  have D19 := dfG_of (P := l.prog) (w := w) (base := base) F19 g19 b19 (ok_places F19 T N D12 D18 ML MC MI)
  have D20 := df_of (P := l.prog) (w := w) (base := base) F20 g20 b20 (ok_others F20 T D12 D16)
  have D21 := dfG_of (P := l.prog) (w := w) (base := base) F21 g21 b21 (ok_equal F21 T TO TM LT D20 D16 MN MT MS)
  have D22 := dfG_of (P := l.prog) (w := w) (base := base) F22 g22 b22 (ok_right F22 T TO LT D11 D12 D14 D16 D17 D19 D21 MT MS MG)
  exact ok_law F23 T D10 D22
theorem walk {l : PySem.W.OpenLaw} {q : Program} {loose : List Str} {XP : (Str → Option Value) → Heap → Prop} {YP : World → Heap → Prop} {d : DefRec} {K : Params → PySem.W.Frag} (most : l.most = some 63) (plain : d.params.defaults = [])
    (keeps : ∀ (w : World) (h : Heap), YP w h → (K w.params).In h)
    (def_ : ∀ (w : World) (mg : Str → Option Value) (fa : Addr) (h : Heap), (K w.params).In h → h.Ns mainGlobals mg → mg d.name = some (.ref fa) →
      ∃ fd : FuncData, (∀ (s : Shared) (u : Value), BindsTo s fd ⟨[u], []⟩ [("_law_script", u)]) ∧ ∀ base : Heap, (K w.params).In base → base.Ns mainGlobals mg → FnG l.prog w (K w.params) mg base CX0 13 fa fd ["_law_script"] (spLaw (K w.params))) :
    PySem.W.WalkO q loose XP YP l.row.toRowW d [] (fun f vs => PySem.call f vs) :=
  L2.walk_quiet (n := 63) (k := 13) (x := "_law_script") (CX := fun _ => CX0) (sp := fun w => spLaw (K w.params)) most (by decide) plain ⟨rfl, by decide, by decide⟩ keeps def_ (fun _ _ a ns few list => ⟨a, ns, rfl, list, few, fun _ => rfl⟩) fun _ _ _ _ _ z => z
end S16

open PySem PySem.W PyProof.Rows in
set_option maxRecDepth 100000 in
set_option maxHeartbeats 0 in
theorem PySem.Challenge.cw_slotsums_k16_whole_groups_of_turns_holds : PySem.Challenge.rw_slotsums_k16_whole_groups_of_turns.Holds := by
  w_on; o_law; k_head; (case hw => w_witness2)
  k_fill
  refine S16.walk (l := PySem.Challenge.rw_slotsums_k16_whole_groups_of_turns) rfl rfl (fun w h Y => PySem.W.kIn_of Y) ?F
  case F =>
    intro w mg fa h KX G hmg
    refine' S16.all_mk KX G hmg ?a0 ?l0 ?c0 ?k0 ?a1 ?l1 ?c1 ?k1 ?a2 ?l2 ?c2 ?k2 ?a3 ?l3 ?c3 ?k3 ?a4 ?l4 ?c4 ?k4 ?a5 ?l5 ?c5 ?k5 ?a6 ?l6 ?c6 ?k6 ?a7 ?l7 ?c7 ?k7 ?a8 ?l8 ?c8 ?k8 ?a9 ?l9 ?c9 ?k9 ?a10 ?l10 ?c10 ?k10 ?a11 ?l11 ?c11 ?k11 ?a12 ?l12 ?c12 ?k12 ?a13 ?l13 ?c13 ?k13 ?a14 ?l14 ?c14 ?k14 ?a15 ?l15 ?c15 ?k15 ?a16 ?l16 ?c16 ?k16 ?a17 ?l17 ?c17 ?k17 ?a18 ?l18 ?c18 ?k18 ?a19 ?l19 ?c19 ?k19 ?a20 ?l20 ?c20 ?k20 ?a21 ?l21 ?c21 ?k21 ?a22 ?l22 ?c22 ?k22 ?a23 ?l23 ?c23 ?k23 ?aC ?am0 ?im0 ?lm0 ?cm0 ?km0 ?am1 ?im1 ?lm1 ?cm1 ?km1 ?am2 ?im2 ?lm2 ?cm2 ?km2 ?am3 ?im3 ?lm3 ?cm3 ?km3 ?am4 ?im4 ?lm4 ?cm4 ?km4 ?am5 ?im5 ?lm5 ?cm5 ?km5 ?am6 ?im6 ?lm6 ?cm6 ?km6 ?am7 ?im7 ?lm7 ?cm7 ?km7 ?am8 ?im8 ?lm8 ?cm8 ?km8 ?amp0 ?gmp0 ?tmp0 ?r_mp0 ?lmp0 ?cmp0 ?kmp0 ?amin ?imin ?lmin ?cmin ?kmin ?pgC ?hdC ?poC ?saC ?mkC ?kcC ?icC ?moC ?jcC ?tcC ?nC_name ?nC_own_slots ?nC_own_turns ?suC_tuple ?nneC ?gt ?tk ?aXD ?xXD ?saXD ?eXD ?tXD ?kXD ?jXD ?ssXD ?svXD ?adXD ?tdXD ?ldXD ?cdXD ?lcXD ?lkXD ?hvXD ?hfXD ?spXD ?noD_name ?gaXD ?ggXD ?hdXD ?htop ?z_super ?opn ?kLt ?kLo ?kMo ?z_isinstance ?z_int ?z_bool ?z_len ?z_list ?z_max ?z_min ?z_sum ?z_zip ?z_range ?z_tuple ?z_enumerate ?z_any ?z_all ?z_abs ?z_divmod ?z_str ?z_repr ?z_set ?z_sorted
    (case a0 => k_is)
    (case l0 => k_is)
    (case c0 => k_is)
    (case k0 => k_is)
    (case a1 => k_is)
    (case l1 => k_is)
    (case c1 => k_is)
    (case k1 => k_is)
    (case a2 => k_is)
    (case l2 => k_is)
    (case c2 => k_is)
    (case k2 => k_is)
    (case a3 => k_is)
    (case l3 => k_is)
    (case c3 => k_is)
    (case k3 => k_is)
    (case a4 => k_is)
    (case l4 => k_is)
    (case c4 => k_is)
    (case k4 => k_is)
    (case a5 => k_is)
    (case l5 => k_is)
    (case c5 => k_is)
    (case k5 => k_is)
    (case a6 => k_is)
    (case l6 => k_is)
    (case c6 => k_is)
    (case k6 => k_is)
    (case a7 => k_is)
    (case l7 => k_is)
    (case c7 => k_is)
    (case k7 => k_is)
    (case a8 => k_is)
    (case l8 => k_is)
    (case c8 => k_is)
    (case k8 => k_is)
    (case a9 => k_is)
    (case l9 => k_is)
    (case c9 => k_is)
    (case k9 => k_is)
    (case a10 => k_is)
    (case l10 => k_is)
    (case c10 => k_is)
    (case k10 => k_is)
    (case a11 => k_is)
    (case l11 => k_is)
    (case c11 => k_is)
    (case k11 => k_is)
    (case a12 => k_is)
    (case l12 => k_is)
    (case c12 => k_is)
    (case k12 => k_is)
    (case a13 => k_is)
    (case l13 => k_is)
    (case c13 => k_is)
    (case k13 => k_is)
    (case a14 => k_is)
    (case l14 => k_is)
    (case c14 => k_is)
    (case k14 => k_is)
    (case a15 => k_is)
    (case l15 => k_is)
    (case c15 => k_is)
    (case k15 => k_is)
    (case a16 => k_is)
    (case l16 => k_is)
    (case c16 => k_is)
    (case k16 => k_is)
    (case a17 => k_is)
    (case l17 => k_is)
    (case c17 => k_is)
    (case k17 => k_is)
    (case a18 => k_is)
    (case l18 => k_is)
    (case c18 => k_is)
    (case k18 => k_is)
    (case a19 => k_is)
    (case l19 => k_is)
    (case c19 => k_is)
    (case k19 => k_is)
    (case a20 => k_is)
    (case l20 => k_is)
    (case c20 => k_is)
    (case k20 => k_is)
    (case a21 => k_is)
    (case l21 => k_is)
    (case c21 => k_is)
    (case k21 => k_is)
    (case a22 => k_is)
    (case l22 => k_is)
    (case c22 => k_is)
    (case k22 => k_is)
    (case a23 => k_is)
    (case l23 => k_is)
    (case c23 => k_is)
    (case k23 => k_is)
    (case aC => k_is)
    (case am0 => k_is)
    (case im0 => k_is)
    (case lm0 => k_is)
    (case cm0 => k_is)
    (case km0 => k_is)
    (case am1 => k_is)
    (case im1 => k_is)
    (case lm1 => k_is)
    (case cm1 => k_is)
    (case km1 => k_is)
    (case am2 => k_is)
    (case im2 => k_is)
    (case lm2 => k_is)
    (case cm2 => k_is)
    (case km2 => k_is)
    (case am3 => k_is)
    (case im3 => k_is)
    (case lm3 => k_is)
    (case cm3 => k_is)
    (case km3 => k_is)
    (case am4 => k_is)
    (case im4 => k_is)
    (case lm4 => k_is)
    (case cm4 => k_is)
    (case km4 => k_is)
    (case am5 => k_is)
    (case im5 => k_is)
    (case lm5 => k_is)
    (case cm5 => k_is)
    (case km5 => k_is)
    (case am6 => k_is)
    (case im6 => k_is)
    (case lm6 => k_is)
    (case cm6 => k_is)
    (case km6 => k_is)
    (case am7 => k_is)
    (case im7 => k_is)
    (case lm7 => k_is)
    (case cm7 => k_is)
    (case km7 => k_is)
    (case am8 => k_is)
    (case im8 => k_is)
    (case lm8 => k_is)
    (case cm8 => k_is)
    (case km8 => k_is)
    (case amp0 => k_is)
    (case gmp0 => k_is)
    (case tmp0 => k_is)
    (case r_mp0 => k_is)
    (case lmp0 => k_is)
    (case cmp0 => k_is)
    (case kmp0 => k_is)
    (case amin => k_is)
    (case imin => k_is)
    (case lmin => k_is)
    (case cmin => k_is)
    (case kmin => k_is)
    (case pgC => k_is)
    (case hdC => k_is)
    (case poC => k_is)
    (case saC => k_is)
    (case mkC => k_is)
    (case kcC => k_is)
    (case icC => k_is)
    (case moC => k_is)
    (case jcC => k_is)
    (case tcC => k_is)
    (case nC_name => k_is)
    (case nC_own_slots => k_is)
    (case nC_own_turns => k_is)
    (case suC_tuple => k_is)
    (case nneC => k_is)
    (case gt => k_is)
    (case tk => k_is)
    (case aXD => k_is)
    (case xXD => k_is)
    (case saXD => k_is)
    (case eXD => k_is)
    (case tXD => k_is)
    (case kXD => k_is)
    (case jXD => k_is)
    (case ssXD => first | k_is | rfl)
    (case svXD => k_is)
    (case adXD => k_is)
    (case tdXD => k_is)
    (case ldXD => k_is)
    (case cdXD => k_is)
    (case lcXD => k_is)
    (case lkXD => k_is)
    (case hvXD => rfl)
    (case hfXD => first | rfl | kernel_rfl)
    (case spXD => ks_is)
    (case noD_name => k_is)
    (case gaXD => k_is)
    (case ggXD => k_is)
    (case hdXD => k_is)
    (case htop => first | rfl | kernel_rfl)
    (case z_super => k_is)
    (case opn => k_is)
    (case kLt => k_is)
    (case kLo => k_is)
    (case kMo => k_is)
    (case z_isinstance => k_is)
    (case z_int => k_is)
    (case z_bool => k_is)
    (case z_len => k_is)
    (case z_list => k_is)
    (case z_max => k_is)
    (case z_min => k_is)
    (case z_sum => k_is)
    (case z_zip => k_is)
    (case z_range => k_is)
    (case z_tuple => k_is)
    (case z_enumerate => k_is)
    (case z_any => k_is)
    (case z_all => k_is)
    (case z_abs => k_is)
    (case z_divmod => k_is)
    (case z_str => k_is)
    (case z_repr => k_is)
    (case z_set => k_is)
    (case z_sorted => k_is)
