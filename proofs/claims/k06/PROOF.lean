import PyProof.Rows.All
import Wide.All
import OpenK.AllK
import Wide.FinOn
import HandS.Base
import HandS.Call
import HandS.List
import HandS.Comp
import HandS.Text
import HandS.Iter
import HandS.Ends
import HandS.Exc
import HandS.ExcOwn
import HandS.ExcCtx
import PyProof.StrOps2
import PyProof.ReprRoads
import PyProof.StrLawsRepr
import PyProof.Rows.RegReprOcc
import KE.GoesNew
import KE.GoesEnumKw
import HandS.Flow
import HandS.Walk
import HandS.WideBits
import HandS.Words
import HandS.Evl
import HandS.Style
import KE.GoesMore
import HandS.More
import HandS.CallLocal
import HandS.IsInst
import HandS.Defaults
import HandS.FStr
import HandS.ExcInit
import PyProof.ExcBaseAll.IndexError
import PyProof.ExcBaseAll.LookupError
import PyProof.ExcBaseAll.OverflowError
import PyProof.ExcBaseAll.RuntimeError
import PyProof.ExcBaseAll.ValueError
import KE.KExcInit
import PyProof.Rows.FactsExc_KeyError
import KE.KCallOwn
import KE.KUnpackStar
import HandS.RaiseMore
import HandS.Small
import PyProof.ListRange
import PyProof.SliceList
import HandS.DictSub
import PyProof.Conv_bool
import PyProof.SumWalkG
import PyProof.Rows.SumAny
import HandS.Steps
import HandS.Head0
import HandS.Head1
import HandS.Head2
import HandS.HeadHook1
import HandS.HeadHook2
import HandS.HeadHook3
import HandS.OwnEq
import PyProof.EqKinds
import PySem.Challenge.RW_countedbits_k06_rows_made
set_option Elab.async false
set_option linter.all false
set_option maxRecDepth 99999
set_option maxHeartbeats 5000000
/-! Z, part A: defs whose surroundings have no repr under way; their calls; the law's own call. -/
namespace Z
open PySem PySem.Spec PyProof.Rows L2
/-- a def's promise where no guard is laid around -/
structure FnG (P : Program) (w : World) (K : PySem.W.Frag) (mg : Str → Option Value) (base : Heap) (k : Nat)
    (f : Addr) (fd : FuncData) (ps : List Str) (sp : Sp) : Prop where
  len : ∀ vs H Q E, sp vs H Q E → vs.length = ps.length
  run : ∀ (A : Around) (outer : List Env) (s : Shared) (H : Hp) (args : Args) (us : List Value) (vs : List V) (Q : VK) (E : XK),
    Room k A → A.guards = some [] → Env0 P w K mg base A outer s H → BindsTo s fd args (ps.zip us) → Vals vs us →
    sp vs H Q E → codeAny (model P w) A (.call (.ref f) args) (CR (L2N.CX P w) outer P w H s Q E) s
section
variable {P : Program} {w : World} {K : PySem.W.Frag} {mg : Str → Option Value} {base : Heap}
theorem FnG.mono {j k : Nat} {f : Addr} {fd : FuncData} {ps : List Str} {sp : Sp} (F : FnG P w K mg base j f fd ps sp) (h : j ≤ k) :
    FnG P w K mg base k f fd ps sp :=
  ⟨F.len, fun A o s H a us vs Q E r => F.run A o s H a us vs Q E (r.mono h)⟩
/-- what the text says of a def: its object, its code -/
structure Txt (K : PySem.W.Frag) (x qual : Str) (args : Arguments) (body : List Stmt) (sc : Scope) (dV kV : Value) (f : Addr) (fd : FuncData) : Prop where
  ex : ∃ (oc : Value) (od : Option Addr) (doc pm : Value) (an : Option Addr) (cdv ct : Value) (osl : Array (Option Value)),
    fd = PySem.W.fnOf x qual args body sc dV kV doc pm an cdv ct ∧ K.lookup f = some ⟨oc, od, .func fd, osl⟩ ∧ PySem.W.codeIn K cdv qual = true
  kp : PySem.W.keepIn K (.ref f) = true
/-- the body of a def, in its own frame -/
abbrev cx (P : Program) (w : World) (K : PySem.W.Frag) (mg : Str → Option Value) (base : Heap) (N : List Str) (qual : Str) (sc : Scope)
    (f : Addr) (cd : Value) (A : Around) (outer : List Env) (s : Shared) (H : Hp) (E : XK) : Cx :=
  cxOf (L2N.CX P w) P w K mg base N qual sc f cd A outer s H E
theorem z_fnC {x qual : Str} {args : Arguments} {body : List Stmt} {sc : Scope} {dV kV : Value} {f : Addr} {fd : FuncData}
    {N ps : List Str} {k : Nat} {sp : Sp} (T : Txt K x qual args body sc dV kV f fd) (S : FnScope N ps sc)
    (len : ∀ vs H Q E, sp vs H Q E → vs.length = ps.length)
    (hb : ∀ (cd : Value), fd.code = cd → ∀ (A : Around) (outer : List Env) (s : Shared) (H : Hp) (vs : List V) (Q : VK) (E : XK),
      Room k (A.deeper (envOfC qual sc s.heap.objs.size f cd)) → A.guards = some [] → sp vs H Q E →
      ∃ (t : TS) (σ : L2.St), start N vs = σ ∧ PSs (cx P w K mg base N qual sc f cd A outer s H E) body t ∧
        t { nx := fun _ H' => Q .non H', rt := Q } σ H) :
    FnG P w K mg base (k + 1) f fd ps sp := by
  obtain ⟨oc, od, doc, pm, an, cd, ct, osl, rfl, lk, hcd⟩ := T.ex
  refine ⟨len, ?_⟩
  intro A outer s H a us vs Q E room noG e0 binds rel want
  obtain ⟨t, σ, eσ, derived, goal⟩ := hb cd rfl A outer s H vs Q E (room.deeper _) noG want
  subst eσ
  have inHeap : K.In s.heap := e0.mod.kin.keeps fun b o q => (e0.bs b o q).1
  have noLim : s.heap.NoLimit := e0.mod.nolimit.keeps fun b o q => (e0.bs b o q).1
  refine codeAny_call_function room.depth (inHeap _ _ lk) rfl S.co S.gen rfl (PySem.W.codeRec_of inHeap hcd) (binds _ _ _ _ ?_)
  have kinds : ∀ y ∈ ps.zip us, sc.names.lookup y.1 = some .local ∨
      (sc.names.lookup y.1 = some .cell ∧ ((cellsFrom (s.heap.objs.size + 1) sc.names []).lookup y.1).isSome = true) := by
    rintro ⟨n, v⟩ hy
    have hn : n ∈ ps := (List.of_mem_zip hy).1
    cases S.par n hn with
    | inl q => exact .inl q
    | inr q => exact .inr ⟨q, PySem.W.cellsFrom_some _ _ _ (.inl q)⟩
  refine wpAny_newFunctionEnv_cells S.kind kinds fun env he s1 x => ?_
  subst he
  refine ⟨noLim.keeps x.toInCall.keep, codeAny_func ?_⟩
  have I0 := inv_start (CX := L2N.CX P w) (P := P) (w := w) (K := K) (mg := mg) (base := base) (f := f) (cd := cd) (E := E) S room.hd e0 (len _ _ _ _ want) rel x
  refine wpAny_mono (derived.run [] s1 _ H _ I0 goal) ?_ fun e s' hs => hs
  intro fl s' hs
  cases fl with
  | next =>
    obtain ⟨σ2, H2, J, q⟩ := hs
    exact ⟨.non, H2, J.os, J.bare, J.base, J.hok, rfl, q⟩
  | ret u =>
    obtain ⟨v, σ2, H2, J, rv, q⟩ := hs
    exact ⟨v, H2, J.os, J.bare, J.base, J.hok, rv, q⟩
  | brk => exact hs.elim fun _ z => z.elim fun _ z => z.2.elim
  | cont => exact hs.elim fun _ z => z.elim fun _ z => z.2.elim
theorem z_fn {x qual : Str} {args : Arguments} {body : List Stmt} {sc : Scope} {dV kV : Value} {f : Addr} {fd : FuncData}
    {N ps : List Str} {k : Nat} {sp : Sp} (T : Txt K x qual args body sc dV kV f fd) (S : FnScope N ps sc)
    (len : ∀ vs H Q E, sp vs H Q E → vs.length = ps.length)
    (hb : ∀ (cd : Value) (A : Around) (outer : List Env) (s : Shared) (H : Hp) (vs : List V) (Q : VK) (E : XK),
      Room k (A.deeper (envOfC qual sc s.heap.objs.size f cd)) → A.guards = some [] → sp vs H Q E →
      ∃ (t : TS) (σ : L2.St), start N vs = σ ∧ PSs (cx P w K mg base N qual sc f cd A outer s H E) body t ∧
        t { nx := fun _ H' => Q .non H', rt := Q } σ H) :
    FnG P w K mg base (k + 1) f fd ps sp := z_fnC T S len fun cd _ => hb cd
/-- a def that stands under a global name, with the values of its defaults -/
structure Def (P : Program) (w : World) (K : PySem.W.Frag) (mg : Str → Option Value) (base : Heap) (k : Nat) (x : Str) (dvs : List V) (sp : Sp) : Prop where
  ex : ∃ (f : Addr) (fd : FuncData) (ps : List Str) (ds : List Value), FnG P w K mg base k f fd ps sp ∧ mg x = some (.ref f) ∧
    PySem.W.keepIn K (.ref f) = true ∧ Binds K fd ps ds ∧ Vals dvs ds
theorem Def.mono {j k : Nat} {x : Str} {dvs : List V} {sp : Sp} (D : Def P w K mg base j x dvs sp) (h : j ≤ k) : Def P w K mg base k x dvs sp := by
  obtain ⟨f, fd, ps, ds, F, r⟩ := D.ex
  exact ⟨f, fd, ps, ds, F.mono h, r⟩
/-- a method of a class -/
structure Mth (P : Program) (w : World) (K : PySem.W.Frag) (mg : Str → Option Value) (base : Heap) (k : Nat) (C : Addr) (m : Str) (dvs : List V) (sp : Sp) : Prop where
  cls : Cls K C
  ex : ∃ (f : Addr) (fd : FuncData) (ps : List Str) (ds : List Value), FnG P w K mg base k f fd ps sp ∧ Meth K C m f ∧ Binds K fd ps ds ∧ Vals dvs ds
theorem Mth.mono {j k : Nat} {C : Addr} {m : Str} {dvs : List V} {sp : Sp} (D : Mth P w K mg base j C m dvs sp) (h : j ≤ k) : Mth P w K mg base k C m dvs sp := by
  obtain ⟨f, fd, ps, ds, F, r⟩ := D.ex
  exact ⟨D.cls, f, fd, ps, ds, F.mono h, r⟩
end
section
variable {X : Cx} {k : Nat} {f : Addr} {fd : FuncData} {ps : List Str} {sp : Sp} {dvs : List V} {ds : List Value} {E : XK}
/-- the callee runs -/
theorem run_g {pins : List (Addr × Obj)} {σ : L2.St} {H : Hp} {s : Shared} {Q : VK} {us : List Value} {vs : List V}
    (F : FnG X.prog X.w X.K X.mg X.base k f fd ps sp) (room : Room k X.A) (noG : X.A.guards = some []) (hb : Binds X.K fd ps ds) (hd : Vals dvs ds)
    (hx : ∀ e s', L2N.CX X.prog X.w X.stack H s E e s' → X.xe e s') (I : Inv X pins σ H s) (rel : Vals vs us) (want : sp (vs ++ dvs) H Q E) :
    wpAny (model X.prog X.w) X.A (call (.ref f) us) (EP X pins σ Q) X.xe s := by
  have rel2 : Vals (vs ++ dvs) (us ++ ds) := rel.append hd
  have many : (us ++ ds).length = ps.length := rel2.length ▸ F.len _ _ _ _ want
  have ran := F.run X.A X.stack s H ⟨us, []⟩ (us ++ ds) (vs ++ dvs) Q E room noG I.env0 (hb s us I.kIn many) rel2 want
  refine wpAny_call (codeAny_mono ran ?_)
  intro r s' hr
  match r, hr with
  | .error e, hr => exact hx e s' hr
  | .ok (.ret u), hr => exact I.after hr
  | .ok .next, hr => exact False.elim hr
  | .ok .brk, hr => exact False.elim hr
  | .ok .cont, hr => exact False.elim hr
/-- f(..) -/
def tC1 (sp : Sp) (dvs : List V) (E : L2.St → XK) (t : TA) : TE := fun σ H Q => t σ H fun vs H1 => sp (vs ++ dvs) H1 Q (E σ)
variable {x m : Str} {p pos apos : Pos} {e o : Expr} {es : List Expr} {ta : TE} {t : TA} {W : WX}
theorem pe_f (D : Def X.prog X.w X.K X.mg X.base k x dvs sp) (room : Room k X.A) (noG : X.A.guards = some []) (hg : Gl X x)
    (tk : ∀ pins σ H s, Inv X pins σ H s → ∀ e s', L2N.CX X.prog X.w X.stack H s (fun c d H' => W c d σ H') e s' → X.xe e s')
    (ha : PA X (e :: es) t) (hdb : (x == ("__debug__" : Str)) = false := by decide)
    (he : starEach (e :: es) X.env = (false, eval e X.env) :: starEach es X.env := by rfl)
    (hpl : (backTo pos (starEach es X.env)).any (·.1) = false := by rfl) :
    PE X (.Call (.Name x p) (e :: es) [] pos) (tC1 sp dvs (fun σ c d H' => W c d σ H') t) := by
  obtain ⟨f, fd, ps, ds, F, hm, hk, hb, hd⟩ := D.ex
  constructor
  intro pins s σ H Q I h
  refine wpAny_Call_Name_kw (ld_glob I hg hm ?_ hdb)
  refine PySem.W.callWith_K (h₀ := X.base) I.ok.mod.kin hk (thn (ha.run pos pins s σ H _ I h) ?_) he hpl
  rintro us s1 ⟨vs, H1, I1, rel, want⟩
  exact ⟨I1.kIn, run_g F room noG hb hd (tk _ _ _ _ I1) I1 rel want⟩
theorem pe_f0 (D : Def X.prog X.w X.K X.mg X.base k x dvs sp) (room : Room k X.A) (noG : X.A.guards = some []) (hg : Gl X x)
    (tk : ∀ pins σ H s, Inv X pins σ H s → ∀ e s', L2N.CX X.prog X.w X.stack H s (fun c d H' => W c d σ H') e s' → X.xe e s')
    (hdb : (x == ("__debug__" : Str)) = false := by decide) :
    PE X (.Call (.Name x p) [] [] pos) (tC1 sp dvs (fun σ c d H' => W c d σ H') tNil) := by
  obtain ⟨f, fd, ps, ds, F, hm, hk, hb, hd⟩ := D.ex
  constructor
  intro pins s σ H Q I h
  refine wpAny_Call_Name_kw (ld_glob I hg hm ?_ hdb)
  exact PySem.W.callWith_K0 I.kIn hk (run_g (us := []) F room noG hb hd (tk _ _ _ _ I) I .nil h)
/-- nothing is raised: any surroundings will do -/
theorem tk0 {X : Cx} : ∀ (pins : List (Addr × Obj)) (σ : L2.St) (H : Hp) (s : Shared), Inv X pins σ H s → ∀ e s',
    L2N.CX X.prog X.w X.stack H s (fun c d H' => (fun _ _ _ _ => False : WX) c d σ H') e s' → X.xe e s' := by
  intro _ _ _ _ _ e s' c
  obtain ⟨_, _, _, _, _, _, _, _, _, _, _, _, no⟩ := c
  exact no.elim
/-- what is raised is taken around -/
theorem tkW {X : Cx} {W : WX} (tk : L2N.Takes X W) : ∀ (pins : List (Addr × Obj)) (σ : L2.St) (H : Hp) (s : Shared), Inv X pins σ H s → ∀ e s',
    L2N.CX X.prog X.w X.stack H s (fun c d H' => W c d σ H') e s' → X.xe e s' :=
  fun _ _ _ _ I e s' c => tk e s' (L2N.XE.of_call I (fun _ _ _ q => q) c)
end
end Z
namespace Z
open PySem PySem.Spec PyProof.Rows L2
theorem takes_ {X : Cx} {E : XK} (hs : X.stack = X.env :: X.outer) (hf : X.env.frame = some X.env.locals) (hex : X.ex = []) {E₁ : Value → Shared → Prop}
    (hx : X.xe = fun e s' => wpAny (model X.prog X.w) X.A (leaving X.env e) (fun _ s'' => L2N.CX X.prog X.w X.outer X.H_0 X.s_0 E e s'') E₁ s') : L2N.Takes X (fun cls d _ H => E cls d H) := L2N.takes_of hs hf hex hx
end Z
/-! Z, part B: the law's own call where its promise asks that no guard is laid. -/
namespace Z
open PySem PySem.Spec PyProof.Rows L2
/-- from an abstract heap that tracks the script at most, known to its object -/
theorem law_from {P : Program} {w : World} {K : PySem.W.Frag} {mg mb : Str → Option Value} {k : Nat} {fa a : Addr} {fd : FuncData} {x : Str} {sp : Sp} {s₁ : Shared} {oa : Obj} {H : Hp}
    (inK : K.In s₁.heap) (ns : s₁.heap.Ns mainGlobals mg) (bl : s₁.heap.Ns builtinsNs mb) (bl2 : ∀ x : Str, x ≠ "__name__" → mb x = bootBuiltins x)
    (lim : s₁.heap.NoLimit) (noGens : s₁.gens = #[]) (obj : s₁.heap.get? a = some oa) (notDict : ∀ es ep, oa.data ≠ .dict es ep) (room : Room k callerA)
    (F : ∀ base : Heap, K.In base → base.Ns mainGlobals mg → FnG P w K mg base k fa fd [x] sp) (binds : ∀ (s : Shared) (u : Value), BindsTo s fd ⟨[u], []⟩ [(x, u)])
    (want : sp [.ref a] H (fun v _ => v = .bl true) fun _ _ _ => False) (ok : HOk P w H s₁.heap)
    (only : ∀ b, H b = none ∨ (b = a ∧ K.lookup a = none ∧ ∃ o xs, H b = some (.frz o (.lst xs)))) :
    codeAny (model P w) callerA (.call (.ref fa) ⟨[.ref a], []⟩) (fun r s' => r = .ok (.ret (.bool true)) ∧ OldK s₁.heap s'.heap ∧ s'.os = s₁.os ∧ AllBare s'.gens) s₁ := by
  -- a namespace is no list: it stands in what is not tracked
  have free : ∀ {b : Addr} {o : Obj} {es : Array DictEntry} {ep : Nat}, s₁.heap.get? b = some o → o.data = .dict es ep → H b = none := by
    intro b o es ep q d
    rcases only b with z | ⟨rfl, _, _⟩
    · exact z
    · rw [obj] at q
      exact absurd (Option.some.inj q ▸ d) (notDict es ep)
  have nsH : ∀ {b : Addr} {m : Str → Option Value}, s₁.heap.Ns b m → (hidT s₁.heap H).Ns b m := by
    rintro b m ⟨o, es, ep, q, d, more⟩
    exact ⟨o, es, ep, hidT_get q (free q d), d, more⟩
  have inB : K.In (hidT s₁.heap H) := by
    intro b o q
    refine hidT_get (inK b o q) ?_
    rcases only b with z | ⟨rfl, no, _⟩
    · exact z
    · rw [no] at q
      cases q
  have module : Mod K mg (hidT s₁.heap H) := by
    obtain ⟨mc, l1, l2⟩ := lim
    exact ⟨inB, nsH ns, ⟨mb, nsH bl, bl2⟩, mc, nsH l1, l2⟩
  have e0 : Env0 P w K mg (hidT s₁.heap H) callerA [] s₁ H :=
    { frames := rfl, mod := module, bs := fun b o q => of_hidT q, bsz := Nat.le_of_eq (hidT_size _ _), funs := trivial,
      frf := fun b hb => absurd hb List.not_mem_nil, hok := ok, bare := .of_eq noGens }
  have ran := (F _ inB (nsH ns)).run callerA [] s₁ H ⟨[.ref a], []⟩ [.ref a] [.ref a] _ _ room rfl e0 (binds s₁ (.ref a)) (.cons rfl .nil) want
  refine codeAny_mono ran ?_
  intro r s' hr
  match r, hr with
  | .error e, hr =>
    obtain ⟨_, _, _, _, _, _, _, _, _, _, _, _, no⟩ := hr
    exact no.elim
  | .ok .next, hr => exact False.elim hr
  | .ok .brk, hr => exact False.elim hr
  | .ok .cont, hr => exact False.elim hr
  | .ok (.ret u), hr =>
    obtain ⟨v, H2, os, bare, un, ok2, rv, rfl⟩ := hr
    obtain rfl : u = Value.bool true := rv
    refine ⟨rfl, OldK.of_keep ?_, os, bare⟩
    intro b o q
    rcases only b with z | ⟨_, _, ob, xs, z⟩
    · exact un.keep b o q z List.not_mem_nil List.not_mem_nil
    · have was := (ok b _ z).1
      have is := (ok2 b _ (un.frzs b ob _ z)).1
      rw [was] at q
      exact (Option.some.inj q) ▸ is
theorem law_g {P : Program} {w : World} {K : PySem.W.Frag} {mg mb : Str → Option Value} {k : Nat} {fa a : Addr} {fd : FuncData} {x : Str} {sp : Sp} {s₁ : Shared} {vs : List Value} {ns : List Int}
    (inK : K.In s₁.heap) (hns : s₁.heap.Ns mainGlobals mg) (bl : s₁.heap.Ns builtinsNs mb) (bl2 : ∀ x : Str, x ≠ "__name__" → mb x = bootBuiltins x)
    (lim : s₁.heap.NoLimit) (noGens : s₁.gens = #[]) (obj : s₁.heap.get? a = some { cls := .type "list", data := .seq vs.toArray }) (hints : IntsAre vs ns) (short : ns.length ≤ sizeLine) (room : Room k callerA)
    (F : ∀ base : Heap, K.In base → base.Ns mainGlobals mg → FnG P w K mg base k fa fd [x] sp) (binds : ∀ (s : Shared) (u : Value), BindsTo s fd ⟨[u], []⟩ [(x, u)])
    (want : ∀ H : Hp, SqL K H a (ns.map V.int) → sp [.ref a] H (fun v _ => v = .bl true) fun _ _ _ => False) :
    codeAny (model P w) callerA (.call (.ref fa) ⟨[.ref a], []⟩) (fun r s' => r = .ok (.ret (.bool true)) ∧ OldK s₁.heap s'.heap ∧ s'.os = s₁.os ∧ AllBare s'.gens) s₁ := by
  have rel : Vals (ns.map V.int) vs := vals_ints hints
  have many : (ns.map V.int).length ≤ sizeLine := by rw [List.length_map]; exact short
  match known : K.lookup a with
  | some o =>
    have same : o = ({ cls := .type "list", data := .seq vs.toArray } : Obj) := Option.some.inj ((inK a o known).symm.trans obj)
    subst same
    refine law_from (H := fun _ => none) inK hns bl bl2 lim noGens obj (fun _ _ z => nomatch z) room F binds (want _ ?_) (fun b u z => nomatch z) fun _ => .inl rfl
    exact .inr ⟨_, vs.toArray, _, known, rfl, rfl, rfl, by rw [List.size_toArray, hints.length]; exact short, by simpa using rel⟩
  | none =>
    have at_ : upd (fun _ => none) a (.frz { cls := .type "list", data := .seq vs.toArray } (.lst (ns.map V.int))) a = _ := upd_same
    refine law_from inK hns bl bl2 lim noGens obj (fun _ _ z => nomatch z) room F binds (want _ (.inl (.inr ⟨_, at_⟩))) ?_ ?_
    · intro b u z
      by_cases q : b = a
      · subst q
        obtain rfl := Option.some.inj (at_.symm.trans z)
        exact ⟨obj, many, vs, _, rel, obj⟩
      · rw [upd_ne q] at z
        cases z
    · intro b
      by_cases q : b = a
      · subst q
        exact .inr ⟨rfl, known, _, _, at_⟩
      · exact .inl (by rw [upd_ne q])
/-- the law's walk, from its promise -/
theorem walk_g {l : PySem.W.OpenLaw} {n k : Nat} {q : Program} {loose : List Str} {XP : (Str → Option Value) → Heap → Prop} {YP : World → Heap → Prop} {d : DefRec} {K : Params → PySem.W.Frag} {sp : PySem.W.Frag → Sp} {x : Str}
    (hn : l.most = some n) (hn2 : n ≤ sizeLine) (hdf : d.params.defaults = []) (room : Room k callerA)
    (hY : ∀ (w : World) (h : Heap), YP w h → (K w.params).In h)
    (F : ∀ (w : World) (mg : Str → Option Value) (fa : Addr) (h : Heap), (K w.params).In h → h.Ns mainGlobals mg → mg d.name = some (.ref fa) →
      ∃ fd : FuncData, (∀ (s : Shared) (u : Value), BindsTo s fd ⟨[u], []⟩ [(x, u)]) ∧
        ∀ base : Heap, (K w.params).In base → base.Ns mainGlobals mg → FnG l.prog w (K w.params) mg base k fa fd [x] (sp (K w.params)))
    (want : ∀ (K : PySem.W.Frag) (H : Hp) (a : Addr) (ns : List Int), ns.length ≤ n → SqL K H a (ns.map V.int) → sp K [.ref a] H (fun v _ => v = .bl true) fun _ _ _ => False) :
    PySem.W.WalkO q loose XP YP l.row.toRowW d [] (fun f vs => PySem.call f vs) := by
  refine Att.attach_call hn hdf ?_
  intro w s₀ s₁ mg mb fa o pm cd doc a vs ns G Y ho hd hcd hmg obj hints short noGens
  have inK := hY w _ Y
  obtain ⟨fd, binds, FF⟩ := F w mg fa _ inK G.T.g hmg
  exact law_g inK G.T.g G.T.b G.T.builtins G.T.nolimit noGens obj hints (Nat.le_trans short hn2) room FF binds fun H hS => want _ H a ns short hS
end Z
/-! Z, part C: texts as lists of signs; one rule an operator, whatever the kinds; how readings step on. -/
namespace Z
open PySem PySem.Spec PyProof.Rows L2
/-- a text by its signs -/
abbrev T (l : List Nat) : V := .str ⟨l.toArray⟩
theorem str_len (l : List Nat) : (⟨l.toArray⟩ : Str).length = l.length := by
  show l.toArray.size = l.length
  simp
theorem str_app (a b : List Nat) : (⟨a.toArray⟩ ++ ⟨b.toArray⟩ : Str) = ⟨(a ++ b).toArray⟩ := by
  show (⟨a.toArray ++ b.toArray⟩ : Str) = _
  simp
theorem str_eta (x : Str) : x = ⟨x.cps.toList.toArray⟩ := by
  obtain ⟨c⟩ := x
  simp
theorem T_inj {a b : List Nat} : T a = T b ↔ a = b := by
  constructor
  · intro h
    injection h with h
    injection h with h
    simpa using congrArg Array.toList h
  · rintro rfl
    rfl
def sz : Nat := 16777216
theorem sz_eq : (sizeLine : Nat) = sz := sizeLine_eq
/-- what stood stands -/
def Ex (H H' : Hp) : Prop := ∀ b o, H b = some o → H' b = some o
theorem Ex.refl (H : Hp) : Ex H H := fun _ _ h => h
theorem Ex.trans {H H1 H2 : Hp} (a : Ex H H1) (b : Ex H1 H2) : Ex H H2 := fun c o h => b c o (a c o h)
theorem Ex.at_ {H H' : Hp} {a : Addr} {o : HO} (e : Ex H H') (h : H a = some o) : H' a = some o := e a o h
theorem Ex.new {H : Hp} {p : Addr} {o : HO} (h : H p = none) : Ex H (upd H p o) := fun a u e => by
  rw [upd_ne (ne_of_none e h)]
  exact e
theorem Ex.back {H H' : Hp} (e : Ex H H') {p : Addr} (h : H' p = none) : H p = none := by
  cases q : H p with
  | none => rfl
  | some o => rw [e p o q] at h; cases h
/-- a thing that H does not know may change -/
theorem Ex.mut {H H' : Hp} {p : Addr} {o : HO} (e : Ex H H') (h : H p = none) : Ex H (upd H' p o) := fun a u ha => by
  rw [upd_ne (ne_of_none ha h)]
  exact e a u ha
theorem Ex.seqL {K : PySem.W.Frag} {H H' : Hp} {a : Addr} {xs : List V} (e : Ex H H') (h : SqL K H a xs) : SqL K H' a xs := by
  rcases h with (h | ⟨o, h⟩) | h
  · exact .inl (.inl (e _ _ h))
  · exact .inl (.inr ⟨o, e _ _ h⟩)
  · exact .inr h
theorem Ex.seqT {K : PySem.W.Frag} {H H' : Hp} {a : Addr} {xs : List V} (e : Ex H H') (h : SqT K H a xs) : SqT K H' a xs := by
  rcases h with (h | ⟨o, h⟩) | h
  · exact .inl (.inl (e _ _ h))
  · exact .inl (.inr ⟨o, e _ _ h⟩)
  · exact .inr h
theorem ne_new {H : Hp} {a b : Addr} {o : HO} (h : H b = none) (h' : H a = some o) : a ≠ b := ne_of_none h' h
/-- all but l stand -/
def But (l : Addr) (H H' : Hp) : Prop := ∀ b o, b ≠ l → H b = some o → H' b = some o
theorem But.at_ {l : Addr} {H H' : Hp} {a : Addr} {o : HO} (e : But l H H') (n : a ≠ l) (h : H a = some o) : H' a = some o := e a o n h
theorem But.upd {l : Addr} {H : Hp} {o : HO} : But l H (upd H l o) := fun b u n h => by rw [upd_ne n]; exact h
theorem But.trans {l : Addr} {H H1 H2 : Hp} (a : But l H H1) (b : But l H1 H2) : But l H H2 := fun c o n h => b c o n (a c o n h)
theorem But.ext {l : Addr} {H H1 H2 : Hp} (a : But l H H1) (b : Ex H1 H2) : But l H H2 := fun c o n h => b c o (a c o n h)
theorem Ex.but {l : Addr} {H H1 H2 : Hp} (a : Ex H H1) (b : But l H1 H2) : But l H H2 := fun c o n h => b c o n (a c o h)
theorem But.refl (l : Addr) (H : Hp) : But l H H := fun _ _ _ h => h
theorem But.ex {l : Addr} {H0 H H' : Hp} (b : But l H H') (e : Ex H0 H) (n : H0 l = none) : Ex H0 H' := fun c o h => b c o (ne_of_none h n) (e c o h)
section
variable {X : Cx}
/-! ### the rules -/
theorem z_str {x : Str} {l : List Nat} {j : Nat} {pos : Pos} (e : x = ⟨l.toArray⟩) : PE X (.Constant (.str x) j pos) (tC (T l)) := by
  subst e
  exact pe_str
def rAddS : R2 := fun x y H Q => ∃ a b : List Nat, x = T a ∧ y = T b ∧ a.length + b.length ≤ sz ∧ Q (T (a ++ b)) H
theorem op_addS : OpR X (binaryOp .Add) rAddS := by
  intro pins s σ H x y v u Q I rx ry h
  obtain ⟨a, b, rfl, rfl, h1, q⟩ := h
  refine op_add_str pins s σ H _ _ v u Q I rx ry ⟨_, _, rfl, rfl, ?_, ?_⟩
  · rw [str_len, str_len, sz_eq]; exact h1
  · rw [str_app]; exact q
theorem iop_addS : OpR X (inplaceOp .Add) rAddS := by
  intro pins s σ H x y v u Q I rx ry h
  obtain ⟨a, b, rfl, rfl, h1, q⟩ := h
  refine iop_add_str pins s σ H _ _ v u Q I rx ry ⟨_, _, rfl, rfl, ?_, ?_⟩
  · rw [str_len, str_len, sz_eq]; exact h1
  · rw [str_app]; exact q
def rAddZ (K : PySem.W.Frag) : R2 := fun x y H Q => rI0 (fun i j => .int (i + j)) x y H Q ∨ rAddS x y H Q ∨ rCat x y H Q ∨ rCatT K x y H Q
theorem z_add : OpR X (binaryOp .Add) (rAddZ X.K) := op_add.or (op_addS.or (op_cat.or op_catT))
/-- n times a text -/
def rep (l : List Nat) (n : Nat) : List Nat := (List.replicate n l).flatten
theorem rep_len (l : List Nat) (n : Nat) : (rep l n).length = l.length * n := by
  unfold rep
  induction n with
  | zero => simp
  | succ n ih => rw [List.replicate_succ, List.flatten_cons, List.length_append, ih, Nat.mul_succ, Nat.add_comm]
theorem fold_rep (a : Array Nat) (n : Nat) (acc : Array Nat) : (List.replicate n a).foldl (· ++ ·) acc = acc ++ ((List.replicate n a.toList).flatten).toArray := by
  induction n generalizing acc with
  | zero => simp
  | succ n ih =>
    rw [List.replicate_succ, List.foldl_cons, ih, List.replicate_succ, List.flatten_cons, Array.append_assoc]
    obtain ⟨l⟩ := a
    simp
def rMulS : R2 := fun x y H Q => ∃ (a : List Nat) (n : Int), x = T a ∧ y = .int n ∧ n ≤ 16777216 ∧ -16777216 ≤ n ∧ a.length * n.toNat ≤ sz ∧ Q (T (rep a n.toNat)) H
theorem op_mulS : OpR X (binaryOp .Mult) rMulS := by
  intro pins s σ H x y v u Q I rx ry h
  obtain ⟨a, n, rfl, rfl, h1, h2, h3, q⟩ := h
  obtain ⟨t, rfl⟩ := rx
  obtain ⟨t', rfl⟩ := ry
  have el : (⟨a.toArray⟩ : Str).length = a.length := str_len a
  by_cases hn : n < 1
  · have e0 : n.toNat = 0 := by omega
    rw [e0] at q
    exact PySem.P.mul_str_none hn (by omega) ⟨T [], H, I.tok _, ⟨_, rfl⟩, q⟩
  · have ha : a.length * n.toNat ≤ sizeLine := by rw [sz_eq]; exact h3
    refine PySem.P.mul_str ?_ ?_ ?_ ?_
    · rw [decide_eq_false (by omega), decide_eq_false (by omega)]; rfl
    · intro _ _ hh
      rw [el] at hh
      have h5 : (a.length : Int) * n ≤ 16777216 := by
        have e : ((a.length * n.toNat : Nat) : Int) = (a.length : Int) * n := by rw [Int.natCast_mul, Int.toNat_of_nonneg (by omega)]
        rw [← e]
        exact Int.ofNat_le.mpr h3
      have h6 : (a.length : Int) ≤ (2 ^ 63 - 1) / n := (Int.le_ediv_iff_mul_le (by omega)).mpr (by omega)
      omega
    · intro _ _
      rw [el]
      exact decide_eq_false (by omega)
    · rw [if_neg hn]
      by_cases c : (n == 1 || (⟨a.toArray⟩ : Str).length == 0) = true
      · rw [if_pos c]
        refine ⟨T a, H, I, ⟨t, rfl⟩, ?_⟩
        have e : rep a n.toNat = a := by
          rw [Bool.or_eq_true] at c
          rcases c with c | c
          · have e1 : n = 1 := by simpa using c
            subst e1
            unfold rep
            simp
          · have e1 : a = [] := by simpa [el] using c
            subst e1
            unfold rep
            simp
        rw [e] at q
        exact q
      · rw [if_neg c]
        refine ⟨?_, T (rep a n.toNat), H, I.tok _, ⟨s.toks, ?_⟩, q⟩
        · show ((List.replicate n.toNat a.toArray).foldl (· ++ ·) #[]).size ≤ sizeLine
          rw [fold_rep]
          have := rep_len a n.toNat
          unfold rep at this
          simp at this ⊢
          omega
        · rw [fold_rep]
          unfold rep
          simp
def rMulI : R2 := rI IntMulOk fun i j => .int (i * j)
theorem op_mulI : OpR X (binaryOp .Mult) rMulI := opI fun _ _ _ _ _ _ _ hc q => mul_int q hc
def rMulZ : R2 := fun x y H Q => rMulI x y H Q ∨ rMulS x y H Q ∨ rRep x y H Q
theorem z_mul : OpR X (binaryOp .Mult) rMulZ := op_mulI.or (op_mulS.or op_rep)
def CPowW (i j : Int) : Prop := 0 ≤ j ∧ (Builtin.Int.intBits i : Int) * j ≤ 2 ^ 27
def rPowZ : R2 := rI CPowW fun i j => .int (i ^ j.toNat)
theorem z_pow : OpR X (binaryOp .Pow) rPowZ := opI fun _ _ _ _ _ _ _ hc q => pow_int hc.1 hc.2 q
def rSubZ : R2 := rI0 fun i j => .int (i - j)
theorem z_sub : OpR X (binaryOp .Sub) rSubZ := op_sub
def rDivZ : R2 := rI CDiv fun i j => .int (i / j)
theorem z_fdiv : OpR X (binaryOp .FloorDiv) rDivZ := op_fdiv
def rModZ : R2 := rI (fun _ j => 0 < j) fun i j => .int (i % j)
theorem z_mod : OpR X (binaryOp .Mod) rModZ := op_mod
def rLtZ : R2 := fun x y H Q => rI0 (fun i j => .bl (decide (i < j))) x y H Q
theorem z_lt : OpR X (compareOp .Lt) rLtZ := op_lt
def rLeZ : R2 := fun x y H Q => rI0 (fun i j => .bl (decide (i ≤ j))) x y H Q
theorem z_le : OpR X (compareOp .LtE) rLeZ := op_le
def rGtZ : R2 := fun x y H Q => rI0 (fun i j => .bl (decide (j < i))) x y H Q
theorem z_gt : OpR X (compareOp .Gt) rGtZ := op_gt
def rGeZ : R2 := fun x y H Q => rI0 (fun i j => .bl (decide (j ≤ i))) x y H Q
theorem z_ge : OpR X (compareOp .GtE) rGeZ := op_ge
def rEqZ (K : PySem.W.Frag) : R2 := fun x y H Q => rEq x y H Q ∨ rEqD K x y H Q
theorem z_eq (hu : X.A.units + 64 < cLine) : OpR X (compareOp .Eq) (rEqZ X.K) := op_eq.or (op_eqD hu)
def rNeZ (K : PySem.W.Frag) : R2 := fun x y H Q => rNe x y H Q ∨ rNeD K x y H Q
theorem z_ne (hu : X.A.units + 64 < cLine) : OpR X (compareOp .NotEq) (rNeZ X.K) := op_ne.or (op_neD hu)
def rInS : R2 := fun x y H Q => ∃ (c : Nat) (z : List Nat), x = T [c] ∧ y = T z ∧ Q (.bl (decide (c ∈ z))) H
theorem op_inS : OpR X (compareOp .In) rInS := by
  intro pins s σ H x y v u Q I rx ry h
  obtain ⟨c, z, rfl, rfl, q⟩ := h
  exact op_in_sign pins s σ H _ _ v u Q I rx ry ⟨c, ⟨z.toArray⟩, rfl, rfl, by simpa using q⟩
def rNiS : R2 := fun x y H Q => ∃ (c : Nat) (z : List Nat), x = T [c] ∧ y = T z ∧ Q (.bl (!decide (c ∈ z))) H
theorem op_niS : OpR X (compareOp .NotIn) rNiS := by
  intro pins s σ H x y v u Q I rx ry h
  obtain ⟨c, z, rfl, rfl, q⟩ := h
  exact op_notIn_sign pins s σ H _ _ v u Q I rx ry ⟨c, ⟨z.toArray⟩, rfl, rfl, by simpa using q⟩
def rInZ (K : PySem.W.Frag) : R2 := fun x y H Q => rInS x y H Q ∨ rIn K false x y H Q
theorem z_in : OpR X (compareOp .In) (rInZ X.K) := op_inS.or op_in_seq
def rNiZ (K : PySem.W.Frag) : R2 := fun x y H Q => rNiS x y H Q ∨ rIn K true x y H Q
theorem z_ni : OpR X (compareOp .NotIn) (rNiZ X.K) := op_niS.or op_notIn_seq
/-- s[i] -/
def rIxT' : R2 := fun x y H Q => ∃ (z : List Nat) (i : Int) (c : Nat), x = T z ∧ y = .int i ∧ z.length ≤ sz ∧ atI z i = some c ∧ Q (T [c]) H
theorem ix_T : IxR X rIxT' := by
  intro value slice pins s σ H x y v u Q I rx ry h hs
  obtain ⟨z, i, c, rfl, rfl, h1, h2, q⟩ := h
  refine ix_str value slice pins s σ H _ _ v u Q I rx ry ?_ hs
  exact ⟨⟨z.toArray⟩, i, c, rfl, rfl, by rw [str_len, sz_eq]; exact h1, by simpa using h2, q⟩
def rIxZ (K : PySem.W.Frag) : R2 := fun x y H Q => rIxT' x y H Q ∨ rIxL K x y H Q ∨ L2.rIxT K x y H Q
theorem z_ix : IxR X (rIxZ X.K) := ix_T.or (ix_list.or ix_tup)
/-- s[lo:hi] -/
def cut (l : List Nat) (lo hi : Option Int) : List Nat := (l.drop (HT.sIx l.length 0 lo)).take (HT.sIx l.length l.length hi - HT.sIx l.length 0 lo)
def rSlZ (K : PySem.W.Frag) : V → Option Int → Option Int → Hp → VK → Prop := fun x lo hi H Q =>
  (∃ z : List Nat, x = T z ∧ z.length ≤ sz ∧ Q (T (cut z lo hi)) H) ∨ rSlL K x lo hi H Q ∨ rSlT K x lo hi H Q
theorem sl_T : SlR X (fun x lo hi H Q => ∃ z : List Nat, x = T z ∧ z.length ≤ sz ∧ Q (T (cut z lo hi)) H) := by
  intro pins s σ H x v vl vu lo hi sl Q I rx hs pl pu h
  obtain ⟨z, rfl, h1, q⟩ := h
  refine sl_str pins s σ H _ v vl vu lo hi sl Q I rx hs pl pu ⟨⟨z.toArray⟩, rfl, by rw [str_len, sz_eq]; exact h1, ?_⟩
  unfold cutS
  rw [str_len]
  exact q
theorem z_sl : SlR X (rSlZ X.K) := sl_T.or (sl_list.or sl_tup)
/-- len -/
def rLenZ (K : PySem.W.Frag) : List V → Hp → VK → Prop := fun xs H Q => ∃ x n, xs = [x] ∧ LenV K x H n ∧ Q (.int n) H
theorem z_len : CallR X (.builtin "len") (rLenZ X.K) := call_len
/-- sep.join(list) -/
def joinT (a : List Nat) : List (List Nat) → List Nat
  | [] => []
  | [x] => x
  | x :: y :: r => x ++ a ++ joinT a (y :: r)
end
end Z
/-! Z, part D: a reading goes on by one step. -/
namespace Z
open PySem PySem.Spec PyProof.Rows L2
section
variable {σ σ' : L2.St} {H : Hp} {D : Ends} {t u ts : TS} {te ta tb tc to : TE} {tt tu : TT} {tr : TA} {Q : VK} {K : PySem.W.Frag} {x y v : V} {i : Nat} {a b p : Addr}
/-! ### statements -/
theorem norm {t : Ends → L2.St → Hp → Prop} (e : List.set σ i (some v) = σ') (h : t D σ' H) : t D (List.set σ i (some v)) H := e ▸ h
theorem seq_asg (h : te σ H fun x H1 => u D (List.set σ i (some x)) H1) : tSeq (tAsg te (gName i)) u D σ H := h
theorem asg_ (h : te σ H fun x H1 => D.nx (List.set σ i (some x)) H1) : tAsg te (gName i) D σ H := h
theorem seq_drop (h : te σ H fun _ H1 => u D σ H1) : tSeq (tDrop te) u D σ H := h
theorem drop_ (h : te σ H fun _ H1 => D.nx σ H1) : tDrop te D σ H := h
theorem ret_ (h : te σ H D.rt) : tRet te D σ H := h
theorem retN_ (h : D.rt .non H) : tRetN D σ H := h
theorem next_ (h : D.nx σ H) : tNext D σ H := h
theorem seq_ (h : t { D with nx := u D } σ H) : tSeq t u D σ H := h
def zIf (t u : TS) (D : Ends) (σ : L2.St) (b : Bool) (H : Hp) : Prop := if b = true then t D σ H else u D σ H
theorem seq_if (h : tt σ H (zIf t ts { D with nx := u D } σ)) : tSeq (tIfS tt t ts) u D σ H := h
theorem if_ (h : tt σ H (zIf t ts D σ)) : tIfS tt t ts D σ H := h
theorem zif_d {q : Prop} [Decidable q] (h1 : q → t D σ H) (h2 : ¬ q → u D σ H) : zIf t u D σ (decide q) H := by
  unfold zIf
  by_cases h : q
  · rw [decide_eq_true h, if_pos rfl]; exact h1 h
  · rw [decide_eq_false h, if_neg Bool.false_ne_true]; exact h2 h
theorem zif_n {q : Prop} [Decidable q] (h1 : ¬ q → t D σ H) (h2 : q → u D σ H) : zIf t u D σ (!decide q) H := by
  unfold zIf
  by_cases h : q
  · rw [decide_eq_true h]; exact h2 h
  · rw [decide_eq_false h]; exact h1 h
theorem zif_b {k : Bool} (h1 : k = true → t D σ H) (h2 : k = false → u D σ H) : zIf t u D σ k H := by
  unfold zIf
  cases k with
  | true => exact h1 rfl
  | false => exact h2 rfl
theorem zif_dt {q : Prop} [Decidable q] (hq : q) (h : t D σ H) : zIf t u D σ (decide q) H := zif_d (fun _ => h) fun n => absurd hq n
theorem zif_df {q : Prop} [Decidable q] (hq : ¬ q) (h : u D σ H) : zIf t u D σ (decide q) H := zif_d (fun n => absurd n hq) fun _ => h
theorem zif_nT (h : u D σ H) : zIf t u D σ (!true) H := h
theorem zif_nF (h : t D σ H) : zIf t u D σ (!false) H := h
theorem zif_nt {q : Prop} [Decidable q] (hq : ¬ q) (h : t D σ H) : zIf t u D σ (!decide q) H := zif_n (fun _ => h) fun n => absurd n hq
theorem zif_nf {q : Prop} [Decidable q] (hq : q) (h : u D σ H) : zIf t u D σ (!decide q) H := zif_n (fun n => absurd hq n) fun _ => h
theorem zif_t (h : t D σ H) : zIf t u D σ true H := h
theorem zif_f (h : u D σ H) : zIf t u D σ false H := h
/-! ### expressions -/
theorem var_ (e : σ[i]? = some (some v)) (h : Q v H) : tVar i σ H Q := ⟨v, e, h⟩
theorem c_ (h : Q v H) : tC v σ H Q := h
theorem op_ {r : R2} (h : ta σ H fun x H1 => tb σ H1 fun y H2 => r x y H2 Q) : tOp r ta tb σ H Q := h
theorem un_ {r : V → Hp → VK → Prop} (h : ta σ H fun x H1 => r x H1 Q) : tUn r ta σ H Q := h
theorem nil_ {Q : List V → Hp → Prop} (h : Q [] H) : tNil σ H Q := h
theorem cons_ {Q : List V → Hp → Prop} (h : ta σ H fun x H1 => tr σ H1 fun xs H2 => Q (x :: xs) H2) : tCons ta tr σ H Q := h
def zNew (o : HO) (H : Hp) (Q : VK) : Prop := ∀ p, H p = none → Q (.ref p) (upd H p o)
theorem new_ {o : HO} (h : ∀ p H', H p = none → Ex H H' → H' p = some o → Q (.ref p) H') : zNew o H Q := fun p hp => h p _ hp (Ex.new hp) upd_same
def zTup (xs : List V) (H : Hp) (Q : VK) : Prop := xs.length ≤ sizeLine ∧ zNew (.tup xs) H Q
def zLst (xs : List V) (H : Hp) (Q : VK) : Prop := xs.length ≤ sizeLine ∧ zNew (.lst xs) H Q
theorem tup_ (h : tr σ H fun xs H1 => zTup xs H1 Q) : tTup tr σ H Q := h
theorem lst_ (h : tr σ H fun xs H1 => zLst xs H1 Q) : tLst tr σ H Q := h
theorem ztup_ {xs : List V} (l : xs.length ≤ 16777216) (h : ∀ p H', H p = none → Ex H H' → H' p = some (.tup xs) → Q (.ref p) H') : zTup xs H Q := ⟨by rw [sz_eq]; exact l, new_ h⟩
theorem zlst_ {xs : List V} (l : xs.length ≤ 16777216) (h : ∀ p H', H p = none → Ex H H' → H' p = some (.lst xs) → Q (.ref p) H') : zLst xs H Q := ⟨by rw [sz_eq]; exact l, new_ h⟩
theorem cb_ {r : List V → Hp → VK → Prop} (h : tr σ H fun vs H1 => r vs H1 Q) : tCB r tr σ H Q := h
theorem c1_ {sp : Sp} {E : L2.St → XK} (h : tr σ H fun vs H1 => sp vs H1 Q (E σ)) : tC1 sp [] E tr σ H Q := by
  unfold tC1
  simpa using h
theorem c1d_ {sp : Sp} {dv : V} {dvs : List V} {E : L2.St → XK} (h : tr σ H fun vs H1 => sp (vs ++ dv :: dvs) H1 Q (E σ)) : tC1 sp (dv :: dvs) E tr σ H Q := h
def zSl (r : V → Option Int → Option Int → Hp → VK → Prop) (x : V) (l u : Option Int) (H : Hp) (Q : VK) : Prop := r x l u H Q
theorem sl_ {r : V → Option Int → Option Int → Hp → VK → Prop} {tl th : TO} (h : te σ H fun x H1 => tl σ H1 fun l H2 => th σ H2 fun u H3 => r x l u H3 Q) : tSl r te tl th σ H Q := h
theorem nopart_ {Q : Option Int → Hp → Prop} (h : Q none H) : tNoPart σ H Q := h
def zPart (Q : Option Int → Hp → Prop) (x : V) (H : Hp) : Prop := ∃ i, x = .int i ∧ Q (some i) H
theorem part_ {Q : Option Int → Hp → Prop} (h : te σ H (zPart Q)) : tPart te σ H Q := h
theorem zpart_ {Q : Option Int → Hp → Prop} {n : Int} (h : Q (some n) H) : zPart Q (.int n) H := ⟨n, rfl, h⟩
/-! ### tests -/
def zB (Q : Bool → Hp → Prop) (x : V) (H : Hp) : Prop := ∃ k, x = .bl k ∧ Q k H
theorem test_ {Q : Bool → Hp → Prop} (h : te σ H (zB Q)) : tTest te σ H Q := h
theorem tb_ {Q : Bool → Hp → Prop} (h : te σ H (zB Q)) : tB te σ H Q := h
theorem zb_ {Q : Bool → Hp → Prop} {k : Bool} (h : Q k H) : zB Q (.bl k) H := ⟨k, rfl, h⟩
def zAnd (tu : TT) (σ : L2.St) (Q : Bool → Hp → Prop) (c : Bool) (H : Hp) : Prop := if c = true then tu σ H Q else Q false H
def zOr (tu : TT) (σ : L2.St) (Q : Bool → Hp → Prop) (c : Bool) (H : Hp) : Prop := if c = true then Q true H else tu σ H Q
theorem and_ {Q : Bool → Hp → Prop} (h : tt σ H (zAnd tu σ Q)) : tAnd tt tu σ H Q := h
theorem or_ {Q : Bool → Hp → Prop} (h : tt σ H (zOr tu σ Q)) : tOr tt tu σ H Q := h
theorem nott_ {Q : Bool → Hp → Prop} (h : Q false H) : (fun c H1 => Q (!c) H1) true H := h
theorem not_ {Q : Bool → Hp → Prop} (h : tt σ H fun c H1 => Q (!c) H1) : tNot tt σ H Q := h
theorem zand_d {q : Prop} [Decidable q] {Q : Bool → Hp → Prop} (h1 : q → tu σ H Q) (h2 : ¬ q → Q false H) : zAnd tu σ Q (decide q) H := by
  unfold zAnd
  by_cases h : q
  · rw [decide_eq_true h, if_pos rfl]; exact h1 h
  · rw [decide_eq_false h, if_neg Bool.false_ne_true]; exact h2 h
theorem zor_d {q : Prop} [Decidable q] {Q : Bool → Hp → Prop} (h1 : q → Q true H) (h2 : ¬ q → tu σ H Q) : zOr tu σ Q (decide q) H := by
  unfold zOr
  by_cases h : q
  · rw [decide_eq_true h, if_pos rfl]; exact h1 h
  · rw [decide_eq_false h, if_neg Bool.false_ne_true]; exact h2 h
theorem zand_n {q : Prop} [Decidable q] {Q : Bool → Hp → Prop} (h1 : ¬ q → tu σ H Q) (h2 : q → Q false H) : zAnd tu σ Q (!decide q) H := by
  unfold zAnd
  by_cases h : q
  · rw [decide_eq_true h]; exact h2 h
  · rw [decide_eq_false h]; exact h1 h
theorem zor_n {q : Prop} [Decidable q] {Q : Bool → Hp → Prop} (h1 : ¬ q → Q true H) (h2 : q → tu σ H Q) : zOr tu σ Q (!decide q) H := by
  unfold zOr
  by_cases h : q
  · rw [decide_eq_true h]; exact h2 h
  · rw [decide_eq_false h]; exact h1 h
theorem zand_b {k : Bool} {Q : Bool → Hp → Prop} (h1 : k = true → tu σ H Q) (h2 : k = false → Q false H) : zAnd tu σ Q k H := by
  unfold zAnd
  cases k with
  | true => exact h1 rfl
  | false => exact h2 rfl
theorem zor_b {k : Bool} {Q : Bool → Hp → Prop} (h1 : k = true → Q true H) (h2 : k = false → tu σ H Q) : zOr tu σ Q k H := by
  unfold zOr
  cases k with
  | true => exact h1 rfl
  | false => exact h2 rfl
def zIfE (ta tb : TE) (σ : L2.St) (Q : VK) (c : Bool) (H : Hp) : Prop := if c = true then ta σ H Q else tb σ H Q
theorem ifE_ (h : tt σ H (zIfE ta tb σ Q)) : tIf tt ta tb σ H Q := h
theorem zife_d {q : Prop} [Decidable q] (h1 : q → ta σ H Q) (h2 : ¬ q → tb σ H Q) : zIfE ta tb σ Q (decide q) H := by
  unfold zIfE
  by_cases h : q
  · rw [decide_eq_true h, if_pos rfl]; exact h1 h
  · rw [decide_eq_false h, if_neg Bool.false_ne_true]; exact h2 h
theorem zife_n {q : Prop} [Decidable q] (h1 : ¬ q → ta σ H Q) (h2 : q → tb σ H Q) : zIfE ta tb σ Q (!decide q) H := by
  unfold zIfE
  by_cases h : q
  · rw [decide_eq_true h]; exact h2 h
  · rw [decide_eq_false h]; exact h1 h
theorem zife_b {k : Bool} (h1 : k = true → ta σ H Q) (h2 : k = false → tb σ H Q) : zIfE ta tb σ Q k H := by
  unfold zIfE
  cases k with
  | true => exact h1 rfl
  | false => exact h2 rfl
/-- a and b, a or b of truths, as a value -/
def zAndV (tb : TE) (σ : L2.St) (Q : VK) (x : V) (H : Hp) : Prop := ∃ c, x = .bl c ∧ if c = true then tb σ H Q else Q (.bl false) H
def zOrV (tb : TE) (σ : L2.St) (Q : VK) (x : V) (H : Hp) : Prop := ∃ c, x = .bl c ∧ if c = true then Q (.bl true) H else tb σ H Q
theorem andV_ (h : ta σ H (zAndV tb σ Q)) : tAndV ta tb σ H Q := h
theorem orV_ (h : ta σ H (zOrV tb σ Q)) : tOrV ta tb σ H Q := h
theorem zandv_d {q : Prop} [Decidable q] (h1 : q → tb σ H Q) (h2 : ¬ q → Q (.bl false) H) : zAndV tb σ Q (.bl (decide q)) H := by
  refine ⟨_, rfl, ?_⟩
  by_cases h : q
  · rw [decide_eq_true h, if_pos rfl]; exact h1 h
  · rw [decide_eq_false h, if_neg Bool.false_ne_true]; exact h2 h
theorem zorv_d {q : Prop} [Decidable q] (h1 : q → Q (.bl true) H) (h2 : ¬ q → tb σ H Q) : zOrV tb σ Q (.bl (decide q)) H := by
  refine ⟨_, rfl, ?_⟩
  by_cases h : q
  · rw [decide_eq_true h, if_pos rfl]; exact h1 h
  · rw [decide_eq_false h, if_neg Bool.false_ne_true]; exact h2 h
theorem zandv_b {k : Bool} (h1 : k = true → tb σ H Q) (h2 : k = false → Q (.bl false) H) : zAndV tb σ Q (.bl k) H := by
  refine ⟨_, rfl, ?_⟩
  cases k with
  | true => exact h1 rfl
  | false => exact h2 rfl
theorem zorv_b {k : Bool} (h1 : k = true → Q (.bl true) H) (h2 : k = false → tb σ H Q) : zOrV tb σ Q (.bl k) H := by
  refine ⟨_, rfl, ?_⟩
  cases k with
  | true => exact h1 rfl
  | false => exact h2 rfl
theorem zandv_t (h : tb σ H Q) : zAndV tb σ Q (.bl true) H := ⟨_, rfl, h⟩
theorem zandv_f (h : Q (.bl false) H) : zAndV tb σ Q (.bl false) H := ⟨_, rfl, h⟩
theorem zorv_t (h : Q (.bl true) H) : zOrV tb σ Q (.bl true) H := ⟨_, rfl, h⟩
theorem zorv_f (h : tb σ H Q) : zOrV tb σ Q (.bl false) H := ⟨_, rfl, h⟩
theorem zand_t {Q : Bool → Hp → Prop} (h : tu σ H Q) : zAnd tu σ Q true H := h
theorem zand_f {Q : Bool → Hp → Prop} (h : Q false H) : zAnd tu σ Q false H := h
theorem zor_t {Q : Bool → Hp → Prop} (h : Q true H) : zOr tu σ Q true H := h
theorem zor_f {Q : Bool → Hp → Prop} (h : tu σ H Q) : zOr tu σ Q false H := h
def zNotV (Q : VK) (x : V) (H : Hp) : Prop := ∃ c, x = .bl c ∧ Q (.bl (!c)) H
theorem notV_ (h : ta σ H (zNotV Q)) : tNotV ta σ H Q := h
theorem znotv_ {k : Bool} (h : Q (.bl (!k)) H) : zNotV Q (.bl k) H := ⟨k, rfl, h⟩
/-! ### operators on values -/
theorem addI {n m : Int} (h : Q (.int (n + m)) H) : rAddZ K (.int n) (.int m) H Q := .inl ⟨n, m, rfl, rfl, h⟩
theorem addS {l m : List Nat} (e : l.length + m.length ≤ 16777216) (h : Q (T (l ++ m)) H) : rAddZ K (T l) (T m) H Q := .inr (.inl ⟨l, m, rfl, rfl, e, h⟩)
theorem addL {xs ys : List V} (h1 : H a = some (.lst xs)) (h2 : H b = some (.lst ys)) (e : xs.length + ys.length ≤ 16777216)
    (h : ∀ p H', H p = none → Ex H H' → H' p = some (.lst (xs ++ ys)) → Q (.ref p) H') : rAddZ K (.ref a) (.ref b) H Q :=
  .inr (.inr (.inl ⟨a, b, xs, ys, rfl, rfl, h1, h2, by rw [sz_eq]; exact e, new_ h⟩))
theorem subI {n m : Int} (h : Q (.int (n - m)) H) : rSubZ (.int n) (.int m) H Q := ⟨n, m, rfl, rfl, h⟩
theorem mul_ok1 {n m : Int} (h1 : -18446744073709551616 < n) (h2 : n < 18446744073709551616) : IntMulOk n m := (CMul.ok (.inl ⟨h1, h2⟩))
theorem mul_ok2 {n m : Int} (h1 : -18446744073709551616 < m) (h2 : m < 18446744073709551616) : IntMulOk n m := (CMul.ok (.inr ⟨h1, h2⟩))
theorem mulI {n m : Int} (e : IntMulOk n m) (h : Q (.int (n * m)) H) : rMulZ (.int n) (.int m) H Q := .inl ⟨n, m, rfl, rfl, e, h⟩
theorem mulS {l : List Nat} {n : Int} (e1 : n ≤ 16777216) (e2 : -16777216 ≤ n) (e3 : l.length * n.toNat ≤ 16777216) (h : Q (T (rep l n.toNat)) H) : rMulZ (T l) (.int n) H Q :=
  .inr (.inl ⟨l, n, rfl, rfl, e1, e2, e3, h⟩)
theorem divI {n m : Int} (e1 : 0 < m) (e2 : m < 1073741824) (h : Q (.int (n / m)) H) : rDivZ (.int n) (.int m) H Q := ⟨n, m, rfl, rfl, ⟨e1, e2⟩, h⟩
theorem modI {n m : Int} (e1 : 0 < m) (h : Q (.int (n % m)) H) : rModZ (.int n) (.int m) H Q := ⟨n, m, rfl, rfl, e1, h⟩
theorem powI {n m : Int} (e : CPowW n m) (h : Q (.int (n ^ m.toNat)) H) : rPowZ (.int n) (.int m) H Q := ⟨n, m, rfl, rfl, e, h⟩
theorem pow_ok {n m : Int} (h : (decide (0 ≤ m) && decide ((Builtin.Int.intBits n : Int) * m ≤ 2 ^ 27)) = true) : CPowW n m := by
  simp only [Bool.and_eq_true, decide_eq_true_eq] at h
  exact h
theorem negI {n : Int} (h : Q (.int (-n)) H) : rU (fun i => .int (-i)) (.int n) H Q := ⟨n, rfl, h⟩
theorem ltI {n m : Int} (h : Q (.bl (decide (n < m))) H) : rLtZ (.int n) (.int m) H Q := ⟨n, m, rfl, rfl, h⟩
theorem leI {n m : Int} (h : Q (.bl (decide (n ≤ m))) H) : rLeZ (.int n) (.int m) H Q := ⟨n, m, rfl, rfl, h⟩
theorem gtI {n m : Int} (h : Q (.bl (decide (m < n))) H) : rGtZ (.int n) (.int m) H Q := ⟨n, m, rfl, rfl, h⟩
theorem geI {n m : Int} (h : Q (.bl (decide (m ≤ n))) H) : rGeZ (.int n) (.int m) H Q := ⟨n, m, rfl, rfl, h⟩
theorem dec_i {n m : Int} : decide (V.int n = V.int m) = decide (n = m) := by
  by_cases h : n = m
  · subst h; simp
  · rw [decide_eq_false h, decide_eq_false (fun q => h (V.int.inj q))]
theorem dec_s {l m : List Nat} : decide (T l = T m) = decide (l = m) := by
  by_cases h : l = m
  · subst h; simp
  · rw [decide_eq_false h, decide_eq_false (fun q => h (T_inj.mp q))]
theorem eqII {n : Int} (h : Q (.bl true) H) : rEqZ K (.int n) (.int n) H Q := .inl ⟨rfl, by rw [decide_eq_true rfl]; exact h⟩
theorem eqSS {l : List Nat} (h : Q (.bl true) H) : rEqZ K (T l) (T l) H Q := .inl ⟨rfl, by rw [decide_eq_true rfl]; exact h⟩
theorem neSS {l : List Nat} (h : Q (.bl false) H) : rNeZ K (T l) (T l) H Q := .inl ⟨rfl, by rw [decide_eq_true rfl]; exact h⟩
theorem eqI {n m : Int} (h : Q (.bl (decide (n = m))) H) : rEqZ K (.int n) (.int m) H Q := .inl ⟨rfl, dec_i ▸ h⟩
theorem eqS {l m : List Nat} (h : Q (.bl (decide (l = m))) H) : rEqZ K (T l) (T m) H Q := .inl ⟨rfl, dec_s ▸ h⟩
theorem neI {n m : Int} (h : Q (.bl (!decide (n = m))) H) : rNeZ K (.int n) (.int m) H Q := .inl ⟨rfl, dec_i ▸ h⟩
theorem neS {l m : List Nat} (h : Q (.bl (!decide (l = m))) H) : rNeZ K (T l) (T m) H Q := .inl ⟨rfl, dec_s ▸ h⟩
theorem inS {c : Nat} {z : List Nat} (h : Q (.bl (decide (c ∈ z))) H) : rInZ K (T [c]) (T z) H Q := .inl ⟨c, z, rfl, rfl, h⟩
theorem niS {c : Nat} {z : List Nat} (h : Q (.bl (!decide (c ∈ z))) H) : rNiZ K (T [c]) (T z) H Q := .inl ⟨c, z, rfl, rfl, h⟩
theorem ixS {z : List Nat} {n : Int} {c : Nat} (e1 : z.length ≤ 16777216) (e2 : atI z n = some c) (h : Q (T [c]) H) : rIxZ K (T z) (.int n) H Q := .inl ⟨z, n, c, rfl, rfl, e1, e2, h⟩
theorem ixL {xs : List V} {n : Int} {v : V} (e : H a = some (.lst xs)) (e2 : atI xs n = some v) (h : Q v H) : rIxZ K (.ref a) (.int n) H Q :=
  .inr (.inl ⟨a, xs, n, v, rfl, rfl, SqL.of e, e2, h⟩)
theorem ixU {xs : List V} {n : Int} {v : V} (e : H a = some (.tup xs)) (e2 : atI xs n = some v) (h : Q v H) : rIxZ K (.ref a) (.int n) H Q :=
  .inr (.inr ⟨a, xs, n, v, rfl, rfl, SqT.of e, e2, h⟩)
theorem ixSq {xs : List V} {n : Int} {v : V} (e : SqL K H a xs) (e2 : atI xs n = some v) (h : Q v H) : rIxZ K (.ref a) (.int n) H Q :=
  .inr (.inl ⟨a, xs, n, v, rfl, rfl, e, e2, h⟩)
theorem slS {z : List Nat} {lo hi : Option Int} (e : z.length ≤ 16777216) (h : Q (T (cut z lo hi)) H) : rSlZ K (T z) lo hi H Q := .inl ⟨z, rfl, e, h⟩
theorem slL {xs : List V} {lo hi : Option Int} (e : H a = some (.lst xs)) (h : ∀ p H', H p = none → Ex H H' → H' p = some (.lst (cutV xs lo hi)) → Q (.ref p) H') : rSlZ K (.ref a) lo hi H Q :=
  .inr (.inl ⟨a, xs, rfl, SqL.of e, new_ h⟩)
theorem lenS {l : List Nat} (e : l.length ≤ 16777216) (h : Q (.int (l.length : Nat)) H) : rLenZ K [T l] H Q :=
  ⟨_, l.length, rfl, ⟨by rw [str_len, sz_eq]; exact e, (str_len l).symm⟩, h⟩
theorem lenL {xs : List V} (e : H a = some (.lst xs)) (h : Q (.int (xs.length : Nat)) H) : rLenZ K [.ref a] H Q := ⟨_, xs.length, rfl, .inl ⟨xs, SqL.of e, rfl⟩, h⟩
theorem lenU {xs : List V} (e : H a = some (.tup xs)) (h : Q (.int (xs.length : Nat)) H) : rLenZ K [.ref a] H Q := ⟨_, xs.length, rfl, .inr ⟨xs, SqT.of e, rfl⟩, h⟩
theorem lenSq {xs : List V} (e : SqL K H a xs) (h : Q (.int (xs.length : Nat)) H) : rLenZ K [.ref a] H Q := ⟨_, xs.length, rfl, .inl ⟨xs, e, rfl⟩, h⟩
end
end Z
/-! Z, part E: more rules: op=, repr, str, int, join, count, enumerate of texts. -/
namespace Z
open PySem PySem.Spec PyProof.Rows L2
section
variable {X : Cx}
/-! ### op= -/
def pAddZ : TIp := fun x y H Q => rI0 (fun i j => .int (i + j)) x y H Q ∨ rAddS x y H Q
theorem z_iadd : PIp X .Add pAddZ := by
  intro pins s σ H x y v u Q I rx ry h
  rcases h with h | h
  · exact iop_add pins s σ H x y v u Q I rx ry h
  · exact iop_addS pins s σ H x y v u Q I rx ry h
def pSubZ : TIp := rI0 (fun i j => .int (i - j))
theorem z_isub : PIp X .Sub pSubZ := fun pins s σ H x y v u Q I rx ry h => iop_sub pins s σ H x y v u Q I rx ry h
def pMulZ : TIp := rI CMul (fun i j => .int (i * j))
theorem z_imul : PIp X .Mult pMulZ := fun pins s σ H x y v u Q I rx ry h => iop_mul pins s σ H x y v u Q I rx ry h
def pDivZ : TIp := rI CDiv (fun i j => .int (i / j))
theorem z_ifdiv : PIp X .FloorDiv pDivZ := fun pins s σ H x y v u Q I rx ry h => iop_fdiv pins s σ H x y v u Q I rx ry h
/-! ### xs[i] op= -/
def gList (K : PySem.W.Frag) : V → V → Hp → VK → Prop := fun o i H Q => ∃ (p : Addr) (xs : List V) (k : Int) (v : V), o = .ref p ∧ i = .int k ∧ SqL K H p xs ∧ atI xs k = some v ∧ Q v H
theorem get_list : PGet X (gList X.K) := by
  intro pins s σ H o i ov iv Q I ro ri h
  obtain ⟨p, xs, k, v, rfl, rfl, hq, he, q⟩ := h
  cases ro
  obtain ⟨t, rfl⟩ := ri
  obtain ⟨its, r, pl, hz⟩ := I.list hq
  obtain ⟨j, h1, h2, h3, h4, h5⟩ := atI_get he
  obtain ⟨w, ew, rw'⟩ := r.get h2
  have hl := r.length
  have hn := line63
  have fin : EP X pins σ Q w s := ⟨v, H, I, rw', q⟩
  by_cases h0 : 0 ≤ k
  · have hj : k.toNat = j := Option.some.inj ((seqIndex_of h0 h5).symm.trans h1)
    exact wpAny_getItem_list pl.isList h0 (by omega) (by rw [hj]; simpa using ew) fin
  · have hj : (k + (its.toArray.size : Int)).toNat = j := by
      rw [List.size_toArray, ← hl]
      exact Option.some.inj ((seqIndex_neg (by omega) h4).symm.trans h1)
    exact wpAny_getItem_list_neg pl.isList (by omega) (by rw [List.size_toArray] <;> omega) (by omega) (by rw [hj]; simpa using ew) fin
/-! ### repr -/
abbrev Dt (l : List Nat) : PyData := .str ⟨l.toArray⟩
/-- a text of at most n signs is told -/
inductive Rp : PyData → Nat → Nat → Prop
  | non : Rp .none 4 1
  | bl (b : Bool) : Rp (.bool b) 5 1
  | int {i : Int} (h1 : -18446744073709551616 < i) (h2 : i < 18446744073709551616) : Rp (.int i) 25 1
  | str {l : List Nat} (h : ∀ c ∈ l, c < 1000) : Rp (Dt l) (10 * l.length + 2) 1
  | lst {ds : List PyData} {n k : Nat} (h : ∀ d ∈ ds, Rp d n k) : Rp (.list ds) (ds.length * (n + 2) + 4) (k + 1)
  | tup {ds : List PyData} {n k : Nat} (h : ∀ d ∈ ds, Rp d n k) : Rp (.tuple ds) (ds.length * (n + 2) + 4) (k + 1)
  | more {d : PyData} {n m k j : Nat} (h : Rp d n k) (l : n ≤ m) (g : k ≤ j) : Rp d m j
theorem shownAll_map : ∀ ds : List PyData, PyData.shownAll ds = ds.map PyData.shown
  | [] => by simp [PyData.shownAll]
  | d :: ds => by simp [PyData.shownAll, shownAll_map ds]
theorem showableAll_of : ∀ {ds : List PyData}, (∀ d ∈ ds, d.showable = true) → PyData.showableAll ds = true
  | [], _ => by simp [PyData.showableAll]
  | d :: ds, h => by
    simp only [PyData.showableAll, h d List.mem_cons_self, Bool.true_and]
    exact showableAll_of fun e he => h e (List.mem_cons_of_mem _ he)
theorem hasDictAll_of : ∀ {ds : List PyData}, (∀ d ∈ ds, d.hasDict = false) → PyData.hasDictAll ds = false
  | [], _ => by simp [PyData.hasDictAll]
  | d :: ds, h => by
    simp only [PyData.hasDictAll, h d List.mem_cons_self, Bool.false_or]
    exact hasDictAll_of fun e he => h e (List.mem_cons_of_mem _ he)
theorem depthAll_of {k : Nat} : ∀ {ds : List PyData}, (∀ d ∈ ds, d.depth ≤ k) → PyData.depthAll ds ≤ k
  | [], _ => by simp [PyData.depthAll]
  | d :: ds, h => by
    simp only [PyData.depthAll]
    exact Nat.max_le.mpr ⟨h d List.mem_cons_self, depthAll_of fun e he => h e (List.mem_cons_of_mem _ he)⟩
theorem sum_le {n : Nat} : ∀ {ts : List Str}, (∀ t ∈ ts, t.length ≤ n) → (ts.map (·.length)).sum ≤ ts.length * n
  | [], _ => by simp
  | t :: ts, h => by
    have h1 := h t List.mem_cons_self
    have h2 := sum_le (n := n) fun u hu => h u (List.mem_cons_of_mem _ hu)
    simp only [List.map_cons, List.sum_cons, List.length_cons, Nat.succ_mul]
    omega
theorem slen_app (a b : Str) : (a ++ b).length = a.length + b.length := by
  show (a.cps ++ b.cps).size = _
  rw [Array.size_append]
  rfl
theorem tup_le (ts : List Str) : (tupleText ts).length ≤ (listText ts).length + 1 := by
  rw [listText_eq_join]
  unfold tupleText
  rw [slen_app, slen_app, slen_app, slen_app]
  have e1 : ((("(" : String) : Str)).length = 1 := by decide +kernel
  have e2 : ((("[" : String) : Str)).length = 1 := by decide +kernel
  have e3 : ((("]" : String) : Str)).length = 1 := by decide +kernel
  have e4 : (((if ts.length == 1 then ",)" else ")" : String) : Str)).length ≤ 2 := by split <;> decide +kernel
  omega
structure RpOk (d : PyData) (n k : Nat) : Prop where
  sh : d.showable = true
  nd : d.hasDict = false
  dp : d.depth ≤ k
  ln : d.shown.length ≤ n
theorem int_le {i : Int} (h1 : -18446744073709551616 < i) (h2 : i < 18446744073709551616) : i.natAbs.log2 < 1920 := by
  have h : i.natAbs < 2 ^ 64 := by omega
  by_cases z : i.natAbs = 0
  · rw [z]; decide
  · exact Nat.lt_trans ((Nat.log2_lt z).mpr h) (by decide)
theorem rp_ok {d : PyData} {n k : Nat} (r : Rp d n k) : RpOk d n k := by
  induction r with
  | non => exact ⟨rfl, rfl, Nat.zero_le _, by simp only [PyData.shown]; decide +kernel⟩
  | bl b => exact ⟨rfl, rfl, Nat.zero_le _, by simp only [PyData.shown]; cases b <;> decide +kernel⟩
  | int h1 h2 =>
    refine ⟨?_, rfl, Nat.zero_le _, ?_⟩
    · simp only [PyData.showable]
      exact decide_eq_true (int_le h1 h2)
    · simp only [PyData.shown]
      rw [PySem.ofString_length]
      exact Nat.le_trans (int_text_length_le10 (k := 20) (by decide) (by omega)) (by decide)
  | str h =>
    rename_i l
    refine ⟨rfl, rfl, Nat.zero_le _, ?_⟩
    simp only [PyData.shown]
    have := StrLaws.reprText_len (⟨l.toArray⟩ : Str) (by intro c hc; have := h c (by simpa using hc); omega)
    rw [str_len] at this
    exact this
  | lst h ih =>
    rename_i ds n k
    refine ⟨?_, ?_, ?_, ?_⟩
    · simp only [PyData.showable]; exact showableAll_of fun d hd => (ih d hd).sh
    · simp only [PyData.hasDict]; exact hasDictAll_of fun d hd => (ih d hd).nd
    · simp only [PyData.depth]; exact Nat.succ_le_succ (depthAll_of fun d hd => (ih d hd).dp)
    · simp only [PyData.shown]
      rw [shownAll_map]
      have h1 := listText_len_le (ds.map PyData.shown)
      have h2 := sum_le (n := n) (ts := ds.map PyData.shown) (by
        intro t ht
        obtain ⟨d, hd, rfl⟩ := List.mem_map.mp ht
        exact (ih d hd).ln)
      rw [List.length_map] at h1 h2
      rw [Nat.mul_add]
      omega
  | tup h ih =>
    rename_i ds n k
    refine ⟨?_, ?_, ?_, ?_⟩
    · simp only [PyData.showable]; exact showableAll_of fun d hd => (ih d hd).sh
    · simp only [PyData.hasDict]; exact hasDictAll_of fun d hd => (ih d hd).nd
    · simp only [PyData.depth]; exact Nat.succ_le_succ (depthAll_of fun d hd => (ih d hd).dp)
    · simp only [PyData.shown]
      rw [shownAll_map]
      have h0 := tup_le (ds.map PyData.shown)
      have h1 := listText_len_le (ds.map PyData.shown)
      have h2 := sum_le (n := n) (ts := ds.map PyData.shown) (by
        intro t ht
        obtain ⟨d, hd, rfl⟩ := List.mem_map.mp ht
        exact (ih d hd).ln)
      rw [List.length_map] at h1 h2
      rw [Nat.mul_add]
      omega
  | more r l g ih => exact ⟨ih.sh, ih.nd, Nat.le_trans ih.dp g, Nat.le_trans ih.ln l⟩
/-- the signs of a thing's text -/
def shownL (d : PyData) : List Nat := d.shown.cps.toList
def rRepr (K : PySem.W.Frag) : List V → Hp → VK → Prop := fun xs H Q => ∃ (x : V) (d : PyData) (n : Nat), xs = [x] ∧ Dp K H x d ∧ Rp d n 40 ∧ n ≤ sz ∧ Q (T (shownL d)) H
theorem z_repr (hu : X.A.units + 64 < cLine) (ng : X.A.guards = some []) : CallR X (.builtin "repr") (rRepr X.K) := by
  intro pins s σ H xs us Q I r h
  obtain ⟨x, d, n, rfl, dp, rp, hn, q⟩ := h
  have ok := rp_ok rp
  have hln : d.shown.length ≤ sizeLine := by rw [sz_eq]; exact Nat.le_trans ok.ln hn
  have et : T (shownL d) = V.str d.shown := by
    show V.str _ = V.str _
    exact congrArg V.str (str_eta _).symm
  rw [et] at q
  obtain ⟨u, rfl, ru⟩ := vals1 r
  cases dp with
  | non =>
    cases ru
    exact PySem.P.repr_of_none ⟨.str _, H, I.tok _, ⟨_, rfl⟩, by simpa [PyData.shown] using q⟩
  | bl b =>
    cases ru
    exact PySem.P.repr_of_bool ⟨.str _, H, I.tok _, ⟨_, rfl⟩, by simpa [PyData.shown] using q⟩
  | int i =>
    obtain ⟨t, rfl⟩ := ru
    exact PySem.P.repr_of_int (by have := ok.sh; simpa [PyData.showable] using this) ⟨.str _, H, I.tok _, ⟨_, rfl⟩, by simpa [PyData.shown] using q⟩
  | str z =>
    obtain ⟨t, rfl⟩ := ru
    exact PySem.P.repr_of_str ⟨.str _, H, I.tok _, ⟨_, rfl⟩, by simpa [PyData.shown] using q⟩ (by simpa [PyData.shown] using hln)
  | lst h1 h2 =>
    rename_i a ys ds
    cases ru
    obtain ⟨as, rd⟩ := Dp.reads I _ _ _ (Dp.lst h1 h2) rfl
    have hd := ok.dp
    exact repr_of_reads' rd ok.sh (fun z => absurd z (by rw [ok.nd]; decide)) ng (by omega) (fun _ _ e => e) (fun h' u tk k => ⟨.str _, H, I.kept k, ⟨u, rfl⟩, q⟩) hln
  | tup h1 h2 =>
    rename_i a ys ds
    cases ru
    obtain ⟨as, rd⟩ := Dp.reads I _ _ _ (Dp.tup h1 h2) rfl
    have hd := ok.dp
    exact repr_of_reads' rd ok.sh (fun z => absurd z (by rw [ok.nd]; decide)) ng (by omega) (fun _ _ e => e) (fun h' u tk k => ⟨.str _, H, I.kept k, ⟨u, rfl⟩, q⟩) hln
/-! ### str(n), int(text), join, count -/
@[irreducible] def intL (i : Int) : List Nat := (Str.ofString (toString i)).cps.toList
def rStrI : List V → Hp → VK → Prop := fun xs H Q => ∃ i : Int, xs = [.int i] ∧ -18446744073709551616 < i ∧ i < 18446744073709551616 ∧ Q (T (intL i)) H
theorem z_str_i : CallR X (.type "str") rStrI := by
  intro pins s σ H xs us Q I r h
  obtain ⟨i, rfl, h1, h2, q⟩ := h
  refine call_str_int pins s σ H _ us Q I r ⟨i, rfl, int_le h1 h2, ?_⟩
  have e : T (intL i) = V.str (Str.ofString (toString i)) := by unfold intL; exact congrArg V.str (str_eta _).symm
  rw [← e]
  exact q
def rJoin (K : PySem.W.Frag) : V → List V → Hp → VK → Prop := fun x xs H Q => ∃ (a : List Nat) (p : Addr) (ys : List (List Nat)), x = T a ∧ xs = [.ref p] ∧ (SqL K H p (ys.map T) ∨ SqT K H p (ys.map T)) ∧
  (ys.map (·.length)).sum + ys.length * a.length ≤ sz ∧ Q (T (joinT a ys)) H
theorem join_is (a : List Nat) : ∀ ys : List (List Nat), (Str.join ⟨a.toArray⟩ (ys.map fun l => (⟨l.toArray⟩ : Str))) = ⟨(joinT a ys).toArray⟩
  | [] => rfl
  | [x] => rfl
  | x :: y :: r => by
    have ih := join_is a (y :: r)
    show (⟨x.toArray⟩ ++ ⟨a.toArray⟩ ++ Str.join ⟨a.toArray⟩ ((y :: r).map fun l => (⟨l.toArray⟩ : Str)) : Str) = ⟨(x ++ a ++ joinT a (y :: r)).toArray⟩
    rw [ih, str_app, str_app]
theorem mt_joinT : MtR X "str.join" (rJoin X.K) := by
  intro pins s σ H x xs v us Q I rx rs h
  obtain ⟨a, p, ys, rfl, rfl, hp, hz, q⟩ := h
  refine mt_join pins s σ H _ _ v us Q I rx rs ⟨⟨a.toArray⟩, p, ys.map fun l => (⟨l.toArray⟩ : Str), rfl, rfl, ?_, ?_, ?_⟩
  · rw [List.map_map]
    exact hp
  · rw [List.map_map, List.length_map, str_len]
    have e : ((fun x : Str => x.length) ∘ fun l : List Nat => (⟨l.toArray⟩ : Str)) = fun l : List Nat => l.length := by
      funext l
      exact str_len l
    rw [e]
    exact hz
  · rw [TL.join_eq, join_is]
    exact q
end
section
variable {X : Cx} {o e : Expr} {to te : TE}
theorem z_join {apos pos : Pos} (ho : PE X o to) (he : PE X e te) (hs : starEach [e] X.env = [(false, eval e X.env)] := by rfl) (hbase : attributeBase o "join" X.env (eval o X.env) = eval o X.env := by rfl) (hline : (apos.endLine == pos.line) = true := by rfl) :
    PE X (.Call (.Attribute o "join" apos) [e] [] pos) (tM1 (rJoin X.K) to te) :=
  pe_m1 PySem.F.slot_str_join PySem.F.type_str_join mt_joinT ho he hs hbase hline
end
section
variable {X : Cx} {o e : Expr} {to te : TE}
theorem cnt_is (c : Nat) : ∀ l : List Nat, cnt c l = (l.count c : Nat)
  | [] => rfl
  | n :: r => by
    rw [cnt_cons, cnt_is c r, List.count_cons]
    by_cases h : n = c
    · subst h; simp; omega
    · rw [if_neg h]; simp [h]
def rCount : V → List V → Hp → VK → Prop := fun x xs H Q => ∃ (l : List Nat) (c : Nat), x = T l ∧ xs = [T [c]] ∧ Q (.int (l.count c : Nat)) H
theorem mt_countT : MtR X "str.count" rCount := by
  intro pins s σ H x xs v us Q I rx rs h
  obtain ⟨l, c, rfl, rfl, q⟩ := h
  refine mt_count pins s σ H _ _ v us Q I rx rs ⟨⟨l.toArray⟩, ⟨#[c]⟩, rfl, rfl, ?_⟩
  rw [PyProof.Rows.count_cnt]
  show Q (.int (cnt c l.toArray.toList)) H
  have e : l.toArray.toList = l := by simp
  rw [e, cnt_is]
  exact q
theorem z_count {apos pos : Pos} (ho : PE X o to) (he : PE X e te) (hs : starEach [e] X.env = [(false, eval e X.env)] := by rfl) (hbase : attributeBase o "count" X.env (eval o X.env) = eval o X.env := by rfl) (hline : (apos.endLine == pos.line) = true := by rfl) :
    PE X (.Call (.Attribute o "count" apos) [e] [] pos) (tM1 rCount to te) :=
  pe_m1 PySem.F.slot_str_count PySem.F.type_str_count mt_countT ho he hs hbase hline
end
section
variable {X : Cx}
def rAbs : List V → Hp → VK → Prop := fun xs H Q => ∃ i : Int, xs = [.int i] ∧ Q (.int (if i < 0 then -i else i)) H
theorem z_abs : CallR X (.builtin "abs") rAbs := call_abs
def rMin2 : List V → Hp → VK → Prop := fun xs H Q => ∃ i j : Int, xs = [.int i, .int j] ∧ Q (.int (if j < i then j else i)) H
theorem z_min2 (hc : X.calm = true) : CallR X (.builtin "min") rMin2 := call_min2 hc
def rMax2 : List V → Hp → VK → Prop := fun xs H Q => ∃ i j : Int, xs = [.int i, .int j] ∧ Q (.int (if j > i then j else i)) H
theorem z_max2 (hc : X.calm = true) : CallR X (.builtin "max") rMax2 := call_max2 hc
def rDivmod : List V → Hp → VK → Prop := fun xs H Q => ∃ i j : Int, xs = [.int i, .int j] ∧ CDiv i j ∧ ∀ p, H p = none → Q (.ref p) (upd H p (.tup [.int (i / j), .int (i % j)]))
theorem z_divmod : CallR X (.builtin "divmod") rDivmod := call_divmod
theorem z_str_of : CallR X (.type "str") rStrI := z_str_i
end
section
variable {X : Cx} {a : Expr} {ta : TE}
def zTru (K : PySem.W.Frag) (Q : Bool → Hp → Prop) (x : V) (H : Hp) : Prop := ∃ k, TruV K x H k ∧ Q k H
def tTruth (K : PySem.W.Frag) (ta : TE) : TT := fun σ H Q => ta σ H (zTru K Q)
theorem z_truth (ha : PE X a ta) (he : ∀ whole, isTrue a X.env whole = (do let v ← whole; standAt a.pos; holding [v] (truthy v))) : PT X a (tTruth X.K ta) := pt_truth ha he
end
/-! ### enumerate of a text -/
/-- sign by sign, from k on, each in a new pair -/
def Itn (x : List Nat) (k : Int) : It :=
  ⟨fun i _ => i < x.length, fun i H v H' => ∃ (p : Addr) (c : Nat), v = .ref p ∧ H p = none ∧ H' = upd H p (.tup [.int (k + (i : Nat)), T [c]]) ∧ x[i]? = some c, fun i _ => i = x.length⟩
theorem turn_enumT {P : Program} {w : World} {K : PySem.W.Frag} {elts : List Expr} {kk : Nat} {tpos : Pos} (x : List Nat) (t : Tok) (k : Int) (e it : Addr) (ne : e ≠ it) :
    Turn P w K (.Tuple elts kk tpos) (Itn x k) [e, it] e (fun i h => (∃ old, IsEnum h e it (k + (i : Int)) old) ∧ h.IsStrIter it (strIterType ⟨x.toArray⟩) ⟨x.toArray⟩ t i) where
  mem := List.mem_cons_self
  obj := by
    rintro i h ⟨⟨old, he⟩, o, ho, hc, hd⟩ b hb
    rcases List.mem_cons.mp hb with z | z
    · rw [z]; exact ⟨_, he, fun v q => nomatch q⟩
    · rw [List.mem_singleton.mp z]; exact ⟨o, ho, fun v q => by rw [hd] at q; cases q⟩
  keep := by
    rintro i h h' ⟨⟨old, he⟩, o, ho, r⟩ kp
    exact ⟨⟨old, kp e (by simp) _ he⟩, o, kp it (by simp) o ho, r⟩
  item := by
    intro X hP hw hK hc i pins s σ H E I hf st hg
    subst hP hw hK
    have G := GoesN.enumFrom (prog := X.prog) (w := X.w) (A := X.A) (elts := elts) (x1 := kk) (pos := tpos) k
      (Draws.text (prog := X.prog) (w := X.w) (A := X.A.in1) (I.ok.hd hc) it ⟨x.toArray⟩ t) e ne (by simpa using ne) (by simp)
    have hg1 : i < x.length := hg
    have hi : i < (⟨x.toArray⟩ : Str).cps.size := by simpa using hg1
    refine wpAny_mono (G.goes i s (fun v s2 => ∃ x_1 H', Inv X pins σ H' s2 ∧ RelV x_1 v ∧ (Itn x k).yld i H x_1 H' ∧ ((∃ old, IsEnum s2.heap e it (k + ((i + 1 : Nat) : Int)) old) ∧ s2.heap.IsStrIter it (strIterType ⟨x.toArray⟩) ⟨x.toArray⟩ t (i + 1)) ∧ ∀ b ∈ [e, it], H' b = none) E hi st ?_) (fun r s1 q => q) fun _ _ q => q
    intro v h' tk y st' kp htk
    obtain ⟨p, tk1, xv, rfl, hp, ⟨c, u, hx, rfl⟩, o, ho, hcl, n, hd⟩ := y
    have hx' : x[i]? = some c := by simpa using hx
    have new : ObjOk X.prog X.w (upd H p (.tup [.int (k + (i : Nat)), T [c]])) h' p (.tup [.int (k + (i : Nat)), T [c]]) :=
      ⟨by show 2 ≤ sizeLine; decide, [.int (k + (i : Int)) tk1, .str ⟨#[c]⟩ u], .cons ⟨_, rfl⟩ (.cons ⟨_, rfl⟩ .nil), ⟨o, ho, hcl, n, hd⟩⟩
    have I1 := I.turnedNew (t' := tk) (ch := [e, it]) kp hf hp new
    refine ⟨.ref p, _, I1, rfl, ⟨p, c, rfl, I.hok.fresh hp, rfl, hx'⟩, st', ?_⟩
    intro b hb
    have old : b < s.heap.objs.size := by
      obtain ⟨⟨_, he⟩, o2, ho2, _⟩ := st
      rcases List.mem_cons.mp hb with z | z
      · rw [z]; exact Heap.lt_size he
      · rw [List.mem_singleton.mp z]; exact Heap.lt_size ho2
    rw [upd_ne (Nat.ne_of_lt (Nat.lt_of_lt_of_le old hp))]
    exact (hf b hb).1
  done := by
    intro X hP hw hK hc i pins s σ H E I hf st hg
    subst hP hw hK
    have G := GoesN.enumFrom (prog := X.prog) (w := X.w) (A := X.A) (elts := elts) (x1 := kk) (pos := tpos) k
      (Draws.text (prog := X.prog) (w := X.w) (A := X.A.in1) (I.ok.hd hc) it ⟨x.toArray⟩ t) e ne (by simpa using ne) (by simp)
    have hi : i = (⟨x.toArray⟩ : Str).cps.size := by
      have z : i = x.length := hg
      rw [z]; simp
    refine G.stops s (fun s1 => Inv X pins σ H s1) E (hi ▸ st) ?_
    intro h' tk kp _
    refine I.step (g' := s.gens) (d' := s.drawn) (ch := [e, it]) (fun b hb => ⟨(hf b hb).2.2.2.1, (hf b hb).2.1, (hf b hb).2.2.2.2.1, (hf b hb).2.2.2.2.2⟩) (fun b o _ _ hc q _ => kp b o hc q) (fun b o _ _ hc q _ => ⟨o.slots, kp b o hc q⟩)
      (fun _ _ _ _ n => n) (fun b o hc q => ⟨o, kp b o hc q⟩) (fun _ _ q => q) (fun _ _ _ q => q) (fun b ps q => ⟨#[], by rw [q]; simp⟩) ?_ ?_ I.bare
    · rintro m ⟨o, es, ep, ho, r⟩
      exact ⟨o, es, ep, kp _ o (fun z => (hf _ z).2.1 rfl) ho, r⟩
    · intro b u q
      have nb : ∀ c v, H c = some v → c ∉ [e, it] := fun c v z hc => by
        have := (hf c hc).1
        rw [z] at this
        cases this
      refine (I.hok b u q).stay (fun c v hc r => kp c v ?_ r) (fun _ z => z) fun _ _ z => z
      rcases hc with z | z
      · rw [z]; exact nb b u q
      · exact nb c _ z
  self := by
    rintro A i s Q E ⟨⟨_, he⟩, _⟩ h
    exact wpAny_pyIter_enum he h
def iEnumT (ta : TA) : TI := fun σ H R => ta σ H fun vs H1 => ∃ x : List Nat, vs = [T x] ∧ R (Itn x 0) H1
theorem z_enumS {X : Cx} {e : Expr} {ta : TA} {p pos tpos : Pos} {elts : List Expr} {kk : Nat} (hg : Gl X "enumerate") (hm : X.mg "enumerate" = none) (ha : PA X [e] ta) (hs : starEach [e] X.env = [(false, eval e X.env)] := by rfl) :
    PI X (.Tuple elts kk tpos) (.Call (.Name "enumerate" p) [e] [] pos) (iEnumT ta) := by
  constructor
  intro pins s σ H R I h
  refine Call_ (ld_blt I hg hm boot_enumerate (PyProof.Rows.callWith_type1 (thn (ha.run pos pins s σ H _ I h) ?_) hs rfl))
  rintro us s1 ⟨vs, H1, I1, r1, x, rfl, q⟩
  obtain ⟨u, rfl, t, rfl⟩ := vals1 r1
  refine call_enumerate_str fun h' he hit hsz hk => wpAny_pyIter_enum he ?_
  have I2 : Inv X pins σ H1 { s1 with heap := h' } := I1.kept (t' := s1.toks) hk
  refine ⟨s1.heap.objs.size + 1, [s1.heap.objs.size + 1, s1.heap.objs.size], _, _, H1, rfl, I2, turn_enumT x t 0 (s1.heap.objs.size + 1) s1.heap.objs.size (Nat.succ_ne_self _), ⟨⟨.none, he⟩, hit⟩, ?_, q⟩
  intro b hb
  have le : s1.heap.objs.size ≤ b := by
    rcases List.mem_cons.mp hb with z | z
    · rw [z]; exact Nat.le_succ _
    · rw [List.mem_singleton.mp z]; exact Nat.le_refl _
  exact I1.fpOk le (I1.hok.fresh le)
theorem walk_enumT {x : List Nat} {k : Int} : Walk (Itn x k) x.length (fun _ => True) (YPair (fun i => some (.int (k + (i : Nat)))) (fun i => (x[i]?).map fun c => T [c])) :=
  ⟨fun _ _ hi _ => hi, fun _ _ => rfl, fun i H v H' _ _ ⟨p, c, h1, h2, h3, h4⟩ => ⟨p, _, _, h1, h2, h3, rfl, by show Option.map _ x[i]? = _; rw [h4]; rfl⟩⟩
end Z
/-! Z, part F: loops and comprehensions. -/
namespace Z
open PySem PySem.Spec PyProof.Rows L2
section
variable {σ σ' : L2.St} {H : Hp} {D : Ends} {t u ts tb : TS} {te ta tc to : TE} {tt : TT} {tr : TA} {Q : VK} {K : PySem.W.Frag} {x y v : V} {i j : Nat} {a b p : Addr} {g : TG} {xs : List V}
/-- what a walked thing leaves to be shown -/
def zFor (g : TG) (tb : TS) (D : Ends) (σ : L2.St) (J : It) (H : Hp) : Prop :=
  ∃ W : Nat → Nat → L2.St → Hp → Prop, (∃ m, W 0 m σ H) ∧ ∀ i m σ H, W i m σ H →
    (J.stop i H ∧ D.nx σ H) ∨ (J.go i H ∧ ∃ N : L2.St → Hp → Prop, (∀ σ' H', N σ' H' → ∃ m', m' < m ∧ W (i + 1) m' σ' H') ∧ ∀ x H', J.yld i H x H' → g x σ H' fun σ2 H2 => tb { D with nx := N, ct := N, bk := D.nx } σ2 H2)
theorem for_ {wi : TI} (h : wi σ H (zFor g tb D σ)) : tFor wi g tb D σ H := h
theorem seq_for {wi : TI} (h : wi σ H (zFor g tb { D with nx := u D } σ)) : tSeq (tFor wi g tb) u D σ H := h
def zList (K : PySem.W.Frag) (R : It → Hp → Prop) (x : V) (H : Hp) : Prop := ∃ a, x = .ref a ∧ (∃ xs, SqL K H a xs) ∧ R (Itl K a) H
theorem ilist_ {R : It → Hp → Prop} (h : te σ H (zList K R)) : iList K te σ H R := h
theorem zlist_ {R : It → Hp → Prop} (e : H a = some (.lst xs)) (h : R (Itl K a) H) : zList K R (.ref a) H := ⟨a, rfl, ⟨xs, SqL.of e⟩, h⟩
theorem zlistQ_ {R : It → Hp → Prop} (e : SqL K H a xs) (h : R (Itl K a) H) : zList K R (.ref a) H := ⟨a, rfl, ⟨xs, e⟩, h⟩
def zTupI (K : PySem.W.Frag) (R : It → Hp → Prop) (x : V) (H : Hp) : Prop := ∃ a, x = .ref a ∧ (∃ xs, SqT K H a xs) ∧ R (Itt K a) H
theorem itup_ {R : It → Hp → Prop} (h : te σ H (zTupI K R)) : iTup K te σ H R := h
theorem ztupi_ {R : It → Hp → Prop} (e : H a = some (.tup xs)) (h : R (Itt K a) H) : zTupI K R (.ref a) H := ⟨a, rfl, ⟨xs, SqT.of e⟩, h⟩
def zStr (R : It → Hp → Prop) (x : V) (H : Hp) : Prop := ∃ z, x = .str z ∧ R (Its z) H
theorem istr_ {R : It → Hp → Prop} (h : te σ H (zStr R)) : iStr te σ H R := h
theorem zstr_ {R : It → Hp → Prop} {l : List Nat} (h : R (Its ⟨l.toArray⟩) H) : zStr R (T l) H := ⟨_, rfl, h⟩
def zRng1 (R : It → Hp → Prop) (vs : List V) (H : Hp) : Prop := ∃ j : Int, vs = [.int j] ∧ -(2 ^ 62) ≤ j ∧ j < 2 ^ 62 ∧ R (Itr 0 j.toNat) H
theorem irng1_ {R : It → Hp → Prop} (h : tr σ H (zRng1 R)) : iRng1 tr σ H R := h
theorem zrng1_ {R : It → Hp → Prop} {n : Int} (e1 : -4611686018427387904 ≤ n) (e2 : n < 4611686018427387904) (h : R (Itr 0 n.toNat) H) : zRng1 R [.int n] H := ⟨n, rfl, e1, e2, h⟩
def zRng2 (R : It → Hp → Prop) (vs : List V) (H : Hp) : Prop := ∃ i j : Int, vs = [.int i, .int j] ∧ (-(2 ^ 62) ≤ i ∧ i < 2 ^ 62 ∧ -(2 ^ 62) ≤ j ∧ j < 2 ^ 62) ∧ R (Itr i (j - i).toNat) H
theorem irng2_ {R : It → Hp → Prop} (h : tr σ H (zRng2 R)) : iRng2 tr σ H R := h
theorem zrng2_ {R : It → Hp → Prop} {n m : Int} (e1 : -4611686018427387904 ≤ n) (e2 : n < 4611686018427387904) (e3 : -4611686018427387904 ≤ m) (e4 : m < 4611686018427387904) (h : R (Itr n (m - n).toNat) H) : zRng2 R [.int n, .int m] H := ⟨n, m, rfl, ⟨e1, e2, e3, e4⟩, h⟩
def zEnT (R : It → Hp → Prop) (vs : List V) (H : Hp) : Prop := ∃ x : List Nat, vs = [T x] ∧ R (Itn x 0) H
theorem ient_ {R : It → Hp → Prop} (h : tr σ H (zEnT R)) : iEnumT tr σ H R := h
theorem zent_ {R : It → Hp → Prop} {l : List Nat} (h : R (Itn l 0) H) : zEnT R [T l] H := ⟨l, rfl, h⟩
/-- a for, by its invariant -/
theorem forZ {J : It} {n : Nat} {G : Hp → Prop} {Y : Nat → Hp → V → Hp → Prop} (w : Walk J n G Y) (Pv : Nat → L2.St → Hp → Prop) (h0 : Pv 0 σ H) (hG : ∀ i σ H, i ≤ n → Pv i σ H → G H)
    (hs : ∀ i x σ H H', i < n → Pv i σ H → Y i H x H' → g x σ H' fun σ2 H2 => tb { D with nx := Pv (i + 1), ct := Pv (i + 1), bk := D.nx } σ2 H2) (hd : ∀ σ H, Pv n σ H → D.nx σ H) : zFor g tb D σ J H :=
  for_it w Pv h0 hG hs hd
/-- over a text -/
theorem forT {l : List Nat} (Pv : Nat → L2.St → Hp → Prop) (h0 : Pv 0 σ H)
    (hs : ∀ (i : Nat) (c : Nat) σ H, l[i]? = some c → Pv i σ H → tb { D with nx := Pv (i + 1), ct := Pv (i + 1), bk := D.nx } (List.set σ j (some (T [c]))) H) (hd : ∀ σ H, Pv l.length σ H → D.nx σ H) :
    zFor (gName j) tb D σ (Its ⟨l.toArray⟩) H := by
  have w : Walk (Its (⟨l.toArray⟩ : Str)) l.length (fun _ => True) (fun i H v H' => H' = H ∧ ∃ c, l[i]? = some c ∧ v = T [c]) := by
    have := walk_str (z := (⟨l.toArray⟩ : Str))
    simpa using this
  refine forZ w Pv h0 (fun _ _ _ _ _ => trivial) ?_ hd
  rintro i x σ H _ hi p ⟨rfl, c, hc, rfl⟩
  exact hs i c σ _ hc p
/-- over numbers -/
theorem forR {lo : Int} {n : Nat} (Pv : Nat → L2.St → Hp → Prop) (h0 : Pv 0 σ H)
    (hs : ∀ (i : Nat) σ H, i < n → Pv i σ H → tb { D with nx := Pv (i + 1), ct := Pv (i + 1), bk := D.nx } (List.set σ j (some (.int (lo + i)))) H) (hd : ∀ σ H, Pv n σ H → D.nx σ H) :
    zFor (gName j) tb D σ (Itr lo n) H := by
  refine forZ walk_range Pv h0 (fun _ _ _ _ _ => trivial) ?_ hd
  rintro i x σ H _ hi p ⟨rfl, rfl⟩
  exact hs i σ _ hi p
/-- over a list that stands still -/
theorem forL {xs : List V} (Pv : Nat → L2.St → Hp → Prop) (h0 : Pv 0 σ H) (hl : ∀ i σ H, i ≤ xs.length → Pv i σ H → SqL K H a xs)
    (hs : ∀ (i : Nat) (x : V) σ H, xs[i]? = some x → Pv i σ H → tb { D with nx := Pv (i + 1), ct := Pv (i + 1), bk := D.nx } (List.set σ j (some x)) H) (hd : ∀ σ H, Pv xs.length σ H → D.nx σ H) :
    zFor (gName j) tb D σ (Itl K a) H := by
  refine forZ walk_list Pv h0 hl ?_ hd
  rintro i x σ H _ hi p ⟨rfl, hx⟩
  exact hs i x σ _ hx p
/-- over the signs of a text with their places; the pair is taken apart at once -/
theorem forEnT {l : List Nat} {n : Int} {i1 i2 : Nat} (Pv : Nat → L2.St → Hp → Prop) (h0 : Pv 0 σ H)
    (hs : ∀ (i : Nat) (c : Nat) σ H H', l[i]? = some c → Pv i σ H → Ex H H' → tb { D with nx := Pv (i + 1), ct := Pv (i + 1), bk := D.nx } (List.set (List.set σ i1 (some (.int (n + i)))) i2 (some (T [c]))) H') (hd : ∀ σ H, Pv l.length σ H → D.nx σ H) :
    zFor (gTup K 2 (gCons (gName i1) (gCons (gName i2) gNil))) tb D σ (Itn l n) H := by
  refine forZ walk_enumT Pv h0 (fun _ _ _ _ _ => trivial) ?_ hd
  rintro i x σ H H' hi p ⟨q, a1, a2, rfl, hq, rfl, e1, e⟩
  obtain rfl : V.int (n + (i : Nat)) = a1 := Option.some.inj e1
  obtain ⟨c, hc, rfl⟩ := Option.map_eq_some_iff.mp e
  exact ⟨q, _, rfl, SqT.of upd_same, rfl, _, _, rfl, _, _, rfl, rfl, hs i c σ H _ hc p (Ex.new hq)⟩
/-- a while, by an invariant with a measure -/
def less (Pv : Nat → L2.St → Hp → Prop) (m : Nat) : L2.St → Hp → Prop := fun σ' H' => ∃ m', m' < m ∧ Pv m' σ' H'
def zWh (tb : TS) (D : Ends) (Pv : Nat → L2.St → Hp → Prop) (m : Nat) (σ : L2.St) (c : Bool) (H : Hp) : Prop :=
  if c = true then ∃ N : L2.St → Hp → Prop, (∀ σ' H', N σ' H' → ∃ m', m' < m ∧ Pv m' σ' H') ∧ tb { D with nx := N, ct := N, bk := D.nx } σ H else D.nx σ H
theorem while_ (Pv : Nat → L2.St → Hp → Prop) (m0 : Nat) (h0 : Pv m0 σ H) (hs : ∀ m σ H, Pv m σ H → tt σ H (zWh tb D Pv m σ)) : tWhile tt tb D σ H :=
  ⟨Pv, ⟨m0, h0⟩, hs⟩
theorem seq_while (Pv : Nat → L2.St → Hp → Prop) (m0 : Nat) (h0 : Pv m0 σ H) (hs : ∀ m σ H, Pv m σ H → tt σ H (zWh tb { D with nx := u D } Pv m σ)) : tSeq (tWhile tt tb) u D σ H := while_ (D := { D with nx := u D }) Pv m0 h0 hs
theorem zwh_d {Pv : Nat → L2.St → Hp → Prop} {m : Nat} {q : Prop} [Decidable q] (h1 : q → tb { D with nx := less Pv m, ct := less Pv m, bk := D.nx } σ H) (h2 : ¬ q → D.nx σ H) : zWh tb D Pv m σ (decide q) H := by
  unfold zWh
  by_cases h : q
  · rw [decide_eq_true h, if_pos rfl]; exact ⟨_, fun _ _ z => z, h1 h⟩
  · rw [decide_eq_false h, if_neg Bool.false_ne_true]; exact h2 h
theorem zwh_b {Pv : Nat → L2.St → Hp → Prop} {m : Nat} {k : Bool} (h1 : k = true → tb { D with nx := less Pv m, ct := less Pv m, bk := D.nx } σ H) (h2 : k = false → D.nx σ H) : zWh tb D Pv m σ k H := by
  unfold zWh
  cases k with
  | true => exact ⟨_, fun _ _ z => z, h1 rfl⟩
  | false => exact h2 rfl
theorem less_ {Pv : Nat → L2.St → Hp → Prop} {m : Nat} (m' : Nat) (l : m' < m) (p : Pv m' σ H) : less Pv m σ H := ⟨m', l, p⟩
/-! ### tuples taken apart, stores -/
theorem seq_asgG (h : te σ H fun x H1 => g x σ H1 fun σ1 H2 => u D σ1 H2) : tSeq (tAsg te g) u D σ H := h
theorem asgG_ (h : te σ H fun x H1 => g x σ H1 D.nx) : tAsg te g D σ H := h
theorem gname_ {Q : L2.St → Hp → Prop} (h : Q (List.set σ j (some v)) H) : gName j v σ H Q := h
theorem gtup_ {n : Nat} {tg : TGs} {Q : L2.St → Hp → Prop} (e : H a = some (.tup xs)) (l : xs.length = n) (h : tg xs σ H Q) : gTup K n tg (.ref a) σ H Q := ⟨a, xs, rfl, SqT.of e, l, h⟩
theorem gcons_ {tg : TGs} {Q : L2.St → Hp → Prop} (h : g v σ H fun σ' H' => tg xs σ' H' Q) : gCons g tg (v :: xs) σ H Q := ⟨v, xs, rfl, h⟩
theorem gnil_ {Q : L2.St → Hp → Prop} (h : Q σ H) : gNil [] σ H Q := ⟨rfl, h⟩
theorem gsub_ {s : TSet} {Q : L2.St → Hp → Prop} (h : to σ H fun o H1 => ta σ H1 fun i H2 => s o i v H2 fun H3 => Q σ H3) : gSub to ta s v σ H Q := h
theorem setL_ {Q : Hp → Prop} {k : Int} {n : Nat} (e : H a = some (.lst xs)) (e2 : ixN xs.length k = some n) (h : ∀ H', H' a = some (.lst (xs.set n v)) → But a H H' → Q H') : rSetL (.ref a) (.int k) v H Q :=
  ⟨a, xs, k, n, rfl, rfl, e, e2, h _ upd_same But.upd⟩
def zPar (i j : Nat) (σ : L2.St) (Q : L2.St → Hp → Prop) (vs : List V) (H : Hp) : Prop := ∃ v w, vs = [v, w] ∧ Q (List.set (List.set σ i (some v)) j (some w)) H
theorem seq_par (h : tr σ H (zPar i j σ (u D))) : tSeq (tPar i j tr) u D σ H := h
theorem par_ (h : tr σ H (zPar i j σ D.nx)) : tPar i j tr D σ H := h
theorem zpar_ {Q : L2.St → Hp → Prop} {v w : V} (h : Q (List.set (List.set σ i (some v)) j (some w)) H) : zPar i j σ Q [v, w] H := ⟨v, w, rfl, h⟩
theorem seq_aug {ti : TIp} (e : σ[i]? = some (some x)) (h : te σ H fun y H1 => ti x y H1 fun z H2 => u D (List.set σ i (some z)) H2) : tSeq (tAug i te ti) u D σ H := ⟨x, e, h⟩
theorem aug_ {ti : TIp} (e : σ[i]? = some (some x)) (h : te σ H fun y H1 => ti x y H1 fun z H2 => D.nx (List.set σ i (some z)) H2) : tAug i te ti D σ H := ⟨x, e, h⟩
theorem augS_ {tg : V → V → Hp → VK → Prop} {ti : TIp} {s : TSet} (h : to σ H fun o H1 => ta σ H1 fun i H2 => tg o i H2 fun x H3 => te σ H3 fun y H4 => ti x y H4 fun z H5 => s o i z H5 fun H6 => D.nx σ H6) : tAugS to ta te tg ti s D σ H := h
theorem getL_ {k : Int} (e : H a = some (.lst xs)) (e2 : atI xs k = some v) (h : Q v H) : gList K (.ref a) (.int k) H Q := ⟨a, xs, k, v, rfl, rfl, SqL.of e, e2, h⟩
theorem iaddI {n m : Int} (h : Q (.int (n + m)) H) : pAddZ (.int n) (.int m) H Q := .inl ⟨n, m, rfl, rfl, h⟩
theorem iaddS {l m : List Nat} (e : l.length + m.length ≤ 16777216) (h : Q (T (l ++ m)) H) : pAddZ (T l) (T m) H Q := .inr ⟨l, m, rfl, rfl, e, h⟩
theorem isubI {n m : Int} (h : Q (.int (n - m)) H) : pSubZ (.int n) (.int m) H Q := ⟨n, m, rfl, rfl, h⟩
/-! ### methods and calls of the language -/
def zBM (K : PySem.W.Frag) (s : String) (r : V → List V → Hp → VK → Prop) (tr : TA) (σ : L2.St) (Q : VK) (x : V) (H : Hp) : Prop := tyV K s x H ∧ tr σ H fun xs H2 => r x xs H2 Q
theorem bm_ {s : String} {r : V → List V → Hp → VK → Prop} (h : to σ H (zBM K s r tr σ Q)) : tBM K s r to tr σ H Q := h
theorem zbmL_ {r : V → List V → Hp → VK → Prop} (e : H a = some (.lst xs)) (h : tr σ H fun ys H2 => r (.ref a) ys H2 Q) : zBM K "list" r tr σ Q (.ref a) H := ⟨.inl ⟨rfl, _, SqL.of e⟩, h⟩
theorem append_ (e : H a = some (.lst xs)) (l : xs.length < 16777216) (h : ∀ H', H' a = some (.lst (xs ++ [v])) → But a H H' → Q .non H') : rAppend (.ref a) [v] H Q :=
  ⟨a, xs, v, rfl, rfl, e, by rw [sz_eq]; exact l, h _ upd_same But.upd⟩
def zM1 (r : V → List V → Hp → VK → Prop) (te : TE) (σ : L2.St) (Q : VK) (x : V) (H : Hp) : Prop := (∃ a, x = .str a) ∧ te σ H fun y H2 => r x [y] H2 Q
theorem m1_ {r : V → List V → Hp → VK → Prop} (h : to σ H (zM1 r te σ Q)) : tM1 r to te σ H Q := h
theorem zm1_ {r : V → List V → Hp → VK → Prop} {l : List Nat} (h : te σ H fun y H2 => r (T l) [y] H2 Q) : zM1 r te σ Q (T l) H := ⟨⟨_, rfl⟩, h⟩
theorem join_ {l : List Nat} {ys : List (List Nat)} (e : H a = some (.lst (ys.map T))) (e2 : (ys.map (·.length)).sum + ys.length * l.length ≤ 16777216) (h : Q (T (joinT l ys)) H) : rJoin K (T l) [.ref a] H Q :=
  ⟨l, a, ys, rfl, rfl, .inl (SqL.of e), e2, h⟩
theorem count_ {l : List Nat} {c : Nat} (h : Q (.int (l.count c : Nat)) H) : rCount (T l) [T [c]] H Q := ⟨l, c, rfl, rfl, h⟩
theorem strI_ {n : Int} (e1 : -18446744073709551616 < n) (e2 : n < 18446744073709551616) (h : Q (T (intL n)) H) : rStrI [.int n] H Q := ⟨n, rfl, e1, e2, h⟩
theorem divmod_ {n m : Int} (e1 : 0 < m) (e2 : m < 1073741824) (h : ∀ p H', H p = none → Ex H H' → H' p = some (.tup [.int (n / m), .int (n % m)]) → Q (.ref p) H') : rDivmod [.int n, .int m] H Q := ⟨n, m, rfl, ⟨e1, e2⟩, new_ h⟩
theorem abs_ {n : Int} (h : Q (.int (if n < 0 then -n else n)) H) : rAbs [.int n] H Q := ⟨n, rfl, h⟩
theorem min2_ {n m : Int} (h : Q (.int (if m < n then m else n)) H) : rMin2 [.int n, .int m] H Q := ⟨n, m, rfl, h⟩
theorem max2_ {n m : Int} (h : Q (.int (if m > n then m else n)) H) : rMax2 [.int n, .int m] H Q := ⟨n, m, rfl, h⟩
theorem nx_ {N : L2.St → Hp → Prop} (e : D.nx = N) (h : N σ H) : D.nx σ H := e ▸ h
theorem rt_ {R : VK} (e : D.rt = R) (h : R v H) : D.rt v H := e ▸ h
theorem bk_ {N : L2.St → Hp → Prop} (e : D.bk = N) (h : N σ H) : D.bk σ H := e ▸ h
theorem ct_ {N : L2.St → Hp → Prop} (e : D.ct = N) (h : N σ H) : D.ct σ H := e ▸ h
theorem brk_ (h : D.bk σ H) : tBreak D σ H := h
theorem cont_ (h : D.ct σ H) : tCont D σ H := h
theorem cut_ (M : L2.St → Hp → Prop) (h : t { D with nx := M } σ H) (k : ∀ σ' H', M σ' H' → u D σ' H') : Evl.tCut t u D σ H := ⟨M, h, k⟩
theorem cutSeq_ (h : t { D with nx := u D } σ H) : Evl.tCut t u D σ H := ⟨u D, h, fun _ _ z => z⟩
theorem repr_ {d : PyData} {n : Nat} (e1 : Dp K H x d) (e2 : Rp d n 40) (e3 : n ≤ 16777216) (h : Q (T (shownL d)) H) : rRepr K [x] H Q := ⟨x, d, n, rfl, e1, e2, e3, h⟩
theorem truth_ {R : Bool → Hp → Prop} (h : te σ H (zTru K R)) : tTruth K te σ H R := h
theorem ztru_b {R : Bool → Hp → Prop} {k : Bool} (h : R k H) : zTru K R (.bl k) H := ⟨k, rfl, h⟩
theorem ztru_S {R : Bool → Hp → Prop} {l : List Nat} (e : l.length ≤ 16777216) (h : R (decide (l ≠ [])) H) : zTru K R (T l) H := by
  refine ⟨_, ⟨by rw [str_len, sz_eq]; exact e, ?_⟩, h⟩
  rw [str_len]
  cases l <;> simp
  omega
def zOrT (K : PySem.W.Frag) (tb : TE) (σ : L2.St) (Q : VK) (x : V) (H : Hp) : Prop := ∃ k, TruV K x H k ∧ if k = true then Q x H else tb σ H Q
theorem orT_ {tb : TE} (h : ta σ H (zOrT K tb σ Q)) : tOrT K ta tb σ H Q := h
theorem zorT_S {tb : TE} {l : List Nat} (e : l.length ≤ 16777216) (h1 : l ≠ [] → Q (T l) H) (h2 : l = [] → tb σ H Q) : zOrT K tb σ Q (T l) H := by
  refine ⟨decide (l ≠ []), ⟨by rw [str_len, sz_eq]; exact e, ?_⟩, ?_⟩
  · rw [str_len]
    cases l <;> simp
    omega
  · by_cases h : l = []
    · rw [decide_eq_false (fun z => z h)]; exact h2 h
    · rw [decide_eq_true h]; exact h1 h
inductive RpAll (n k : Nat) : List PyData → Prop
  | nil : RpAll n k []
  | cons {d : PyData} {ds : List PyData} {m j : Nat} (h : Rp d m j) (hm : m ≤ n) (hj : j ≤ k) (r : RpAll n k ds) : RpAll n k (d :: ds)
theorem RpAll.mem {n k : Nat} {ds : List PyData} (h : RpAll n k ds) : ∀ d ∈ ds, Rp d n k := by
  induction h with
  | nil => intro d hd; cases hd
  | cons h hm hj _ ih =>
    intro d hd
    rcases List.mem_cons.mp hd with z | z
    · rw [z]; exact .more h hm hj
    · exact ih d z
/-! ### comprehensions -/
def zLc (g : TG) (tt : TT) (te : TE) (vs : List Nat) (σ : L2.St) (Q : VK) (J : It) (H1 : Hp) : Prop := ∀ D, H1 D = none → ∃ W : Nat → Nat → Hp → Prop, (∃ m, W 0 m (upd H1 D (.lst []))) ∧ ∀ i m H, W i m H →
  (J.stop i H ∧ Q (.ref D) H) ∨ (J.go i H ∧ ∃ Nx : Hp → Prop, (∀ H', Nx H' → ∃ m', m' < m ∧ W (i + 1) m' H') ∧ ∀ x H', J.yld i H x H' → g x (wipe σ vs) H' fun σ2 H2 => wipe σ2 vs = wipe σ vs ∧ tt σ2 H2 fun b H3 =>
    if b = true then te σ2 H3 fun y H4 => ∃ acc, H4 D = some (.lst acc) ∧ acc.length < sizeLine ∧ Nx (upd H4 D (.lst (acc ++ [y]))) else Nx H3)
theorem lc_ {wi : TI} {vs : List Nat} (h : wi σ H (zLc g tt te vs σ Q)) : tLc wi g tt te vs σ H Q := h
def zPut1 (D : Addr) (N : Hp → Prop) (y : V) (H : Hp) : Prop := ∃ acc, H D = some (.lst acc) ∧ acc.length < sizeLine ∧ N (upd H D (.lst (acc ++ [y])))
def zPut (te : TE) (D : Addr) (N : Hp → Prop) (σ : L2.St) (b : Bool) (H : Hp) : Prop := if b = true then te σ H (zPut1 D N) else N H
theorem zput_t {D : Addr} {N : Hp → Prop} (h : te σ H (zPut1 D N)) : zPut te D N σ true H := h
theorem zput_d {D : Addr} {N : Hp → Prop} {q : Prop} [Decidable q] (h1 : q → te σ H (zPut1 D N)) (h2 : ¬ q → N H) : zPut te D N σ (decide q) H := by
  unfold zPut
  by_cases h : q
  · rw [decide_eq_true h, if_pos rfl]; exact h1 h
  · rw [decide_eq_false h, if_neg Bool.false_ne_true]; exact h2 h
theorem zput_n {D : Addr} {N : Hp → Prop} {q : Prop} [Decidable q] (h1 : ¬ q → te σ H (zPut1 D N)) (h2 : q → N H) : zPut te D N σ (!decide q) H := by
  unfold zPut
  by_cases h : q
  · rw [decide_eq_true h]; exact h2 h
  · rw [decide_eq_false h]; exact h1 h
theorem zput_b {D : Addr} {N : Hp → Prop} {k : Bool} (h1 : k = true → te σ H (zPut1 D N)) (h2 : k = false → N H) : zPut te D N σ k H := by
  unfold zPut
  cases k with
  | true => exact h1 rfl
  | false => exact h2 rfl
theorem zput1_ {D : Addr} {N : Hp → Prop} {acc : List V} (e : H D = some (.lst acc)) (l : acc.length < 16777216) (h : ∀ H', H' D = some (.lst (acc ++ [y])) → But D H H' → N H') : zPut1 D N y H :=
  ⟨acc, e, by rw [sz_eq]; exact l, h _ upd_same But.upd⟩
theorem tyes_ {R : Bool → Hp → Prop} (h : R true H) : tYes σ H R := h
/-- a comprehension, by an invariant -/
theorem lcW {J : It} {n : Nat} {G : Hp → Prop} {Y : Nat → Hp → V → Hp → Prop} {vs : List Nat} (w : Walk J n G Y) (Pv : Addr → Nat → Hp → Prop)
    (h0 : ∀ D H1, H D = none → Ex H H1 → H1 D = some (.lst []) → Pv D 0 H1) (hG : ∀ D i H', i ≤ n → Pv D i H' → G H')
    (hs : ∀ D i x H1 H2, H D = none → i < n → Pv D i H1 → Y i H1 x H2 → g x (wipe σ vs) H2 fun σ2 H3 => wipe σ2 vs = wipe σ vs ∧ tt σ2 H3 (zPut te D (Pv D (i + 1)) σ2))
    (hd : ∀ D H1, H D = none → Pv D n H1 → Q (.ref D) H1) : zLc g tt te vs σ Q J H := by
  intro D hD
  exact lc_it w (Pv D) (h0 D _ hD (Ex.new hD) upd_same) (hG D) (fun i x H1 H2 hi p y => hs D i x H1 H2 hD hi p y) (hd D · hD)
/-- each item gives the item of ys; what stood stands -/
structure Lm (H : Hp) (ys : List V) (D : Addr) (i : Nat) (H' : Hp) : Prop where
  ex : Ex H H'
  at_ : H' D = some (.lst (ys.take i))
theorem lm_put {H H' H4 : Hp} {ys : List V} {D : Addr} {i : Nat} {y : V} (hD : H D = none) (m : Lm H ys D i H') (e : Ex H' H4) (hy : ys[i]? = some y) (l : ys.length < 16777216) : zPut1 D (Lm H ys D (i + 1)) y H4 := by
  have hi : i < ys.length := (List.getElem?_eq_some_iff.mp hy).1
  refine zput1_ (e.at_ m.at_) (by rw [List.length_take]; omega) fun H5 h5 b => ⟨?_, ?_⟩
  · exact But.ex b (m.ex.trans e) hD
  · rw [h5, List.take_succ, hy]; rfl
/-- over a list, each item by itself -/
theorem lcL {xs ys : List V} {vs : List Nat} (hx : SqL K H a xs) (hn : ys.length = xs.length) (hz : ys.length < 16777216) (hw : ∀ x, wipe (List.set (wipe σ vs) j (some x)) vs = wipe σ vs)
    (hs : ∀ (D : Addr) (i : Nat) (x : V) H1, H D = none → xs[i]? = some x → Lm H ys D i H1 → te (List.set (wipe σ vs) j (some x)) H1 (zPut1 D (Lm H ys D (i + 1))))
    (hd : ∀ D H1, H D = none → Ex H H1 → H1 D = some (.lst ys) → Q (.ref D) H1) : zLc (gName j) tYes te vs σ Q (Itl K a) H := by
  refine lcW walk_list (Lm H ys) (fun D H1 hD e h => ⟨e, by rw [h]; simp⟩) (fun D i H' _ m => m.ex.seqL hx) ?_ ?_
  · rintro D i x H1 _ hD hi m ⟨rfl, hx⟩
    exact ⟨hw x, hs D i x _ hD hx m⟩
  · intro D H1 hD m
    refine hd D H1 hD m.ex ?_
    rw [m.at_, ← hn, List.take_length]
theorem lcT {l : List Nat} {ys : List V} {vs : List Nat} (hn : ys.length = l.length) (hz : ys.length < 16777216) (hw : ∀ x, wipe (List.set (wipe σ vs) j (some x)) vs = wipe σ vs)
    (hs : ∀ (D : Addr) (i : Nat) (c : Nat) H1, H D = none → l[i]? = some c → Lm H ys D i H1 → te (List.set (wipe σ vs) j (some (T [c]))) H1 (zPut1 D (Lm H ys D (i + 1))))
    (hd : ∀ D H1, H D = none → Ex H H1 → H1 D = some (.lst ys) → Q (.ref D) H1) : zLc (gName j) tYes te vs σ Q (Its ⟨l.toArray⟩) H := by
  have w : Walk (Its (⟨l.toArray⟩ : Str)) l.length (fun _ => True) (fun i H v H' => H' = H ∧ ∃ c, l[i]? = some c ∧ v = T [c]) := by
    have := walk_str (z := (⟨l.toArray⟩ : Str))
    simpa using this
  refine lcW w (Lm H ys) (fun D H1 hD e h => ⟨e, by rw [h]; simp⟩) (fun D i H' _ m => trivial) ?_ ?_
  · rintro D i x H1 _ hD hi m ⟨rfl, c, hc, rfl⟩
    exact ⟨hw _, hs D i c _ hD hc m⟩
  · intro D H1 hD m
    refine hd D H1 hD m.ex ?_
    rw [m.at_, ← hn, List.take_length]
end
end Z
/-! Z, part G: texts turned about, least and greatest, int of a sign; what is never reached. -/
namespace Z
open PySem PySem.Spec PyProof.Rows L2
section
variable {X : Cx}
/-! ### text[::-1] -/
theorem pick_rev (l : List Nat) : ((Builtin.Str.strSliceIndices none none (-1) l.length).filterMap (l.toArray[·]?)).toArray = l.reverse.toArray := by
  have e : Builtin.Str.strSliceIndices none none (-1) l.length = sliceRange ((l.length : Int) - 1) (-1) (-1) := rfl
  rw [e, PySem.W.krv_sliceRange, PySem.W.krv_range, List.filterMap_reverse]
  have := PySem.W.krv_all l.toArray
  rw [List.size_toArray] at this
  rw [this]
def zRevS (Q : VK) (x : V) (H : Hp) : Prop := ∃ l : List Nat, x = T l ∧ l.length ≤ sz ∧ Q (T l.reverse) H
def tRevS (te : TE) : TE := fun σ H Q => te σ H (zRevS Q)
theorem z_revS {e : Expr} {te : TE} {k : Nat} {p1 p2 p3 pos : Pos} (he : PE X e te) : PE X (.Subscript e (.Slice none none (some (.UnaryOp .USub (.Constant (.int 1) k p1) p2)) p3) pos) (tRevS te) := by
  refine ⟨fun pins s σ H Q I h => ?_⟩
  refine Subscript_ (thn (he.run pins s σ H _ I h) fun v s1 ⟨x, H1, I1, r1, q1⟩ => ?_)
  obtain ⟨l, rfl, hz, q⟩ := q1
  obtain ⟨t, rfl⟩ := r1
  have hst : PO X (some (.UnaryOp .USub (.Constant (.int 1) k p1) p2)) (tPart (tUn (rU fun i => .int (-i)) (tC (.int 1)))) := po_some (pe_un un_neg pe_int)
  refine wpAny_Slice (thn (po_none.run pins s1 σ H1 (fun o H2 => o = none ∧ H2 = H1) I1 ⟨rfl, rfl⟩) fun vl s2 ⟨l', H2, I2, pl, el, e2⟩ => ?_)
  subst el e2
  refine thn (po_none.run pins s2 σ H2 (fun o H3 => o = none ∧ H3 = H2) I2 ⟨rfl, rfl⟩) fun vu s3 ⟨u, H3, I3, pu, eu, e3⟩ => ?_
  subst eu e3
  refine thn (hst.run pins s3 σ H3 (fun o H4 => o = some (-1) ∧ H4 = H3) I3 ⟨1, rfl, -1, rfl, rfl, rfl⟩) fun vs s4 ⟨o, H4, I4, ps, eo, e4⟩ => ?_
  subst eo e4
  have I5 : Inv X pins σ H4 { s4 with heap := s4.heap.push { cls := .type "slice", data := .fields #[vl, vu, vs] } } := I4.kept (t' := s4.toks) fun b ob q => Heap.get?_push_of_some _ q
  obtain ⟨ol, rfl, hol⟩ := IsPart.raw pl
  obtain ⟨ou, rfl, hou⟩ := IsPart.raw pu
  obtain ⟨os, rfl, hos⟩ := IsPart.raw ps
  have h1 : ol = none := Option.map_eq_none_iff.mp hol
  have h2 : ou = none := Option.map_eq_none_iff.mp hou
  subst h1 h2
  obtain ⟨⟨j, tj⟩, rfl, rfl⟩ := Option.map_eq_some_iff.mp hos
  show wpAny (model X.prog X.w) X.A (subscriptTail e (.Slice none none (some (.UnaryOp .USub (.Constant (.int 1) k p1) p2)) p3) (.str ⟨l.toArray⟩ t) (.ref s4.heap.objs.size)) (EP X pins σ Q) X.xe _
  refine tail_any (ops := [.ref s4.heap.objs.size, .str ⟨l.toArray⟩ t]) (typeIs_str _ _ _) (F.slot_str_getitem.lookup) ?_ (by with_unfolding_all rfl)
  refine wpAny_getItem_str_slice (l := none) (u := none) (st := some (-1, tj)) ⟨_, Heap.get?_push_size _ rfl, rfl, rfl⟩ rfl ?_
  show (Made.str ⟨((Builtin.Str.strSliceIndices none none (-1) (⟨l.toArray⟩ : Str).length).filterMap ((⟨l.toArray⟩ : Str).cps[·]?)).toArray⟩).post (EP X pins σ Q) _
  have e : (Builtin.Str.strSliceIndices none none (-1) (⟨l.toArray⟩ : Str).length).filterMap ((⟨l.toArray⟩ : Str).cps[·]?) = l.reverse := by
    have := congrArg Array.toList (pick_rev l)
    rw [str_len]
    exact this
  rw [e]
  refine ⟨?_, T l.reverse, H4, I5.tok _, ⟨_, rfl⟩, q⟩
  rw [str_len, List.length_reverse, sz_eq]
  exact hz
/-! ### min, max of a list -/
theorem z_min1 (hc : X.calm = true) : CallR X (.builtin "min") (rMin X.K) := cr_min hc
theorem z_max1 (hc : X.calm = true) : CallR X (.builtin "max") (rMax X.K) := cr_max hc
/-! ### int(..) -/
def rIntZ : List V → Hp → VK → Prop := fun xs H Q => (∃ i, xs = [.int i] ∧ Q (.int i) H) ∨ (∃ k, xs = [.bl k] ∧ Q (.int (if k then 1 else 0)) H) ∨ ∃ c, xs = [T [c]] ∧ (c = 48 ∨ c = 49) ∧ Q (.int ((c : Int) - 48)) H
theorem z_int_of : CallR X (.type "int") rIntZ := by
  intro pins s σ H xs us Q I rs q
  rcases q with q | q | ⟨c, rfl, hc, q⟩
  · exact call_int1 pins s σ H xs us Q I rs (.inl q)
  · exact call_int1 pins s σ H xs us Q I rs (.inr q)
  · refine call_int_str pins s σ H _ us Q I rs ⟨_, _, rfl, ?_, ?_, q⟩
    · rcases hc with rfl | rfl
      · decide +kernel
      · decide +kernel
    · rw [str_len]; simp
end
section
variable {σ σ' : L2.St} {H : Hp} {D : Ends} {Q : VK} {K : PySem.W.Frag} {a b p : Addr} {te : TE} {xs ys : List V}
def zPar3 (i j l : Nat) (σ : L2.St) (Q : L2.St → Hp → Prop) (vs : List V) (H : Hp) : Prop := ∃ u v w, vs = [u, v, w] ∧ Q (List.set (List.set (List.set σ i (some u)) j (some v)) l (some w)) H
theorem seq_par3 {i j l : Nat} {tr : TA} {u : TS} (h : tr σ H (zPar3 i j l σ (u D))) : tSeq (tPar3 i j l tr) u D σ H := h
theorem par3_ {i j l : Nat} {tr : TA} (h : tr σ H (zPar3 i j l σ D.nx)) : tPar3 i j l tr D σ H := h
theorem zpar3_ {i j l : Nat} {Q : L2.St → Hp → Prop} {u v w : V} (h : Q (List.set (List.set (List.set σ i (some u)) j (some v)) l (some w)) H) : zPar3 i j l σ Q [u, v, w] H := ⟨u, v, w, rfl, h⟩
theorem revS_ (h : te σ H (zRevS Q)) : tRevS te σ H Q := h
theorem zrevS_ {l : List Nat} (e : l.length ≤ 16777216) (h : Q (T l.reverse) H) : zRevS Q (T l) H := ⟨l, rfl, e, h⟩
theorem min1_ {ns : List Int} (e : H a = some (.lst (ns.map V.int))) (l : 0 < ns.length) (h : ∀ m, m ∈ ns → (∀ y ∈ ns, m ≤ y) → Q (.int m) H) : rMin K [.ref a] H Q := ⟨a, ns, rfl, SqL.of e, l, fun m h1 h2 => h m h1 h2⟩
theorem max1_ {ns : List Int} (e : H a = some (.lst (ns.map V.int))) (l : 0 < ns.length) (h : ∀ m, m ∈ ns → (∀ y ∈ ns, y ≤ m) → Q (.int m) H) : rMax K [.ref a] H Q := ⟨a, ns, rfl, SqL.of e, l, fun m h1 h2 => h m h1 h2⟩
theorem intI_ {i : Int} (h : Q (.int i) H) : rIntZ [.int i] H Q := .inl ⟨i, rfl, h⟩
theorem intB_ {k : Bool} (h : Q (.int (if k then 1 else 0)) H) : rIntZ [.bl k] H Q := .inr (.inl ⟨k, rfl, h⟩)
theorem intS_ {c : Nat} (e : c = 48 ∨ c = 49) (h : Q (.int ((c : Int) - 48)) H) : rIntZ [T [c]] H Q := .inr (.inr ⟨c, rfl, e, h⟩)
theorem eqD_ {x y : V} {d e : PyData} (h1 : Dp K H x d) (h2 : Dp K H y e) (s1 : SeqAt.shaped d = true) (s2 : SeqAt.shaped e = true) (h : Q (.bl (PyData.eqv d e)) H) : rEqZ K x y H Q := .inr ⟨d, e, h1, h2, s1, s2, h⟩
theorem neD_ {x y : V} {d e : PyData} (h1 : Dp K H x d) (h2 : Dp K H y e) (s1 : SeqAt.shaped d = true) (s2 : SeqAt.shaped e = true) (h : Q (.bl (!PyData.eqv d e)) H) : rNeZ K x y H Q := .inr ⟨d, e, h1, h2, s1, s2, h⟩
end
/-! ### data that can be told can be compared -/
theorem canAll_of : ∀ {ds : List PyData}, (∀ d ∈ ds, PyData.canLay0 d = true) → PyData.canLayAll0 ds = true
  | [], _ => rfl
  | d :: ds, h => by
    rw [PyData.canLayAll0, h d List.mem_cons_self, canAll_of fun e he => h e (List.mem_cons_of_mem _ he)]
    rfl
theorem rp_can {d : PyData} {n k : Nat} (r : Rp d n k) : n ≤ 16777216 → PyData.canLay0 d = true := by
  induction r with
  | non => exact fun _ => rfl
  | bl b => exact fun _ => rfl
  | int h1 h2 => exact fun _ => rfl
  | str h =>
    rename_i l
    intro hn
    show (l.toArray.all (· < 0x110000)) = true
    rw [Array.all_eq_true_iff_forall_mem]
    intro c hc
    have := h c (by simpa using hc)
    exact decide_eq_true (by omega)
  | lst h ih =>
    rename_i ds n k
    intro hn
    show PyData.canLayAll0 ds = true
    refine canAll_of fun d hd => ih d hd ?_
    have h1 : 0 < ds.length := List.length_pos_of_mem hd
    have h2 : 1 * (n + 2) ≤ ds.length * (n + 2) := Nat.mul_le_mul_right _ h1
    omega
  | tup h ih =>
    rename_i ds n k
    intro hn
    show PyData.canLayAll0 ds = true
    refine canAll_of fun d hd => ih d hd ?_
    have h1 : 0 < ds.length := List.length_pos_of_mem hd
    have h2 : 1 * (n + 2) ≤ ds.length * (n + 2) := Nat.mul_le_mul_right _ h1
    omega
  | more h l g ih => exact fun hn => ih (by omega)
theorem rp_shaped {d : PyData} {n k : Nat} (r : Rp d n k) (hn : n ≤ 16777216) (hk : k ≤ 64) : SeqAt.shaped d = true := by
  unfold SeqAt.shaped
  rw [rp_can r hn, decide_eq_true (Nat.le_trans (rp_ok r).dp hk)]
  rfl
section
variable {H : Hp} {Q : VK} {K : PySem.W.Frag} {x y : V} {d : PyData} {n k : Nat}
theorem eqDD_ (h1 : Dp K H x d) (h2 : Dp K H y d) (r : Rp d n k) (hn : n ≤ 16777216) (hk : k ≤ 64) (h : Q (.bl true) H) : rEqZ K x y H Q :=
  eqD_ h1 h2 (rp_shaped r hn hk) (rp_shaped r hn hk) (by rw [SeqAt.eqv_refl d (rp_can r hn)]; exact h)
theorem neDD_ (h1 : Dp K H x d) (h2 : Dp K H y d) (r : Rp d n k) (hn : n ≤ 16777216) (hk : k ≤ 64) (h : Q (.bl false) H) : rNeZ K x y H Q :=
  neD_ h1 h2 (rp_shaped r hn hk) (rp_shaped r hn hk) (by rw [SeqAt.eqv_refl d (rp_can r hn)]; exact h)
end
end Z
/-! Z, part H: enumerate(text, start=k); a dict of the module; a local name that holds a def; isinstance. -/
namespace Z
open PySem PySem.Spec PyProof.Rows L2
section
variable {M : Model} {A : Around} {E : Value → Shared → Prop} {s : Shared} {env : Env}
theorem callWith_typeK {pos : Pos} {T : String} {first : List Value} {args : List (Bool × Sem Value)} {keywords : List (Option Str × Sem Value)} {Q : Value → Shared → Prop}
    (hplain : args.any (·.1) = false) (hkw : keywords.any (·.1.isNone) = false)
    (h : wpAny M A (evalArgs (.type T) true args keywords) (fun a s₁ => wpAny M A (call (.type T) (first ++ a.pos) a.kw) Q E s₁) E s) : wpAny M A (callWith pos (.type T) first args keywords) Q E s := by
  unfold callWith
  refine wpAny_bind (wpAny_holding (wpAny_mono h (fun a s₁ h₁ => wpAny_bind (wpAny_standAt ?_)) fun _ _ x => x))
  simp only [hplain, hkw, Bool.or_false]
  refine wpAny_bind (wpAny_pure ?_)
  exact wpAny_bind (wpAny_mono h₁ (fun r s₂ hr => wpAny_bind (wpAny_holding (wpAny_point (wpAny_pure hr)))) fun _ _ x => x)
end
def zEnK (R : It → Hp → Prop) (vs zs : List V) (H2 : Hp) : Prop := ∃ (x : List Nat) (k : Int), vs = [T x] ∧ zs = [.int k] ∧ -(2 ^ 63) ≤ k ∧ k < 2 ^ 63 ∧ R (Itn x k) H2
def iEnumKT (ta tk : TA) : TI := fun σ H R => ta σ H fun vs H1 => tk σ H1 (zEnK R vs)
theorem z_enumKS {X : Cx} {e e2 : Expr} {ta tk : TA} {p pos tpos kp : Pos} {elts : List Expr} {kk : Nat} (hg : Gl X "enumerate") (hm : X.mg "enumerate" = none) (ha : PA X [e] ta) (hk : PK X [⟨some "start", e2, kp⟩] tk)
    (hs : starEach [e] X.env = [(false, eval e X.env)] := by rfl) :
    PI X (.Tuple elts kk tpos) (.Call (.Name "enumerate" p) [e] [⟨some "start", e2, kp⟩] pos) (iEnumKT ta tk) := by
  constructor
  intro pins s σ H R I h
  have F0 : (backTo pos (starEach [e] X.env)).any (·.1) = false := by rw [hs]; rfl
  have go : ∀ (Q : Value → Shared → Prop), (∀ x t k u H2 s2, Inv X pins σ H2 s2 → -(2 ^ 63) ≤ k → k < 2 ^ 63 → R (Itn x k) H2 → wpAny (model X.prog X.w) X.A (call (.type "enumerate") [.str ⟨x.toArray⟩ t] [(Str.ofString "start", .int k u)]) Q X.xe s2) →
      wpAny (model X.prog X.w) X.A (callWith pos (.type "enumerate") [] (backTo pos (starEach [e] X.env)) (backToKw pos (keywordEach [⟨some "start", e2, kp⟩] X.env))) Q X.xe s := by
    intro Q q
    refine callWith_typeK F0 rfl ?_
    refine evalArgs_kw2 rfl (thn (ha.run pos pins s σ H _ I h) fun us s1 ⟨vs, H1, I1, r1, q1⟩ => thn (hk.run pos pins s1 σ H1 _ I1 q1) fun ws s2 ⟨zs, H2, I2, r2, q2⟩ => ?_) hs
    obtain ⟨x, k, rfl, rfl, k0, k1, q3⟩ := q2
    obtain ⟨u, rfl, t, rfl⟩ := vals1 r1
    obtain ⟨u2, rfl, t2, rfl⟩ := vals1 r2
    exact q x t k t2 H2 s2 I2 k0 k1 q3
  refine wpAny_Call_Name_kw (ld_blt I hg hm boot_enumerate ?_)
  refine go _ fun x t k u H2 s2 I2 k0 k1 q => ?_
  refine enum_begins_start (begins_text ⟨x.toArray⟩ t) trivial k0 k1 fun h' he hit hsz hk' => wpAny_pyIter_enum he ?_
  have I3 : Inv X pins σ H2 { s2 with heap := h' } := I2.kept (t' := s2.toks) hk'
  have e0 : k + ((0 : Nat) : Int) = k := by omega
  refine ⟨s2.heap.objs.size + 1, [s2.heap.objs.size + 1, s2.heap.objs.size], _, _, H2, rfl, I3, turn_enumT x t k (s2.heap.objs.size + 1) s2.heap.objs.size (Nat.succ_ne_self _), ⟨⟨.none, by rw [e0]; exact he⟩, ⟨_, hit, rfl, rfl⟩⟩, ?_, q⟩
  intro b hb
  have le : s2.heap.objs.size ≤ b := by
    rcases List.mem_cons.mp hb with z | z
    · rw [z]; exact Nat.le_succ _
    · rw [List.mem_singleton.mp z]; exact Nat.le_refl _
  exact I2.fpOk le (I2.hok.fresh le)
/-! ### a dict of the module with texts for keys -/
section
variable {X : Cx}
/-- at a: a written dict; what stands at a text, if anything -/
def KD (K : PySem.W.Frag) (w : World) (a : Addr) (z : Str) (r : Option Value) : Prop := ∃ es n, KDict K w a es n ∧ PySem.W.nsIn K a z = some r
def rNiKD (K : PySem.W.Frag) (w : World) : R2 := fun x y H Q => ∃ (a : Addr) (z : List Nat) (r : Option Value), x = T z ∧ y = .ref a ∧ KD K w a ⟨z.toArray⟩ r ∧ Q (.bl (!r.isSome)) H
theorem z_niKD : OpR X (compareOp .NotIn) (rNiKD X.K X.w) := by
  intro pins s σ H x y v u Q I rx ry h
  obtain ⟨a, z, r, rfl, rfl, ⟨es, n, D, e⟩, q⟩ := h
  exact op_notIn_kd D pins s σ H _ _ v u Q I rx ry ⟨_, r, rfl, rfl, e, q⟩
def rInKD (K : PySem.W.Frag) (w : World) : R2 := fun x y H Q => ∃ (a : Addr) (z : List Nat) (r : Option Value), x = T z ∧ y = .ref a ∧ KD K w a ⟨z.toArray⟩ r ∧ Q (.bl r.isSome) H
theorem z_inKD : OpR X (compareOp .In) (rInKD X.K X.w) := by
  intro pins s σ H x y v u Q I rx ry h
  obtain ⟨a, z, r, rfl, rfl, ⟨es, n, D, e⟩, q⟩ := h
  exact op_in_kd D pins s σ H _ _ v u Q I rx ry ⟨_, r, rfl, rfl, e, q⟩
def rIxKD (K : PySem.W.Frag) (w : World) : R2 := fun x y H Q => ∃ (a : Addr) (z : List Nat) (u0 : Value) (v0 : V), x = .ref a ∧ y = T z ∧ KD K w a ⟨z.toArray⟩ (some u0) ∧ RelV v0 u0 ∧ Q v0 H
theorem z_ixKD : IxR X (rIxKD X.K X.w) := by
  intro value slice pins s σ H x y v u Q I rx ry h hs
  obtain ⟨a, z, u0, v0, rfl, rfl, ⟨es, n, D, e⟩, r, q⟩ := h
  exact ix_kdict value slice pins s σ H _ _ v u Q I rx ry ⟨_, _, v0, rfl, rfl, ⟨es, n, u0, D.at_, D.lit, e, r⟩, q⟩ hs
end
section
variable {σ : L2.St} {H : Hp} {Q : VK} {K : PySem.W.Frag} {w : World} {a : Addr}
theorem niKD_ {z : List Nat} {r : Option Value} (e : KD K w a ⟨z.toArray⟩ r) (h : Q (.bl (!r.isSome)) H) : rNiKD K w (T z) (.ref a) H Q := ⟨a, z, r, rfl, rfl, e, h⟩
theorem inKD_ {z : List Nat} {r : Option Value} (e : KD K w a ⟨z.toArray⟩ r) (h : Q (.bl r.isSome) H) : rInKD K w (T z) (.ref a) H Q := ⟨a, z, r, rfl, rfl, e, h⟩
theorem ixKD_ {z : List Nat} {u0 : Value} {v0 : V} (e : KD K w a ⟨z.toArray⟩ (some u0)) (r : RelV v0 u0) (h : Q v0 H) : rIxKD K w (.ref a) (T z) H Q := ⟨a, z, u0, v0, rfl, rfl, e, r, h⟩
theorem ientK_ {ta tk : TA} {R : It → Hp → Prop} (h : ta σ H fun vs H1 => tk σ H1 (zEnK R vs)) : iEnumKT ta tk σ H R := h
theorem zenK_ {R : It → Hp → Prop} {l : List Nat} {k : Int} (e1 : -9223372036854775808 ≤ k) (e2 : k < 9223372036854775808) (h : R (Itn l k) H) : zEnK R [T l] [.int k] H := ⟨l, k, rfl, rfl, e1, e2, h⟩
end
/-! ### isinstance -/
section
variable {X : Cx} {H : Hp} {Q : VK} {K : PySem.W.Frag} {x : V}
def rIsZ (K : PySem.W.Frag) : List V → Hp → VK → Prop := fun xs H Q => rIsi K xs H Q ∨ rIsiT K xs H Q
theorem z_isi : CallR X (.builtin "isinstance") (rIsZ X.K) := call_isi.or call_isiT
theorem isB_ {a b : String} {r : Bool} (t : TyX K H x (.type a)) (e : kitB a b = some r) (h : Q (.bl r) H) : rIsZ K [x, .ty b] H Q := .inl ⟨x, .ty b, .type a, .type b, r, rfl, .ty _, t, kit_ty e, h⟩
theorem isSS_ {l : List Nat} (h : Q (.bl true) H) : rIsZ K [T l, .ty "str"] H Q := isB_ (a := "str") (.base (.str _)) (by decide +kernel) h
end
section
variable {H : Hp} {Q : VK}
theorem imulI {n m : Int} (h1 : -18446744073709551616 < n) (h2 : n < 18446744073709551616) (h : Q (.int (n * m)) H) : pMulZ (.int n) (.int m) H Q := ⟨n, m, rfl, rfl, .inl ⟨h1, h2⟩, h⟩
theorem idivI {n m : Int} (e1 : 0 < m) (e2 : m < 1073741824) (h : Q (.int (n / m)) H) : pDivZ (.int n) (.int m) H Q := ⟨n, m, rfl, rfl, ⟨e1, e2⟩, h⟩
end
section
variable {σ : L2.St} {H : Hp} {tu : TT} {Q : Bool → Hp → Prop} {q : Prop} [Decidable q]
theorem zor_keep (hk : Q true H) (h2 : ¬ q → Q true H → tu σ H Q) : zOr tu σ Q (decide q) H := zor_d (fun _ => hk) fun n => h2 n hk
end
/-! ### a call of a local name that holds a def -/
structure HeldG (P : Program) (w : World) (K : PySem.W.Frag) (mg : Str → Option Value) (base : Heap) (k : Nat) (f : Addr) (sp : Sp) : Prop where
  ex : ∃ (fd : FuncData) (ps : List Str), FnG P w K mg base k f fd ps sp ∧ PySem.W.keepIn K (.ref f) = true ∧ Binds K fd ps []
/-- the slot holds a def whose promise S tells -/
def tCallV (i : Nat) (S : Addr → Sp → Prop) (E : L2.St → XK) (t : TA) : TE := fun σ H Q => ∃ f sp, σ[i]? = some (some (.ref f)) ∧ S f sp ∧ t σ H fun vs H1 => sp vs H1 Q (E σ)
section
variable {X : Cx} {k i : Nat} {S : Addr → Sp → Prop} {x : Str} {p pos : Pos} {e : Expr} {es : List Expr} {t : TA} {W : WX}
theorem pe_callV (A : ∀ f sp, S f sp → HeldG X.prog X.w X.K X.mg X.base k f sp) (room : Room k X.A) (noG : X.A.guards = some []) (hN : X.N[i]? = some x) (hv : Vis X.env.scope x)
    (tk : ∀ pins σ H s, Inv X pins σ H s → ∀ e s', L2N.CX X.prog X.w X.stack H s (fun c d H' => W c d σ H') e s' → X.xe e s') (ha : PA X (e :: es) t)
    (hdb : (x == ("__debug__" : Str)) = false := by decide) (hcd : (x == ("__classdict__" : Str)) = false := by decide)
    (he : starEach (e :: es) X.env = (false, eval e X.env) :: starEach es X.env := by rfl) (hpl : (backTo pos (starEach es X.env)).any (·.1) = false := by rfl) :
    PE X (.Call (.Name x p) (e :: es) [] pos) (tCallV i S (fun σ c d H' => W c d σ H') t) := by
  refine ⟨fun pins s σ H Q I h => ?_⟩
  obtain ⟨f, sp, hs, hS, ht⟩ := h
  obtain ⟨fd, ps, F, hk, hb⟩ := (A f sp hS).ex
  refine wpAny_Call_Name_kw (thn ((pe_var (pos := p) hN hv hdb hcd).run pins s σ H (fun v H1 => v = .ref f ∧ H1 = H) I ⟨.ref f, hs, rfl, rfl⟩) fun u s1 ⟨v, H1, I1, r1, q1⟩ => ?_)
  obtain ⟨rfl, rfl⟩ := q1
  cases r1
  refine PySem.W.callWith_K (h₀ := X.base) I.ok.mod.kin hk (thn (ha.run pos pins s1 σ _ _ I1 ht) fun us s2 ⟨vs, H2, I2, r, q⟩ => ⟨I2.kIn, ?_⟩) he hpl
  exact run_g F room noG hb .nil (tk _ _ _ _ I2) I2 r (by rw [List.append_nil]; exact q)
end
section
variable {σ : L2.St} {H : Hp} {S : Addr → Sp → Prop} {Q : VK} {E : L2.St → XK} {XE : XK} {t : TA} {i : Nat} {f : Addr} {vs : List V}
theorem callV_ {sp : Sp} (e : σ[i]? = some (some (.ref f))) (e2 : S f sp) (h : t σ H fun vs H1 => sp vs H1 Q (E σ)) : tCallV i S E t σ H Q := ⟨f, sp, e, e2, h⟩
end
end Z
/-! Z, part I: instances: fields, methods, making; calls with keywords and defaults. -/
namespace Z
open PySem PySem.Spec PyProof.Rows L2
/-! ### calls -/
/-- a def under a global name, called with n values and keywords named ks -/
structure DefK (P : Program) (w : World) (K : PySem.W.Frag) (mg : Str → Option Value) (base : Heap) (k : Nat) (x : Str) (n : Nat) (ks : List Str) (gV : List V → List V → List V) (sp : Sp) : Prop where
  ex : ∃ (f : Addr) (fd : FuncData) (ps : List Str) (g : List Value → List Value → List Value), FnG P w K mg base k f fd ps sp ∧ mg x = some (.ref f) ∧
    PySem.W.keepIn K (.ref f) = true ∧ KBn K fd ps n ks g gV
/-- a method of a class, with n values (self among them) and keywords -/
structure MthK (P : Program) (w : World) (K : PySem.W.Frag) (mg : Str → Option Value) (base : Heap) (k : Nat) (C : Addr) (m : Str) (n : Nat) (ks : List Str) (gV : List V → List V → List V) (sp : Sp) : Prop where
  cls : Cls K C
  ex : ∃ (f : Addr) (fd : FuncData) (ps : List Str) (g : List Value → List Value → List Value), FnG P w K mg base k f fd ps sp ∧ Meth K C m f ∧ KBn K fd ps n ks g gV
/-- a class that is made by its __init__: n values behind self, keywords ks -/
structure MkK (P : Program) (w : World) (K : PySem.W.Frag) (mg : Str → Option Value) (base : Heap) (k : Nat) (x : Str) (C : Addr) (n : Nat) (ks : List Str) (gV : List V → List V → List V) (sp : Sp) : Prop where
  ex : ∃ (f : Addr) (fd : FuncData) (ps : List Str) (g : List Value → List Value → List Value), FnG P w K mg base k f fd ps sp ∧ mg x = some (.ref C) ∧ Mk K C f ∧ KBn K fd ps (n + 1) ks g gV
section
variable {P : Program} {w : World} {K : PySem.W.Frag} {mg : Str → Option Value} {base : Heap}
theorem DefK.mono {j k n : Nat} {x : Str} {ks : List Str} {gV : List V → List V → List V} {sp : Sp} (D : DefK P w K mg base j x n ks gV sp) (h : j ≤ k) : DefK P w K mg base k x n ks gV sp := by
  obtain ⟨f, fd, ps, g, F, r⟩ := D.ex
  exact ⟨f, fd, ps, g, F.mono h, r⟩
theorem MthK.mono {j k n : Nat} {C : Addr} {x : Str} {ks : List Str} {gV : List V → List V → List V} {sp : Sp} (D : MthK P w K mg base j C x n ks gV sp) (h : j ≤ k) : MthK P w K mg base k C x n ks gV sp := by
  obtain ⟨f, fd, ps, g, F, r⟩ := D.ex
  exact ⟨D.cls, f, fd, ps, g, F.mono h, r⟩
theorem MkK.mono {j k n : Nat} {C : Addr} {x : Str} {ks : List Str} {gV : List V → List V → List V} {sp : Sp} (D : MkK P w K mg base j x C n ks gV sp) (h : j ≤ k) : MkK P w K mg base k x C n ks gV sp := by
  obtain ⟨f, fd, ps, g, F, r⟩ := D.ex
  exact ⟨f, fd, ps, g, F.mono h, r⟩
end
section
variable {X : Cx} {k n : Nat} {f C : Addr} {fd : FuncData} {ps ks : List Str} {sp : Sp} {dvs : List V} {ds : List Value} {E : XK} {g : List Value → List Value → List Value} {gV : List V → List V → List V}
theorem run_gk {pins : List (Addr × Obj)} {σ : L2.St} {H : Hp} {s : Shared} {Q : VK} {us ws : List Value} {vs zs : List V}
    (F : FnG X.prog X.w X.K X.mg X.base k f fd ps sp) (room : Room k X.A) (noG : X.A.guards = some []) (hb : KBn X.K fd ps n ks g gV)
    (hx : ∀ e s', L2N.CX X.prog X.w X.stack H s E e s' → X.xe e s') (I : Inv X pins σ H s) (r : Vals vs us) (rz : Vals zs ws) (l1 : vs.length = n) (l2 : zs.length = ks.length) (want : sp (gV vs zs) H Q E) :
    wpAny (model X.prog X.w) X.A (call (.ref f) us (ks.zip ws)) (EP X pins σ Q) X.xe s := by
  have r2 := hb.rel r rz
  have ran := F.run X.A X.stack s H ⟨us, ks.zip ws⟩ (g us ws) (gV vs zs) Q E room noG I.env0 (hb.to s us ws I.kIn (r.length.symm.trans l1) (rz.length.symm.trans l2)) r2 want
  refine wpAny_call (codeAny_mono ran ?_)
  intro r s' hr
  match r, hr with
  | .error e, hr => exact hx e s' hr
  | .ok (.ret u), hr => exact I.after hr
  | .ok .next, hr => exact False.elim hr
  | .ok .brk, hr => exact False.elim hr
  | .ok .cont, hr => exact False.elim hr
theorem make_guards {A : Around} {C : Addr} {us : List Value} {ws : List (Str × Value)} (h : A.guards = some []) : (A.under (.builtin "type.__call__" ⟨.ref C :: us, ws⟩)).guards = some [] := by
  show pushGuards (Code.guards (.builtin "type.__call__" ⟨.ref C :: us, ws⟩)) A.guards = some []
  rw [show Code.guards (.builtin "type.__call__" ⟨.ref C :: us, ws⟩) = [] from by simp [Code.guards, Code.isGuard]; decide +kernel]
  exact h
theorem run_gmake {pins : List (Addr × Obj)} {σ : L2.St} {H : Hp} {s : Shared} {Q : VK} {us ws : List Value} {vs zs : List V} (M : Mk X.K C f)
    (F : FnG X.prog X.w X.K X.mg X.base k f fd ps sp) (room : Room (k + 1) X.A) (noG : X.A.guards = some []) (hb : KBn X.K fd ps (n + 1) ks g gV)
    (hx : ∀ H s, Inv X pins σ H s → ∀ e s', L2N.CX X.prog X.w X.stack H s E e s' → X.xe e s') (I : Inv X pins σ H s) (r : Vals vs us) (rz : Vals zs ws) (l1 : vs.length = n) (l2 : zs.length = ks.length)
    (h : ∀ x dx, H x = none → H dx = none → dx ≠ x → sp (gV (.ref x :: vs) zs) (upd (upd H dx (.own x)) x (.ins C dx [])) (fun v H2 => v = .non ∧ Q (.ref x) H2) E) :
    wpAny (model X.prog X.w) X.A (call (.ref C) us (ks.zip ws)) (EP X pins σ Q) X.xe s := by
  have hq := h (s.heap.objs.size + 1) s.heap.objs.size (I.hok.fresh (Nat.le_succ _)) (I.hok.fresh (Nat.le_refl _)) (Nat.ne_of_lt (Nat.lt_succ_self _))
  have I2 := Inv.made (C := C) I
  have r1 : Vals (V.ref (s.heap.objs.size + 1) :: vs) (Value.ref (s.heap.objs.size + 1) :: us) := .cons rfl r
  have r2 := hb.rel r1 rz
  have e1 : (Value.ref (s.heap.objs.size + 1) :: us).length = n + 1 := r1.length.symm.trans (congrArg Nat.succ l1)
  have e2 : ws.length = ks.length := rz.length.symm.trans l2
  refine wpAny_call (make_map (f := f) I.kIn M.makes M.init (beq_iff_eq.mp M.fn) (codeAny_mono (F.run _ X.stack _ _ ⟨Value.ref (s.heap.objs.size + 1) :: us, ks.zip ws⟩ (g (Value.ref (s.heap.objs.size + 1) :: us) ws) _ _ E (room.make C us (ks.zip ws))
    (make_guards noG) (I2.env0.make C us (ks.zip ws)) (hb.to _ (Value.ref (s.heap.objs.size + 1) :: us) ws I2.kIn e1 e2) r2 hq) fun r s' hq' => ?_))
  match r, hq' with
  | .error e, hq' => exact hx _ _ I2 e s' hq'
  | .ok (.ret u), hq' =>
    obtain ⟨v, H', I3, rv, ev, q3⟩ := I2.after hq'
    subst ev
    exact ⟨rv, ⟨V.ref (s.heap.objs.size + 1), H', I3, rfl, q3⟩⟩
  | .ok .next, hq' => exact False.elim hq'
  | .ok .brk, hq' => exact False.elim hq'
  | .ok .cont, hq' => exact False.elim hq'
end
/-- f(e, .., k = v, ..) -/
def tCK (sp : Sp) (gV : List V → List V → List V) (E : L2.St → XK) (n m : Nat) (t tk : TA) : TE := fun σ H Q => t σ H fun vs H1 => tk σ H1 fun zs H2 => vs.length = n ∧ zs.length = m ∧ sp (gV vs zs) H2 Q (E σ)
def zMeth (C : Addr) (m : Str) (t : TA) (q : V → List V → Hp → Prop) (σ : L2.St) (x : V) (H : Hp) : Prop := ∃ a dx fs, x = .ref a ∧ H a = some (.ins C dx fs) ∧ fs.lookup m = none ∧ t σ H fun vs H2 => q x vs H2
/-- o.m(e, .., k = v, ..) -/
def tMK (C : Addr) (m : Str) (sp : Sp) (gV : List V → List V → List V) (E : L2.St → XK) (n l : Nat) (ta : TE) (t tk : TA) : TE := fun σ H Q => ta σ H (zMeth C m t (fun x vs H2 => tk σ H2 fun zs H3 => vs.length + 1 = n ∧ zs.length = l ∧ sp (gV (x :: vs) zs) H3 Q (E σ)) σ)
def zMake (C : Addr) (q : V → Hp → VK → Prop) (H : Hp) (Q : VK) : Prop := ∀ x dx, H x = none → H dx = none → dx ≠ x → q (.ref x) (upd (upd H dx (.own x)) x (.ins C dx [])) (fun v H2 => v = .non ∧ Q (.ref x) H2)
/-- C(e, .., k = v, ..) -/
def tKK (C : Addr) (sp : Sp) (gV : List V → List V → List V) (E : L2.St → XK) (n m : Nat) (t tk : TA) : TE := fun σ H Q => t σ H fun vs H1 => tk σ H1 fun zs H2 => vs.length = n ∧ zs.length = m ∧
  zMake C (fun x H3 Q3 => sp (gV (x :: vs) zs) H3 Q3 (E σ)) H2 Q
section
variable {X : Cx} {k n : Nat} {sp : Sp} {ks : List Str} {gV : List V → List V → List V} {x m : Str} {C : Addr} {p pos apos : Pos} {e o : Expr} {es : List Expr} {kws : List Keyword} {ta : TE} {t tk : TA} {W : WX}
/-- what a call lets out is taken around -/
abbrev TK (X : Cx) (W : WX) : Prop := ∀ pins σ H s, Inv X pins σ H s → ∀ e s', L2N.CX X.prog X.w X.stack H s (fun c d H' => W c d σ H') e s' → X.xe e s'
theorem pe_fk (D : DefK X.prog X.w X.K X.mg X.base k x n ks gV sp) (room : Room k X.A) (noG : X.A.guards = some []) (hg : Gl X x) (tw : TK X W)
    (ha : PA X (e :: es) t) (hkw : PK X kws tk) (hall : (backToKw pos (keywordEach kws X.env)).all (·.1.isSome) = true := by rfl) (hks : (backToKw pos (keywordEach kws X.env)).filterMap (·.1) = ks := by rfl)
    (hdb : (x == ("__debug__" : Str)) = false := by decide) (he : starEach (e :: es) X.env = (false, eval e X.env) :: starEach es X.env := by rfl)
    (hpl : ((backTo pos (starEach (e :: es) X.env)).any (·.1) || (backToKw pos (keywordEach kws X.env)).any (·.1.isNone)) = false := by rfl) :
    PE X (.Call (.Name x p) (e :: es) kws pos) (tCK sp gV (fun σ c d H' => W c d σ H') n ks.length t tk) := by
  obtain ⟨f, fd, ps, g, F, hm, hk, hb⟩ := D.ex
  refine ⟨fun pins s σ H Q I h => ?_⟩
  refine wpAny_Call_Name_kw (ld_glob I hg hm ?_ hdb)
  refine PySem.W.callWith_KW (h₀ := X.base) I.ok.mod.kin hk hall (thn (ha.run pos pins s σ H _ I h) fun us s1 ⟨vs, H1, I1, r, q⟩ => ?_) hpl he
  refine thn (hkw.run pos pins s1 σ H1 _ I1 q) fun ws s2 ⟨zs, H2, I2, rz, l1, l2, q2⟩ => ⟨I2.kIn, ?_⟩
  rw [hks]
  exact run_gk F room noG hb (tw _ _ _ _ I2) I2 r rz l1 l2 q2
/-- a def called without keywords -/
theorem pe_fk1 (D : DefK X.prog X.w X.K X.mg X.base k x n [] gV sp) (room : Room k X.A) (noG : X.A.guards = some []) (hg : Gl X x) (tw : TK X W)
    (ha : PA X (e :: es) t) (hdb : (x == ("__debug__" : Str)) = false := by decide) (he : starEach (e :: es) X.env = (false, eval e X.env) :: starEach es X.env := by rfl)
    (hpl : (backTo pos (starEach es X.env)).any (·.1) = false := by rfl) :
    PE X (.Call (.Name x p) (e :: es) [] pos) (tCK sp gV (fun σ c d H' => W c d σ H') n 0 t tNil) := by
  obtain ⟨f, fd, ps, g, F, hm, hk, hb⟩ := D.ex
  refine ⟨fun pins s σ H Q I h => ?_⟩
  refine wpAny_Call_Name_kw (ld_glob I hg hm ?_ hdb)
  refine PySem.W.callWith_K (h₀ := X.base) I.ok.mod.kin hk (thn (ha.run pos pins s σ H _ I h) ?_) he hpl
  rintro us s1 ⟨vs, H1, I1, rel, l1, l2, q2⟩
  exact ⟨I1.kIn, run_gk (ws := []) F room noG hb (tw _ _ _ _ I1) I1 rel .nil l1 rfl q2⟩
theorem pe_mk1 {pl : Sem Bool} (he : PE X o ta) (D : MthK X.prog X.w X.K X.mg X.base k C m n [] gV sp) (room : Room k X.A) (noG : X.A.guards = some []) (tw : TK X W) (ha : PA X (e :: es) t)
    (hst : starEach (e :: es) X.env = (false, eval e X.env) :: starEach es X.env := by rfl) (hpl : (backTo pos (starEach es X.env)).any (·.1) = false := by rfl)
    (ht : eval (.Call (.Attribute o m apos) (e :: es) [] pos) X.env = (do
      let ov ← eval o X.env
      standAt apos.atName
      let (f, first) ← holding [ov] (getMethod ov m pl)
      callWith pos f first (backTo pos (starEach (e :: es) X.env)) (backToKw pos (keywordEach [] X.env))) := by rfl) :
    PE X (.Call (.Attribute o m apos) (e :: es) [] pos) (tMK C m sp gV (fun σ c d H' => W c d σ H') n 0 ta t tNil) := by
  obtain ⟨f, fd, ps, g, F, hm, hb⟩ := D.ex
  refine ⟨fun pins s σ H Q I h => ?_⟩
  refine PySem.W.methodCall_KW (pl := pl) (thn (he.run pins s σ H _ I h) fun u s1 ⟨x, H1, I1, rx, a, dx, fs, ex, ea, l, q⟩ => ?_) ht
  subst ex
  obtain rfl : u = Value.ref a := rx
  refine getmeth_ok I1 ea D.cls hm l ?_
  refine PySem.W.callWith_K (first := [.ref a]) (h₀ := X.base) I.ok.mod.kin hm.kp (thn (ha.run pos pins s1 σ H1 _ I1 q) fun us s2 ⟨vs, H2, I2, r, l1, l2, q2⟩ => ⟨I2.kIn, ?_⟩) hst hpl
  exact run_gk (us := .ref a :: us) (vs := .ref a :: vs) (ws := []) F room noG hb (tw _ _ _ _ I2) I2 (.cons rfl r) .nil l1 rfl q2
theorem pe_mk0 {pl : Sem Bool} (he : PE X o ta) (D : MthK X.prog X.w X.K X.mg X.base k C m n [] gV sp) (room : Room k X.A) (noG : X.A.guards = some []) (tw : TK X W)
    (ht : eval (.Call (.Attribute o m apos) [] [] pos) X.env = (do
      let ov ← eval o X.env
      standAt apos.atName
      let (f, first) ← holding [ov] (getMethod ov m pl)
      callWith pos f first (backTo pos (starEach [] X.env)) (backToKw pos (keywordEach [] X.env))) := by rfl) :
    PE X (.Call (.Attribute o m apos) [] [] pos) (tMK C m sp gV (fun σ c d H' => W c d σ H') n 0 ta tNil tNil) := by
  obtain ⟨f, fd, ps, g, F, hm, hb⟩ := D.ex
  refine ⟨fun pins s σ H Q I h => ?_⟩
  refine PySem.W.methodCall_KW (pl := pl) (thn (he.run pins s σ H _ I h) fun u s1 ⟨x, H1, I1, rx, a, dx, fs, ex, ea, l, q⟩ => ?_) ht
  subst ex
  obtain rfl : u = Value.ref a := rx
  refine getmeth_ok I1 ea D.cls hm l ?_
  obtain ⟨l1, l2, q2⟩ := q
  exact PySem.W.callWith_K0 (first := [.ref a]) I1.kIn hm.kp (run_gk (us := [.ref a]) (vs := [.ref a]) (ws := []) F room noG hb (tw _ _ _ _ I1) I1 (.cons rfl .nil) .nil l1 rfl q2)
theorem pe_kk (D : MkK X.prog X.w X.K X.mg X.base k x C n ks gV sp) (room : Room (k + 1) X.A) (noG : X.A.guards = some []) (hg : Gl X x) (tw : TK X W)
    (ha : PA X (e :: es) t) (hkw : PK X kws tk) (hall : (backToKw pos (keywordEach kws X.env)).all (·.1.isSome) = true := by rfl) (hks : (backToKw pos (keywordEach kws X.env)).filterMap (·.1) = ks := by rfl)
    (hdb : (x == ("__debug__" : Str)) = false := by decide) (he : starEach (e :: es) X.env = (false, eval e X.env) :: starEach es X.env := by rfl)
    (hpl : ((backTo pos (starEach (e :: es) X.env)).any (·.1) || (backToKw pos (keywordEach kws X.env)).any (·.1.isNone)) = false := by rfl) :
    PE X (.Call (.Name x p) (e :: es) kws pos) (tKK C sp gV (fun σ c d H' => W c d σ H') n ks.length t tk) := by
  obtain ⟨f, fd, ps, g, F, hm, M, hb⟩ := D.ex
  refine ⟨fun pins s σ H Q I h => ?_⟩
  refine wpAny_Call_Name_kw (ld_glob I hg hm ?_ hdb)
  refine PySem.W.callWith_KW (h₀ := X.base) I.ok.mod.kin M.kp hall (thn (ha.run pos pins s σ H _ I h) fun us s1 ⟨vs, H1, I1, r, q⟩ => ?_) hpl he
  refine thn (hkw.run pos pins s1 σ H1 _ I1 q) fun ws s2 ⟨zs, H2, I2, rz, l1, l2, q2⟩ => ⟨I2.kIn, ?_⟩
  rw [hks]
  exact run_gmake M F room noG hb (fun H s I => tw _ _ _ _ I) I2 r rz l1 l2 q2
theorem pe_kk1 (D : MkK X.prog X.w X.K X.mg X.base k x C n [] gV sp) (room : Room (k + 1) X.A) (noG : X.A.guards = some []) (hg : Gl X x) (tw : TK X W)
    (ha : PA X (e :: es) t) (hdb : (x == ("__debug__" : Str)) = false := by decide) (he : starEach (e :: es) X.env = (false, eval e X.env) :: starEach es X.env := by rfl)
    (hpl : (backTo pos (starEach es X.env)).any (·.1) = false := by rfl) :
    PE X (.Call (.Name x p) (e :: es) [] pos) (tKK C sp gV (fun σ c d H' => W c d σ H') n 0 t tNil) := by
  obtain ⟨f, fd, ps, g, F, hm, M, hb⟩ := D.ex
  refine ⟨fun pins s σ H Q I h => ?_⟩
  refine wpAny_Call_Name_kw (ld_glob I hg hm ?_ hdb)
  refine PySem.W.callWith_K (h₀ := X.base) I.ok.mod.kin M.kp (thn (ha.run pos pins s σ H _ I h) ?_) he hpl
  rintro us s1 ⟨vs, H1, I1, rel, l1, l2, q2⟩
  exact ⟨I1.kIn, run_gmake (ws := []) M F room noG hb (fun H s I => tw _ _ _ _ I) I1 rel .nil l1 rfl q2⟩
theorem pe_kk0 (D : MkK X.prog X.w X.K X.mg X.base k x C n [] gV sp) (room : Room (k + 1) X.A) (noG : X.A.guards = some []) (hg : Gl X x) (tw : TK X W)
    (hdb : (x == ("__debug__" : Str)) = false := by decide) :
    PE X (.Call (.Name x p) [] [] pos) (tKK C sp gV (fun σ c d H' => W c d σ H') n 0 tNil tNil) := by
  obtain ⟨f, fd, ps, g, F, hm, M, hb⟩ := D.ex
  refine ⟨fun pins s σ H Q I h => ?_⟩
  refine wpAny_Call_Name_kw (ld_glob I hg hm ?_ hdb)
  obtain ⟨l1, l2, q2⟩ := h
  exact PySem.W.callWith_K0 I.kIn M.kp (run_gmake (us := []) (vs := []) (ws := []) M F room noG hb (fun H s I => tw _ _ _ _ I) I .nil .nil l1 rfl q2)
end
/-! ### steps -/
section
variable {σ : L2.St} {H : Hp} {Q : VK} {K : PySem.W.Frag} {D : Ends} {a b C dx : Addr} {f : Str} {fs : List (Str × V)} {v y : V} {ta tv te : TE} {t tk tr : TA} {u : TS} {xs ys : List V}
theorem extend_ (e : H a = some (.lst xs)) (e2 : H b = some (.lst ys)) (l : xs.length + ys.length ≤ 16777216) (h : ∀ H', H' a = some (.lst (xs ++ ys)) → But a H H' → Q .non H') : rExtend (.ref a) [.ref b] H Q :=
  ⟨a, b, xs, ys, rfl, rfl, e, e2, by rw [sz_eq]; exact l, h _ upd_same But.upd⟩
def zFld (K : PySem.W.Frag) (f : Str) (Q : VK) (x : V) (H : Hp) : Prop := ∃ a C dx fs v, x = .ref a ∧ H a = some (.ins C dx fs) ∧ Cls K C ∧ NoAttr K C f ∧ fs.lookup f = some v ∧ Q v H
theorem fld_ (h : ta σ H (zFld K f Q)) : tFld K ta f σ H Q := h
theorem zfld_ (e : H a = some (.ins C dx fs)) (c : Cls K C) (n : NoAttr K C f) (l : fs.lookup f = some v) (h : Q v H) : zFld K f Q (.ref a) H := ⟨a, C, dx, fs, v, rfl, e, c, n, l, h⟩
def zSet (K : PySem.W.Frag) (f : Str) (y : V) (N : L2.St → Hp → Prop) (σ : L2.St) (x : V) (H : Hp) : Prop := ∃ a C dx fs, x = .ref a ∧ H a = some (.ins C dx fs) ∧ Cls K C ∧ NoAttr K C f ∧ fs.length < 1000 ∧ N σ (upd H a (.ins C dx (putF f y fs)))
theorem seq_fld (h : tv σ H fun y H1 => ta σ H1 (zSet K f y (u D) σ)) : tSeq (sFld K ta tv f) u D σ H := h
theorem fldS_ (h : tv σ H fun y H1 => ta σ H1 (zSet K f y D.nx σ)) : sFld K ta tv f D σ H := h
theorem zset_ {N : L2.St → Hp → Prop} {fs' : List (Str × V)} (e : H a = some (.ins C dx fs)) (c : Cls K C) (n : NoAttr K C f) (l : fs.length < 1000) (p : putF f y fs = fs') (h : ∀ H', H' a = some (.ins C dx fs') → But a H H' → N σ H') : zSet K f y N σ (.ref a) H :=
  ⟨a, C, dx, fs, rfl, e, c, n, l, h _ (by rw [upd_same, p]) But.upd⟩
/-- calls -/
def zCK (sp : Sp) (gV : List V → List V → List V) (E : XK) (n m : Nat) (Q : VK) (vs zs : List V) (H : Hp) : Prop := vs.length = n ∧ zs.length = m ∧ sp (gV vs zs) H Q E
theorem ck_ {sp : Sp} {gV : List V → List V → List V} {E : L2.St → XK} {n m : Nat} (h : t σ H fun vs H1 => tk σ H1 (zCK sp gV (E σ) n m Q vs)) : tCK sp gV E n m t tk σ H Q := h
theorem zck_ {sp : Sp} {gV : List V → List V → List V} {E : XK} {n m : Nat} {vs zs ws : List V} (l1 : vs.length = n) (l2 : zs.length = m) (e : gV vs zs = ws) (h : sp ws H Q E) : zCK sp gV E n m Q vs zs H := ⟨l1, l2, e ▸ h⟩
theorem mk_ {m : Str} {sp : Sp} {gV : List V → List V → List V} {E : L2.St → XK} {n l : Nat} (h : ta σ H (zMeth C m t (fun x vs H2 => tk σ H2 (zCK sp gV (E σ) n l Q (x :: vs))) σ)) : tMK C m sp gV E n l ta t tk σ H Q := h
theorem zmeth_ {m : Str} {q : V → List V → Hp → Prop} (e : H a = some (.ins C dx fs)) (n : fs.lookup m = none) (h : t σ H fun vs H2 => q (.ref a) vs H2) : zMeth C m t q σ (.ref a) H := ⟨a, dx, fs, rfl, e, n, h⟩
def zKK (C : Addr) (sp : Sp) (gV : List V → List V → List V) (E : XK) (n m : Nat) (Q : VK) (vs zs : List V) (H : Hp) : Prop := vs.length = n ∧ zs.length = m ∧ zMake C (fun x H3 Q3 => sp (gV (x :: vs) zs) H3 Q3 E) H Q
theorem kk_ {sp : Sp} {gV : List V → List V → List V} {E : L2.St → XK} {n m : Nat} (h : t σ H fun vs H1 => tk σ H1 (zKK C sp gV (E σ) n m Q vs)) : tKK C sp gV E n m t tk σ H Q := h
def zSp (sp : Sp) (ws : List V) (H : Hp) (Q : VK) (E : XK) : Prop := sp ws H Q E
theorem zsp_ {sp : Sp} {vs ws : List V} {E : XK} (e : vs = ws) (h : sp ws H Q E) : zSp sp vs H Q E := e ▸ h
theorem zkk_ {sp : Sp} {gV : List V → List V → List V} {E : XK} {n m : Nat} {vs zs : List V} (l1 : vs.length = n) (l2 : zs.length = m)
    (h : ∀ x dx H', H x = none → H dx = none → dx ≠ x → Ex H H' → H' x = some (.ins C dx []) → zSp sp (gV (.ref x :: vs) zs) H' (fun v H2 => v = .non ∧ Q (.ref x) H2) E) : zKK C sp gV E n m Q vs zs H := by
  refine ⟨l1, l2, fun x dx hx hd ne => h x dx _ hx hd ne ?_ upd_same⟩
  intro b o hb
  rw [upd_ne (ne_of_none hb hx), upd_ne (ne_of_none hb hd)]
  exact hb
end
end Z
/-! Z, part XK: the making of own errors where the maker may be another class's than the first step (KeyError: LookupError's). -/
namespace Z
open PySem PySem.Spec PyProof.Rows L2 PySem.HandSPX PySem.OEX Builtin Builtin.ObjectAttr
/-- the maker -/
structure NewOk (tl : List Value) (newId : String) : Prop where
  facts : ∃ (B i : String) (m : List Value), ExcBaseFacts B newId i m ∧ tl.contains (.type B) = true
  noAttr : tl.contains (.type "AttributeError") = false
  noName : tl.contains (.type "NameError") = false
/-- the first step -/
structure IniOk (tl : List Value) (initId : String) : Prop where
  facts : ∃ B : String, Slot B "__init__" initId ∧ splitId initId = some (B, "__init__") ∧ Manifest.signature? initId = some ⟨.positional, "*", B, .self, [⟨"args", .varPos, false⟩]⟩ ∧ (B != "*") = true ∧ tl.contains (.type B) = true
  entry : entryFor table initId = some Builtin.«BaseException.__init__»
  kind : builtinKind initId = some .slot
theorem newOk_of {B n i : String} {m : List Value} (F : ExcBaseFacts B n i m) : NewOk m n := ⟨⟨B, i, m, F, F.hasB⟩, F.noAttr, F.noName⟩
theorem iniOk_of {B n i : String} {m : List Value} (F : ExcBaseFacts B n i m) : IniOk m i := ⟨⟨B, F.init, F.initSplit, F.initRow, F.noStar, F.hasB⟩, F.initEntry, F.initKind⟩
section
variable {prog : Program} {w : World} {M : Model} {A : Around} {E : Value → Shared → Prop} {R : Result → Shared → Prop} {h : Heap} {g : Array GenState} {d : Drawn} {t : Nat} {os : OsState}
variable {nm q : Str} {C N : Addr} {bs bm tl : List Value} {hdct : Bool} {sn : List Str} {sub : List Value} {ab : Bool} {col : Option Bool} {dd : Option Addr} {k0 k1 k2 k3 k5 : Option Value} {newId initId : String}
theorem errK_check (F : NewOk tl newId) (hT : ∀ X : String, bm.contains (.type X) = tl.contains (.type X)) {rest : List Value} {Q : Unit → Shared → Prop}
    (hC : h.get? C = some (excClassObj nm q C N bs bm hdct sn sub ab col dd k0 k1 k2 k3 k5 newId)) (hq : Q () ⟨h, g, d, t, os⟩) : wpAny M A (checkBuiltinCall newId ⟨.ref C :: rest, []⟩) Q E ⟨h, g, d, t, os⟩ := by
  obtain ⟨B, i, m, FB, hB⟩ := F.facts
  have hcont : (Value.ref C :: bm).contains (.type B) = true := by rw [List.contains_cons, hT, hB, Bool.or_true]
  have hstar := FB.noStar
  simp only [checkBuiltinCall, FB.newKind, FB.newSplit, FB.newRow]
  repeat (first | refine wpAny_loadPart_at hC ?_ | (refine wpAny_isSubtype_exc hC ?_; rw [hcont]) | refine wpAny_staticBase_exc hC ?_ | refine wpAny_madeBy_exc hC ?_ | simp only [bne_self_eq_false, Bool.false_eq_true, if_false] | wp_step)
  exact hq
theorem errK_iniCheck (F : IniOk tl initId) (hT : ∀ X : String, bm.contains (.type X) = tl.contains (.type X)) {e : Addr} {oe : Obj} {rest : List Value} {Q : Unit → Shared → Prop}
    (hC : h.get? C = some (excClassObj nm q C N bs bm hdct sn sub ab col dd k0 k1 k2 k3 k5 newId)) (he : h.get? e = some oe) (hcls : oe.cls = .ref C) (hq : Q () ⟨h, g, d, t, os⟩) :
    wpAny M A (checkBuiltinCall initId ⟨.ref e :: rest, []⟩) Q E ⟨h, g, d, t, os⟩ := by
  obtain ⟨B, _, hs, hr, hshort, hB⟩ := F.facts
  have hcB : (Value.ref C :: bm).contains (.type B) = true := by rw [List.contains_cons, hT, hB, Bool.or_true]
  simp only [checkBuiltinCall, F.kind, hs, hr]
  repeat (first | (with_reducible refine wpAny_loadPart_at he ?_; rw [hcls]) | with_reducible refine wpAny_loadPart_at hC ?_ | (with_reducible refine wpAny_isSubtype_exc hC ?_; rw [hcB]) | wp_step)
  refine wpAny_onRaise ?_
  rw [show ∀ (a b : String) (n : Nat), Bind.check ⟨.positional, "*", B, .self, [⟨"args", .varPos, false⟩]⟩ a b n (List.map (fun x => x.fst) ({ pos := Value.ref e :: rest } : Args).kw) = pure () from
    fun a b n => check_star_args _ _ _ _ _ _]
  exact wpAny_pure hq
theorem errK_new (F : NewOk tl newId) (hT : ∀ X : String, bm.contains (.type X) = tl.contains (.type X)) {rest : List Value}
    (hC : h.get? C = some (excClassObj nm q C N bs bm hdct sn sub ab col dd k0 k1 k2 k3 k5 newId))
    (hq : R (.ok (.ret (.ref (h.objs.size + 1)))) ⟨(h.push (W.kdv_tup rest)).push (excO C h.objs.size), g, d, t, os⟩) (hrest : rest.length ≤ sizeLine) :
    codeAny (model prog w) A (.builtin newId ⟨.ref C :: rest, []⟩) R ⟨h, g, d, t, os⟩ := by
  obtain ⟨B, i, m, FB, hB⟩ := F.facts
  have hends := FB.ends
  have hcB : (Value.ref C :: bm).contains (.type B) = true := by rw [List.contains_cons, hT, hB, Bool.or_true]
  have hcA : (Value.ref C :: bm).contains (.type "AttributeError") = false := by rw [List.contains_cons, hT, F.noAttr]; rfl
  have hcN : (Value.ref C :: bm).contains (.type "NameError") = false := by rw [List.contains_cons, hT, F.noName]; rfl
  refine codeAny_builtinAt FB.entry ?_
  unfold Builtin.«BaseException.__new__»
  refine PySem.wpAt_bind ?_
  show PySem.wpAt _ _ _ (stack >>= _) _ _ _
  refine PySem.wpAt_bind (PySem.wpAt_stack fun p below => PySem.wpAt_of_wpAny ?_)
  wp_walk
  refine PySem.wpAt_of_wpAny ?_
  rw [FB.owner]
  repeat (first | with_reducible refine wpAny_madeHere_exc FB.canon hC ?_ | with_reducible refine wpAny_loadPart_at hC ?_ | (with_reducible refine wpAny_isSubtype_exc hC ?_; first | rw [hcB] | rw [hcA] | rw [hcN]) | wp_step)
  show R _ _
  rw [Heap.size_push]
  exact hq
theorem errK_type (F : NewOk tl newId) (hT : ∀ X : String, bm.contains (.type X) = tl.contains (.type X)) {rest : List Value} {fI : Addr} {Q : Fin → Shared → Prop}
    (hC : h.get? C = some (excClassObj nm q C N bs bm hdct sn sub ab col dd k0 k1 k2 k3 k5 newId))
    (hi : W.Looks (model prog w) h (typeLookup (.ref C) "__init__") (some (.ref fI))) (hb : ∀ self, W.Looks (model prog w) h (bindSpecial (.ref fI) self) (.ref fI, [self])) (hrest : rest.length ≤ sizeLine)
    (hq : codeAny (model prog w) A (.call (.ref fI) ⟨.ref (h.objs.size + 1) :: rest, []⟩)
      (fun r s' => match r with | .ok (.ret v) => v = .none ∧ Q (.done (.ret (.ref (h.objs.size + 1)))) s' | .ok _ => False | .error e => E e s')
      ⟨(h.push (W.kdv_tup rest)).push (excO C h.objs.size), g, d, t, os⟩) :
    wpAny (model prog w) A (Builtin.«type.__call__» ⟨.ref C :: rest, []⟩) Q E ⟨h, g, d, t, os⟩ := by
  obtain ⟨B, i, m, FB, hB⟩ := F.facts
  repeat (first | with_reducible refine wpAny_loadPart_at hC ?_ | with_reducible refine wpAny_madeBy_exc hC ?_ | wp_step)
  refine codeAny_call_builtin_code (Code.quiet_builtin _ FB.quiet) (errK_check F hT hC ?_)
  refine errK_new F hT hC ?_ hrest
  show wpAny _ _ _ _ _ _
  have k : ∀ b o, h.get? b = some o → ((h.push (W.kdv_tup rest)).push (excO C h.objs.size)).get? b = some o := fun b o e => Heap.get?_push_of_some _ (Heap.get?_push_of_some _ e)
  have hC1 := k _ _ hC
  have hget : ((h.push (W.kdv_tup rest)).push (excO C h.objs.size)).get? (h.objs.size + 1) = some (excO C h.objs.size) := by heap_get
  have hcC : (Value.ref C :: bm).contains (.ref C) = true := by simp
  have i1 := hi.keeps k
  have b1 := (hb (.ref (h.objs.size + 1))).keeps k
  unfold isInstance
  repeat (first | with_reducible refine wpAny_loadPart_at hget ?_ | (with_reducible refine wpAny_isSubtype_exc hC1 ?_; rw [hcC]) | wp_step)
  show wpAny _ _ (typeLookup (.ref C) _) _ _ _
  refine i1.at ?_
  refine wpAny_holding (wpAny_bind (b1.at ?_))
  refine wpAny_bind (wpAny_call (codeAny_mono hq fun r s' z => ?_))
  rcases r with e | (v | _ | _ | _) <;> first | exact z | exact z.elim | skip
  obtain ⟨rfl, z⟩ := z
  first
    | exact wpAny_pure (wpAny_pure z)
    | (wp_walk; exact z)
theorem errK_call (F : NewOk tl newId) (hT : ∀ X : String, bm.contains (.type X) = tl.contains (.type X)) {rest : List Value} {fI : Addr}
    (hC : h.get? C = some (excClassObj nm q C N bs bm hdct sn sub ab col dd k0 k1 k2 k3 k5 newId))
    (hi : W.Looks (model prog w) h (typeLookup (.ref C) "__init__") (some (.ref fI))) (hb : ∀ self, W.Looks (model prog w) h (bindSpecial (.ref fI) self) (.ref fI, [self])) (hrest : rest.length ≤ sizeLine)
    (hq : codeAny (model prog w) (A.under (.builtin "type.__call__" ⟨.ref C :: rest, []⟩)) (.call (.ref fI) ⟨.ref (h.objs.size + 1) :: rest, []⟩) (W.InitBack (h.objs.size + 1) R)
      ⟨(h.push (W.kdv_tup rest)).push (excO C h.objs.size), g, d, t, os⟩) :
    codeAny (model prog w) A (.call (.ref C) ⟨rest, []⟩) R ⟨h, g, d, t, os⟩ := by
  have f1 := tc_lookup
  have f2 := tc_bind (.ref C)
  have hTy : (⟨h, g, d, t, os⟩ : Shared).TypeIs (.ref C) "type" := ⟨_, hC, rfl⟩
  refine codeAny_of_tree ?_
  show wpAny _ _ (callAny (.ref C) _) _ _ _
  repeat (any_goals (first | assumption | with_reducible refine wpAny_loadPart_at hC ?_ | wp_step))
  refine ⟨rfl, ?_⟩
  refine codeAny_call_builtin_at (Code.quiet_builtin _ (by decide +kernel)) entry_typeCall (wpAny_check_type_call_sub hC (errK_type F hT hC hi hb hrest ?_))
  refine codeAny_mono hq fun r s' z => ?_
  rcases r with e | (v | _ | _ | _) <;> exact z
theorem errK_init (F : IniOk tl initId) (hT : ∀ X : String, bm.contains (.type X) = tl.contains (.type X)) {e t0 : Addr} {rest : List Value}
    (hC : h.get? C = some (excClassObj nm q C N bs bm hdct sn sub ab col dd k0 k1 k2 k3 k5 newId)) (he : h.get? e = some (excO C t0)) (hrest : rest.length ≤ sizeLine)
    (hq : ∀ h' t1, (∀ b o, b ≠ e → h.get? b = some o → h'.get? b = some o) → h'.get? e = some (excO C t1) → R (.ok (.ret .none)) ⟨h', g, d, t, os⟩) :
    codeAny (model prog w) A (.call (.builtin initId) ⟨.ref e :: rest, []⟩) R ⟨h, g, d, t, os⟩ := by
  obtain ⟨B, sl, _⟩ := F.facts
  refine codeAny_call_builtin sl.plain F.entry (errK_iniCheck F hT hC he rfl ?_)
  wp_walk
  refine hq _ h.objs.size (fun b o hb ho => ?_) ?_
  · rw [Heap.get?_update_other _ _ (Ne.symm hb)]
    exact Heap.get?_push_of_some _ ho
  · rw [Heap.get?_update_self _ (Heap.get?_push_of_some _ he) rfl]
    rfl
end
def keyTail : List Value := [.type "KeyError", .type "LookupError", .type "Exception", .type "BaseException", .type "object"]
theorem newOk_KeyError : NewOk keyTail "LookupError.__new__" := ⟨⟨_, _, _, F.excBase_LookupError, by decide +kernel⟩, by decide +kernel, by decide +kernel⟩
theorem iniOk_KeyError : IniOk keyTail "KeyError.__init__" := ⟨⟨"KeyError", excClass_KeyError.init, excClass_KeyError.initSplit, excClass_KeyError.initSig, excClass_KeyError.notStar, by decide +kernel⟩, excClass_KeyError.initEntry, excClass_KeyError.initKind⟩
theorem pass_KeyError (self : Value) : refuseLoop self "__setattr__" keyTail = pure () := by
  show refuseLoop self "__setattr__" [.type "KeyError", .type "LookupError", .type "Exception", .type "BaseException", .type "object"] = pure ()
  kernel_rfl
end Z
/-! Z, part X: own classes of errors over any built-in one; their making, raise. -/
namespace Z
open PySem PySem.Spec PyProof.Rows L2 PySem.HandSPX PySem.OEX Builtin Builtin.ObjectAttr
/-- what is told of a built-in class of errors: tl its mro -/
structure TailOk (tl : List Value) (newId initId : String) : Prop where
  new : NewOk tl newId
  ini : IniOk tl initId
  pass : ∀ self, refuseLoop self "__setattr__" tl = pure ()
  obj : tl.contains (.type "object") = true
theorem own_has {tl : List Value} (X : String) : ∀ cs : List Addr, (cs.map Value.ref ++ tl).contains (.type X) = tl.contains (.type X)
  | [] => rfl
  | c :: cs => by
    rw [List.map_cons, List.cons_append, List.contains_cons, own_has X cs]
    rfl
theorem own_pass {tl : List Value} {newId initId : String} (T : TailOk tl newId initId) (self : Value) : ∀ cs : List Addr, refuseLoop self "__setattr__" (cs.map Value.ref ++ tl) = pure ()
  | [] => T.pass self
  | c :: cs => by
    rw [List.map_cons, List.cons_append, refuseLoop_ref]
    exact own_pass T self cs
theorem own_some {tl : List Value} {newId initId : String} (T : TailOk tl newId initId) (cs : List Addr) : (cs.map Value.ref ++ tl).isEmpty = false := by
  cases h : (cs.map Value.ref ++ tl) with
  | nil =>
    have := own_has "object" (tl := tl) cs
    rw [h, T.obj] at this
    cases this
  | cons _ _ => rfl
/-- what the written part says of an own class of errors -/
structure ErrC (K : PySem.W.Frag) (C : Addr) (newId initId : String) : Prop where
  ex : ∃ (tl : List Value) (nm q : Str) (N : Addr) (bs : List Value) (cs : List Addr) (sn : List Str) (sub : List Value) (ab : Bool) (col : Option Bool) (dd : Option Addr) (k0 k1 k2 k3 k5 : Option Value), TailOk tl newId initId ∧ K.lookup C = some (excClassObj nm q C N bs (cs.map Value.ref ++ tl) true sn sub ab col dd k0 k1 k2 k3 k5 newId)
  sa : PySem.W.findIn K (.ref C) "__setattr__" = some (some (.builtin "object.__setattr__"))
  exC : PySem.W.subIn K (.ref C) (.type "BaseException") = some true
  tyC : PySem.W.typeIn K (.ref C) = some (.type "type")
  kC : PySem.W.keepIn K (.ref C) = true
section
variable {prog : Program} {w : World} {A : Around} {R : Result → Shared → Prop} {hp : Heap} {g : Array GenState} {d : Drawn} {t : Nat} {os : OsState} {K : W.Frag} {tl : List Value} {newId initId : String}
/-- object.__setattr__ of an exception comes to the store in its own dict -/
theorem err_set {name : Str} {tk : Tok} {v : Value} {x C : Addr} {ox : Obj} {od : Option Obj} {cd : ClassData} {cs : List Addr} (T : TailOk tl newId initId)
    (X : K.In hp) (I : W.InstAt hp x ox C od) (hcd : W.clsIn K C = some cd) (hm : cd.mro = cs.map Value.ref ++ tl) (ha : W.findIn K (.ref C) name = some none)
    (q : wpAny (model prog w) A.in1 (storeInOwnDict (.ref x) (.ref C) (.str name tk) name v false) (fun fin s' => match fin with | .done f => R (.ok f) s' | .again c => c.quiet = true ∧ codeAny (model prog w) A c R s') (fun e s' => R (.error e) s') ⟨hp, g, d, t, os⟩) :
    codeAny (model prog w) A (.call (.builtin "object.__setattr__") ⟨[.ref x, .str name tk, v], []⟩) R ⟨hp, g, d, t, os⟩ := by
  have SF := F.store_object
  have hob : cd.mro.contains (.type "object") = true := by rw [hm, own_has]; exact T.obj
  have ne : cd.mro.isEmpty = false := by rw [hm]; exact own_some T cs
  have isO : W.Looks (model prog w) hp (isInstance (.ref x) (.type "object")) true := I.type.andThen (W.looks_mroIn X (by
    unfold W.mroIn
    rw [hcd, Option.bind_some, if_neg (by rw [ne]; decide), hob]))
  refine codeAny_call_builtin SF.slot.plain SF.entry (@W.check_slot (model prog w) _ _ ⟨hp, g, d, t, os⟩ "object.__setattr__" "object" "__setattr__" (.ref x) [.str name tk, v] [] _ SF.kind SF.split isO (SF.args (.ref x) (.str name tk) v) ?_)
  have lm : W.Looks (model prog w) hp (mroOf (.ref C)) cd.mro := (W.looks_clsIn X hcd).andThen .now
  have ln : W.Looks (model prog w) hp (storeTaker? none) none := .now
  rw [W.osa_eq, refuse_eq]
  refine wpAny_bind (wpAny_bind (I.type.at (wpAny_bind (lm.at ?_))))
  rw [hm, own_pass T _ cs]
  exact wpAny_pure (wpAny_bind (I.type.at (wpAny_bind ((W.looks_findIn X ha).at (wpAny_bind (ln.at q))))))
/-- the first field: a dict is laid -/
theorem err_new {name : Str} {tk : Tok} {v : Value} {x C : Addr} {fv : Array Value} {cd : ClassData} {cs : List Addr} (T : TailOk tl newId initId)
    (X : K.In hp) (hx : hp.get? x = some { cls := .ref C, data := .fields fv }) (hcd : W.clsIn K C = some cd) (hm : cd.mro = cs.map Value.ref ++ tl) (hh : cd.hasDict = true) (ha : W.findIn K (.ref C) name = some none)
    (q : ∀ h' tk' dx, (∀ b o, b ≠ x → hp.get? b = some o → h'.get? b = some o) → hp.objs.size ≤ dx → dx ≠ x → h'.get? x = some { cls := .ref C, dict := some dx, data := .fields fv } →
      h'.Ns1 dx (fun y => if y = name then some v else none) → R (.ok (.ret .none)) ⟨h', g, d, tk', os⟩) :
    codeAny (model prog w) A (.call (.builtin "object.__setattr__") ⟨[.ref x, .str name tk, v], []⟩) R ⟨hp, g, d, t, os⟩ := by
  have xs : x ≠ hp.objs.size := Nat.ne_of_lt (Heap.lt_size hx)
  refine err_set T X (od := none) ⟨hx, rfl, rfl, trivial⟩ hcd hm ha ?_
  have lc : W.Looks (model prog w) hp (classData C) cd := W.looks_clsIn X hcd
  obtain ⟨nm, bs, mro, ns, qn, hd, sn, sb, ab, col, del⟩ := cd
  obtain rfl : hd = true := hh
  unfold storeInOwnDict ownDictForStores
  repeat (first | with_reducible refine store_in_new ?_ ?_ | with_reducible refine wpAny_loadPart_at hx ?_ | with_reducible refine lc.at ?_ | wp_step)
  · exact ⟨_, #[], _, (Heap.get?_update_ne _ _ _ _ xs.symm).trans (Heap.get?_push_at rfl rfl), rfl, fun e he => absurd he (by simp), fun _ => rfl⟩
  · intro h' tk' hn' hs
    have hx1 : (hp.push { cls := .type "dict", data := .dict #[] }).get? x = some { cls := .ref C, data := .fields fv } := Heap.get?_push_of_some _ hx
    refine q h' tk' hp.objs.size (fun b o nb e => ?_) (Nat.le_refl _) xs.symm ((hs.2 x xs).trans (Heap.get?_update_self _ hx1 rfl)) hn'
    exact (hs.2 b (Nat.ne_of_lt (Heap.lt_size e))).trans ((Heap.get?_update_ne _ _ _ _ nb).trans (Heap.get?_push_of_some _ e))
/-- a further field -/
theorem err_old {name : Str} {tk : Tok} {v : Value} {x C dx : Addr} {fv : Array Value} {cd : ClassData} {m0 : Str → Option Value} {nl : List Str} {cs : List Addr} (T : TailOk tl newId initId)
    (X : K.In hp) (hx : hp.get? x = some { cls := .ref C, dict := some dx, data := .fields fv }) (hns : hp.Ns1 dx m0) (hw : Within m0 nl) (hz : nl.length ≤ 1000) (hcd : W.clsIn K C = some cd) (hm : cd.mro = cs.map Value.ref ++ tl) (hh : cd.hasDict = true)
    (ha : W.findIn K (.ref C) name = some none)
    (q : ∀ h' tk', (∀ b o, b ≠ dx → hp.get? b = some o → h'.get? b = some o) → h'.Ns1 dx (fun y => if y = name then some v else m0 y) → R (.ok (.ret .none)) ⟨h', g, d, tk', os⟩) :
    codeAny (model prog w) A (.call (.builtin "object.__setattr__") ⟨[.ref x, .str name tk, v], []⟩) R ⟨hp, g, d, t, os⟩ := by
  obtain ⟨oD, esD, epD, hoD, hdD, cnt⟩ := hns.count hw
  refine err_set T X (od := some oD) ⟨hx, rfl, rfl, hoD⟩ hcd hm ha ?_
  have lc : W.Looks (model prog w) hp (classData C) cd := W.looks_clsIn X hcd
  obtain ⟨nm, bs, mro, ns, qn, hd, sn, sb, ab, col, del⟩ := cd
  obtain rfl : hd = true := hh
  unfold storeInOwnDict ownDictForStores
  repeat (first | with_reducible refine store_in_old hns hw hz ?_ | with_reducible refine wpAny_loadPart_at hx ?_ | with_reducible refine lc.at ?_ | wp_step)
  intro h' tk' hn' hs
  exact q h' tk' (fun b o nb e => (hs.2 b nb).trans e) hn'
end
theorem cls_of {K : PySem.W.Frag} {C N : Addr} {nm q : Str} {bs bm : List Value} {sn : List Str} {sub : List Value} {ab : Bool} {col : Option Bool} {dd : Option Addr} {k0 k1 k2 k3 k5 : Option Value} {i : String} (h : K.lookup C = some (excClassObj nm q C N bs bm true sn sub ab col dd k0 k1 k2 k3 k5 i)) :
    PySem.W.clsIn K C = some { name := nm, bases := bs, mro := .ref C :: bm, ns := N, qualname := q, hasDict := true, slotNames := sn, subclasses := sub, abstract := ab, collection := col, hasDel := false } := by
  unfold PySem.W.clsIn
  rw [h] <;> rfl
section
variable {X : Cx} {pins : List (Addr × Obj)} {σ : L2.St} {H : Hp} {s : Shared} {a C dx : Addr} {f : Str} {y : V} {u : Value} {fs : List (Str × V)} {Q : Unit → Shared → Prop} {E : Value → Shared → Prop} {A : Around} {newId initId : String}
theorem err_fld (T : ErrC X.K C newId initId) (I : Inv X pins σ H s) (e : H a = some (exo a C none)) (hno : PySem.W.findIn X.K (.ref C) f = some none) (ry : RelV y u)
    (h : ∀ dx s', H dx = none → dx ≠ a → Inv X pins σ (upd (upd H dx (exd dx [(f, y)])) a (exo a C (some dx))) s' → Q () s') : wpAny (model X.prog X.w) A (setAttr (.ref a) f u) Q E s := by
  obtain ⟨tl, nm, q, N, bs, cs, sn, sub, ab, col, dd, k0, k1, k2, k3, k5, TT, hC⟩ := T.ex
  have hcl := cls_of hC
  obtain ⟨t1, ho⟩ := exo_at I.hok e
  obtain ⟨hp, g, d, t, os⟩ := s
  refine PySem.W.set_plain I.kIn (ox := { cls := .ref C, dict := none, data := .fields #[.ref t1, .none, .none, .none, .bool false, .none] }) (od := none) ⟨ho, rfl, rfl, trivial⟩ T.sa ?_
  refine err_new TT (cs := C :: cs) I.kIn ho hcl rfl rfl hno (fun h' tk' dx k dn dne hx hn => ?_)
  have free : H dx = none := I.hok.fresh dn
  have nd : ∀ {b : Addr} {o : Obj}, hp.get? b = some o → b ≠ dx := fun {b o} q => Nat.ne_of_lt (Nat.lt_of_lt_of_le (Heap.lt_size q) dn)
  have na : ∀ {b : Addr}, H b = none → b ≠ a := fun {b} n z => by
    rw [z, e] at n
    cases n
  have U : Un X.fs [] H (upd (upd H dx (exd dx [(f, y)])) a (exo a C (some dx))) hp h' := by
    refine ⟨fun b o q n _ _ => k b o (na n) q, fun b o q n _ _ => ⟨o.slots, k b o (na n) q⟩, fun b o q n _ => by rw [upd_ne (na n), upd_ne (nd q)]; exact n, fun b o q _ => ?_,
      fun b xs q => by rw [upd_ne (at_ne e q exo_tup), upd_ne (ne_of_none q free)]; exact q, fun b o v q => by rw [upd_ne (at_ne e q exo_frz), upd_ne (ne_of_none q free)]; exact q,
      fun b ps q => ⟨#[], by rw [upd_ne (at_ne e q exo_tbl), upd_ne (ne_of_none q free), q]; simp⟩⟩
    by_cases hb : b = a
    · exact ⟨_, by rw [hb]; exact hx⟩
    · exact ⟨o, k b o hb q⟩
  refine h dx _ free dne (I.un (t' := tk') U fun b o q => ?_)
  by_cases hb : b = a
  · subst hb
    rw [upd_same] at q
    cases q
    exact exo_ok hx
  rw [upd_ne hb] at q
  by_cases hd : b = dx
  · subst hd
    rw [upd_same] at q
    cases q
    exact exd_ok hn (relO_put (fs := []) ry fun g => True.intro)
  rw [upd_ne hd] at q
  refine (I.hok b o q).stay (fun c v hc z => k c v ?_ z) (fun c hc => by rw [upd_ne (at_ne e hc exo_own), upd_ne (ne_of_none hc free)]; exact hc) (fun c xs hc => by rw [upd_ne (at_ne e hc exo_tup), upd_ne (ne_of_none hc free)]; exact hc)
  rcases hc with hc | hc
  · rw [hc]; exact hb
  · exact at_ne e hc exo_own
theorem err_fld2 (T : ErrC X.K C newId initId) (I : Inv X pins σ H s) (e : H a = some (exo a C (some dx))) (ed : H dx = some (exd dx fs)) (hl : fs.length ≤ 900) (hno : PySem.W.findIn X.K (.ref C) f = some none) (ry : RelV y u)
    (h : ∀ s', Inv X pins σ (upd H dx (exd dx ((f, y) :: fs))) s' → Q () s') : wpAny (model X.prog X.w) A (setAttr (.ref a) f u) Q E s := by
  obtain ⟨tl, nm, q, N, bs, cs, sn, sub, ab, col, dd, k0, k1, k2, k3, k5, TT, hC⟩ := T.ex
  have hcl := cls_of hC
  obtain ⟨t1, ho⟩ := exo_at I.hok e
  obtain ⟨mA, hns, rel⟩ := exd_at I.hok ed
  have hw := within_of rel
  obtain ⟨hp, g, d, t, os⟩ := s
  obtain ⟨oD, _, _, hoD, _, _⟩ := hns.count hw
  refine PySem.W.set_plain I.kIn (ox := { cls := .ref C, dict := some dx, data := .fields #[.ref t1, .none, .none, .none, .bool false, .none] }) (od := some oD) ⟨ho, rfl, rfl, hoD⟩ T.sa ?_
  refine err_old TT (cs := C :: cs) I.kIn ho hns hw (by rw [List.length_map]; omega) hcl rfl rfl hno (fun h' tk' k hn => ?_)
  have there : ∃ o, h'.get? dx = some o := by
    obtain ⟨o, _, _, e', _⟩ := hn
    exact ⟨o, e'⟩
  exact h _ (I.write (t' := tk') (x := dx) (e := dx) (o := exd dx ((f, y) :: fs)) (by rw [ed]; exact True.intro) (.inl rfl) k there (exd_ok hn (relO_put ry rel)))
/-- the built-in __init__ -/
theorem err_init {us : List Value} {Q : Value → Shared → Prop} (T : ErrC X.K C newId initId) (I : Inv X pins σ H s) (e : H a = some (exo a C none)) (hl : us.length ≤ sizeLine) (h : ∀ s', Inv X pins σ H s' → Q .none s') :
    wpAny (model X.prog X.w) A (call (.builtin initId) (.ref a :: us)) Q E s := by
  obtain ⟨tl, nm, q, N, bs, cs, sn, sub, ab, col, dd, k0, k1, k2, k3, k5, TT, hC⟩ := T.ex
  obtain ⟨t1, ho⟩ := exo_at I.hok e
  obtain ⟨hp, g, d, t, os⟩ := s
  refine wpAny_call (errK_init TT.ini (fun Y => own_has Y cs) (I.kIn _ _ hC) ho hl fun h' t2 k hx => ?_)
  have J := I.write (t' := t) (x := a) (e := a) (o := exo a C none) (by rw [e]; exact True.intro) (.inl rfl) k ⟨_, hx⟩ (exo_ok hx)
  rw [show upd H a (exo a C none) = H from funext fun b => by
    by_cases hb : b = a
    · rw [hb, upd_same, e]
    · rw [upd_ne hb]] at J
  exact h _ J
end
/-! ### rules -/
/-- B.__init__(self, ..), B built in or an own class beneath it -/
def tErrI (K : PySem.W.Frag) (newId initId : String) (ta : TA) : TE := fun σ H Q => ta σ H fun vs H1 => ∃ (a C : Addr) (ws : List V), vs = .ref a :: ws ∧ ws.length ≤ 1000 ∧ ErrC K C newId initId ∧ H1 a = some (exo a C none) ∧ Q .non H1
/-- self.f = e -/
def tErrS (K : PySem.W.Frag) (newId initId : String) (f : Str) (to te : TE) : TS := fun D σ H => te σ H fun y H1 => to σ H1 fun x H2 => ∃ a C : Addr, x = .ref a ∧ ErrC K C newId initId ∧ PySem.W.findIn K (.ref C) f = some none ∧
  H2 a = some (exo a C none) ∧ ∀ dx, H2 dx = none → dx ≠ a → D.nx σ (upd (upd H2 dx (exd dx [(f, y)])) a (exo a C (some dx)))
section
variable {X : Cx} {o e : Expr} {es : List Expr} {to te : TE} {ta : TA} {f x : Str} {p p' p1 p2 pos : Pos} {newId initId : String}
theorem err_callee {pins : List (Addr × Obj)} {s : Shared} {σ : L2.St} {H : Hp} {Q : VK} {hd : Str} (I : Inv X pins σ H s) (ha : PA X (e :: es) ta)
    (h : tErrI X.K newId initId ta σ H Q) (he : starEach (e :: es) X.env = (false, eval e X.env) :: starEach es X.env) (hpl : (backTo pos (starEach es X.env)).any (·.1) = false) :
    wpAny (model X.prog X.w) X.A (callWith pos (Value.builtin initId) [] (backTo pos (starEach (e :: es) X.env)) []) (EP X pins σ Q) X.xe s := by
  refine PyProof.Rows.callWith_method1 (thn (ha.run pos pins _ σ H _ I h) fun us s1 ⟨vs, H1, I1, r1, a, C, ws, ev, hl, T, ea, q⟩ => ?_) he hpl
  subst ev
  cases r1 with
  | @cons _ u0 _ ur ra rw' =>
    obtain rfl : u0 = Value.ref a := ra
    have few : ur.length ≤ sizeLine := by
      rw [← Paired.length rw', sizeLine_eq]
      omega
    exact err_init T I1 ea few fun s' J => ⟨.non, H1, J, rfl, q⟩
theorem pe_binit {pl : Sem Bool} {B : String} (hg : Gl X x) (hm : X.mg x = none) (hv : bootBuiltins x = some (.type B)) (typ : typeOf (.type B) = pure (.type "type")) (vV : PySem.W.findCls X.K (.type B) (.type "type") "__init__" = some (.val (.builtin initId))) (ha : PA X (e :: es) ta)
    (hst : Manifest.isStub B = false) (hh : PySem.W.handedIn (.builtin initId) = true)
    (hc : eval (.Call (.Attribute (.Name x p1) "__init__" p2) (e :: es) [] pos) X.env = (do
      let ov ← eval (.Name x p1) X.env
      standAt p2.atName
      let (f, first) ← holding [ov] (getMethod ov "__init__" pl)
      callWith pos f first (backTo pos (starEach (e :: es) X.env)) (backToKw pos (keywordEach [] X.env))) := by rfl)
    (hnn : x ≠ "__name__" := by decide) (hdb : (x == ("__debug__" : Str)) = false := by decide)
    (he : starEach (e :: es) X.env = (false, eval e X.env) :: starEach es X.env := by rfl) (hpl : (backTo pos (starEach es X.env)).any (·.1) = false := by rfl) :
    PE X (.Call (.Attribute (.Name x p1) "__init__" p2) (e :: es) [] pos) (tErrI X.K newId initId ta) := by
  refine ⟨fun pins s σ H Q I h => ?_⟩
  refine PySem.W.methodCall_KW (ld_blt I hg hm hv ?_ hnn hdb) hc
  obtain ⟨m, fr⟩ := I.fr
  exact PySem.W.method_type fr I.ok.mod.kin typ hst vV hh (err_callee (hd := x) (I.tok _) ha h he hpl)
theorem pe_cinit {pl : Sem Bool} {C0 : Addr} {mc : Value} (hg : Gl X x) (hm : X.mg x = some (.ref C0)) (rd : PySem.W.readsIn X.K C0 mc = true) (ga : PySem.W.specialIn X.K (.ref C0) "__getattribute__" = some (some (.builtin "type.__getattribute__")))
    (vV : PySem.W.findCls X.K (.ref C0) mc "__init__" = some (.val (.builtin initId))) (ha : PA X (e :: es) ta) (hh : PySem.W.handedIn (.builtin initId) = true)
    (hc : eval (.Call (.Attribute (.Name x p1) "__init__" p2) (e :: es) [] pos) X.env = (do
      let ov ← eval (.Name x p1) X.env
      standAt p2.atName
      let (f, first) ← holding [ov] (getMethod ov "__init__" pl)
      callWith pos f first (backTo pos (starEach (e :: es) X.env)) (backToKw pos (keywordEach [] X.env))) := by rfl)
    (hdb : (x == ("__debug__" : Str)) = false := by decide)
    (he : starEach (e :: es) X.env = (false, eval e X.env) :: starEach es X.env := by rfl) (hpl : (backTo pos (starEach es X.env)).any (·.1) = false := by rfl) :
    PE X (.Call (.Attribute (.Name x p1) "__init__" p2) (e :: es) [] pos) (tErrI X.K newId initId ta) := by
  refine ⟨fun pins s σ H Q I h => ?_⟩
  refine PySem.W.methodCall_KW (ld_glob I hg hm ?_ hdb) hc
  refine PySem.W.method_cls I.kIn ga (PySem.W.cls_value I.kIn rd vV hh ?_)
  exact err_callee (hd := x) (I.tok _) ha h he hpl
theorem ps_errS (ho : PE X o to) (he : PE X e te) (hs : swapsWith e (some (.Attribute o f p')) pos.line X.env = pure false := by rfl) : PS X (.Assign [.Attribute o f p'] e pos) (tErrS X.K newId initId f to te) := by
  refine ⟨fun pins s σ H D I h => ?_⟩
  refine plainObj_wpAny_Assign_Attribute (thn (he.run pins s σ H _ I h) fun v s1 ⟨y, H1, I1, r1, q1⟩ => thn (ho.run pins s1 σ H1 _ I1 q1) fun u s2 ⟨x, H2, I2, r2, a, C, ex, T, hno, ea, q⟩ => ?_) hs
  subst ex
  obtain rfl : u = Value.ref a := r2
  exact err_fld T I2 ea hno r1 fun dx s' n ne J => ⟨σ, _, J, q dx n ne⟩
end
/-- what an own __init__ of one field does -/
def spErr (C : Addr) (f : Str) : Sp := fun vs H Q _ => ∃ (a : Addr) (v : V), vs = [.ref a, v] ∧ H a = some (exo a C none) ∧ ∀ dx, H dx = none → dx ≠ a → Q .non (upd (upd H dx (exd dx [(f, v)])) a (exo a C (some dx)))
/-- a class of errors with such an __init__ -/
structure MkErr (P : Program) (w : World) (K : PySem.W.Frag) (mg : Str → Option Value) (base : Heap) (k : Nat) (x : Str) (C : Addr) (f : Str) : Prop where
  cls : ∃ n i, ErrC K C n i
  gl : mg x = some (.ref C)
  ex : ∃ (fi : Addr) (fd : FuncData) (ps : List Str), FnG P w K mg base k fi fd ps (spErr C f) ∧ PySem.W.findIn K (.ref C) "__init__" = some (some (.ref fi)) ∧ PySem.W.typeIn K (.ref fi) = some (.type "function") ∧ Binds K fd ps []
theorem MkErr.mono {P : Program} {w : World} {K : PySem.W.Frag} {mg : Str → Option Value} {base : Heap} {j k : Nat} {x : Str} {C : Addr} {f : Str} (M : MkErr P w K mg base j x C f) (h : j ≤ k) : MkErr P w K mg base k x C f := by
  obtain ⟨c, g, fi, fd, ps, F, r⟩ := M
  exact ⟨c, g, fi, fd, ps, F.mono h, r⟩
def zErr (C : Addr) (f : Str) (W : XK) (vs : List V) (H : Hp) : Prop := ∃ v, vs = [v] ∧ ∀ d, H d = none → W (.ref C) (some d) (upd H d (.xd [(f, v)]))
def tRaiseE (C : Addr) (f : Str) (W : WX) (ta : TA) : TS := fun _ σ H => ta σ H (zErr C f fun c d H' => W c d σ H')
section
variable {X : Cx} {e : Expr} {es : List Expr} {ta : TA} {f x : Str} {p pos : Pos} {C : Addr} {k : Nat} {W : WX}
theorem pmk_err (M : MkErr X.prog X.w X.K X.mg X.base k x C f) (room : Room (k + 1) X.A) (noG : X.A.guards = some []) (tk0 : ∀ e s', ∀ H s, L2N.CX X.prog X.w X.stack H s (fun _ _ _ => False) e s' → X.xe e s') (hg : Gl X x) (ha : PA X (e :: es) ta)
    (hdb : (x == ("__debug__" : Str)) = false := by decide) (he : starEach (e :: es) X.env = (false, eval e X.env) :: starEach es X.env := by rfl) (hpl : (backTo pos (starEach es X.env)).any (·.1) = false := by rfl) :
    L2N.PMk X (.Call (.Name x p) (e :: es) [] pos) (fun σ H Q => ta σ H (zErr C f Q)) := by
  intro pins s σ H Q I h
  obtain ⟨newId, initId, T⟩ := M.cls
  obtain ⟨fi, fd, ps, F, iC, tI, hb⟩ := M.ex
  obtain ⟨tl, nm, q, N, bs, cs, sn, sub, ab, col, dd, k0, k1, k2, k3, k5, TT, hC⟩ := T.ex
  refine wpAny_Call_Name_kw (ld_glob I hg M.gl ?_ hdb)
  refine PySem.W.callWith_K (h₀ := X.base) I.ok.mod.kin T.kC (thn (ha.run pos pins s σ H _ I h) ?_) he hpl
  rintro us s1 ⟨vs, H1, I1, r1, v, rfl, q1⟩
  refine ⟨I1.kIn, ?_⟩
  show wpAny _ _ (call (.ref C) us) _ _ _
  obtain ⟨hp, g, dr, tk, os⟩ := s1
  have up : hp.objs.size ≤ hp.objs.size + 1 := Nat.le_succ _
  have new : H1 (hp.objs.size + 1) = none := I1.hok.fresh up
  have kk : ∀ b o, hp.get? b = some o → ((hp.push (PySem.W.kdv_tup us)).push (PySem.HandSPX.excO C hp.objs.size)).get? b = some o := fun b o e => Heap.get?_push_of_some _ (Heap.get?_push_of_some _ e)
  have here : ((hp.push (PySem.W.kdv_tup us)).push (PySem.HandSPX.excO C hp.objs.size)).get? (hp.objs.size + 1) = some (PySem.HandSPX.excO C hp.objs.size) := by heap_get
  have I2 : Inv X pins σ (upd H1 (hp.objs.size + 1) (exo (hp.objs.size + 1) C none)) ⟨(hp.push (PySem.W.kdv_tup us)).push (PySem.HandSPX.excO C hp.objs.size), g, dr, tk, os⟩ :=
    I1.laid (t' := tk) (a := hp.objs.size + 1) (o := exo (hp.objs.size + 1) C none) (h' := (hp.push (PySem.W.kdv_tup us)).push (PySem.HandSPX.excO C hp.objs.size)) kk up (exo_ok here)
  have r2 : Vals (V.ref (hp.objs.size + 1) :: ([v] ++ [])) (Value.ref (hp.objs.size + 1) :: (us ++ [])) := .cons rfl (r1.append .nil)
  have want : spErr C f (V.ref (hp.objs.size + 1) :: ([v] ++ [])) (upd H1 (hp.objs.size + 1) (exo (hp.objs.size + 1) C none))
      (fun y H2 => y = .non ∧ ∃ (d : Addr) (fs : List (Str × V)), H2 (hp.objs.size + 1) = some (exo (hp.objs.size + 1) C (some d)) ∧ H2 d = some (exd d fs) ∧ H1 d = none ∧ Q (.ref C) (some d) (upd (del H2 (hp.objs.size + 1)) d (.xd fs))) (fun _ _ _ => False) := by
    refine ⟨_, v, rfl, upd_same, fun dx n ne => ⟨rfl, dx, _, upd_same, by rw [upd_ne ne, upd_same], by rwa [upd_ne ne] at n, ?_⟩⟩
    have nd : H1 dx = none := by rwa [upd_ne ne] at n
    have e : upd (del (upd (upd (upd H1 (hp.objs.size + 1) (exo (hp.objs.size + 1) C none)) dx (exd dx [(f, v)])) (hp.objs.size + 1) (exo (hp.objs.size + 1) C (some dx))) (hp.objs.size + 1)) dx (.xd [(f, v)]) = upd H1 dx (.xd [(f, v)]) := by
      funext b
      by_cases hb : b = dx
      · rw [hb, upd_same, upd_same]
      · rw [upd_ne hb, upd_ne hb]
        by_cases hc : b = hp.objs.size + 1
        · rw [hc, del_same, new]
        · rw [del_ne hc, upd_ne hc, upd_ne hb, upd_ne hc]
    rw [e]
    exact q1 dx nd
  have many : (Value.ref (hp.objs.size + 1) :: us ++ []).length = ps.length := by
    have e := r2.length
    rw [F.len _ _ _ _ want] at e
    exact e.symm
  have few : us.length ≤ sizeLine := by
    rw [← Paired.length r1, sizeLine_eq]
    exact (by decide : 1 ≤ 16777216)
  refine wpAny_call (errK_call TT.new (fun Y => own_has Y cs) (I1.kIn _ _ hC) (PySem.W.looks_findIn I1.kIn iC) (fun self => PySem.W.bind_fn I1.kIn self tI) few
    (codeAny_mono (F.run _ X.stack _ _ ⟨Value.ref (hp.objs.size + 1) :: us, []⟩ (Value.ref (hp.objs.size + 1) :: us ++ []) _ _ (fun _ _ _ => False) (room.make C us []) (make_guards noG) (I2.env0.make C us []) (hb _ (Value.ref (hp.objs.size + 1) :: us) I2.kIn many) r2 want) ?_))
  intro r s' hq'
  match r, hq' with
  | .error er, hq' => exact tk0 er s' _ _ hq'
  | .ok (.ret u), hq' =>
    obtain ⟨y, H2, os2, bare2, un2, hok2, rv, ev, d, fs, ea, ed, hd1, q2⟩ := hq'
    subst ev
    obtain ⟨h2, g2, d2, t2, os'⟩ := s'
    obtain ⟨t0, G, J, kG, ge, hoe, na⟩ := mk_end0 (d2 := d2) (t2 := t2) I1 up kk un2 hok2 os2 bare2 ea ed hd1
    exact ⟨rv, hp.objs.size + 1, _, _, ⟨G, g2, d2, t2, os'⟩, _, .ref C, some d, rfl, J, kG, ge, hoe, ⟨rfl, rfl, fun us e => by cases e; rfl⟩, rfl, rfl, na, rfl, bare2, raises_own T.exC T.tyC, q2⟩
  | .ok .next, hq' => exact False.elim hq'
  | .ok .brk, hq' => exact False.elim hq'
  | .ok .cont, hq' => exact False.elim hq'
theorem cx_none {X : Cx} : ∀ e s', ∀ H s, L2N.CX X.prog X.w X.stack H s (fun _ _ _ => False) e s' → X.xe e s' := by
  intro e s' H s c
  obtain ⟨_, _, _, _, _, _, _, _, _, _, _, _, no⟩ := c
  exact no.elim
/-- raise C(e) -/
theorem ps_raiseE {rpos : Pos} (hc : X.calm = true) (tk : L2N.Takes X W) (M : MkErr X.prog X.w X.K X.mg X.base k x C f) (room : Room (k + 1) X.A) (noG : X.A.guards = some []) (hg : Gl X x) (ha : PA X (e :: es) ta)
    (hdb : (x == ("__debug__" : Str)) = false := by decide) (he : starEach (e :: es) X.env = (false, eval e X.env) :: starEach es X.env := by rfl) (hpl : (backTo pos (starEach es X.env)).any (·.1) = false := by rfl) :
    PS X (.Raise (some (.Call (.Name x p) (e :: es) [] pos)) none rpos) (tRaiseE C f W ta) :=
  L2N.ps_raise hc tk (pmk_err M room noG cx_none hg ha hdb he hpl)
end
section
variable {σ : L2.St} {H : Hp} {D : Ends} {C : Addr} {f : Str} {W : WX} {ta : TA} {t : TS} {v : V} {WK : XK}
theorem raiseE_ (h : ta σ H (zErr C f fun c d H' => W c d σ H')) : tRaiseE C f W ta D σ H := h
theorem seq_raiseE {u : TS} (h : ta σ H (zErr C f fun c d H' => W c d σ H')) : tSeq (tRaiseE C f W ta) u D σ H := h
theorem zerr_ (h : ∀ d H', H d = none → Ex H H' → H' d = some (.xd [(f, v)]) → WK (.ref C) (some d) H') : zErr C f WK [v] H := ⟨v, rfl, fun d n => h d _ n (Ex.new n) upd_same⟩
end
end Z
namespace Z
open PySem
theorem tail_ValueError : TailOk [.type "ValueError", .type "Exception", .type "BaseException", .type "object"] "ValueError.__new__" "ValueError.__init__" := ⟨newOk_of F.excBase_ValueError, iniOk_of F.excBase_ValueError, F.store_ValueError.passes, by decide +kernel⟩
theorem tail_IndexError : TailOk [.type "IndexError", .type "LookupError", .type "Exception", .type "BaseException", .type "object"] "IndexError.__new__" "IndexError.__init__" := ⟨newOk_of F.excBase_IndexError, iniOk_of F.excBase_IndexError, F.store_IndexError.passes, by decide +kernel⟩
theorem tail_LookupError : TailOk [.type "LookupError", .type "Exception", .type "BaseException", .type "object"] "LookupError.__new__" "LookupError.__init__" := ⟨newOk_of F.excBase_LookupError, iniOk_of F.excBase_LookupError, F.store_LookupError.passes, by decide +kernel⟩
theorem tail_OverflowError : TailOk [.type "OverflowError", .type "ArithmeticError", .type "Exception", .type "BaseException", .type "object"] "OverflowError.__new__" "OverflowError.__init__" := ⟨newOk_of F.excBase_OverflowError, iniOk_of F.excBase_OverflowError, F.store_OverflowError.passes, by decide +kernel⟩
theorem tail_RuntimeError : TailOk [.type "RuntimeError", .type "Exception", .type "BaseException", .type "object"] "RuntimeError.__new__" "RuntimeError.__init__" := ⟨newOk_of F.excBase_RuntimeError, iniOk_of F.excBase_RuntimeError, F.store_RuntimeError.passes, by decide +kernel⟩
theorem tail_KeyError : TailOk [.type "KeyError", .type "LookupError", .type "Exception", .type "BaseException", .type "object"] "LookupError.__new__" "KeyError.__init__" := ⟨newOk_KeyError, iniOk_KeyError, pass_KeyError, by decide +kernel⟩
end Z
namespace Z
open PySem PySem.Spec PyProof.Rows L2 PySem.HandSPX PySem.OEX
section
variable {σ : L2.St} {H : Hp} {D : Ends} {ta : TA} {to te : TE} {K : PySem.W.Frag} {newId initId : String} {f : Str} {a C : Addr} {Q : VK} {y : V} {ws : List V} {N : L2.St → Hp → Prop}
def zErrI (K : PySem.W.Frag) (newId initId : String) (Q : VK) (vs : List V) (H : Hp) : Prop := ∃ (a C : Addr) (ws : List V), vs = .ref a :: ws ∧ ws.length ≤ 1000 ∧ ErrC K C newId initId ∧ H a = some (exo a C none) ∧ Q .non H
theorem errI_ (h : ta σ H (zErrI K newId initId Q)) : tErrI K newId initId ta σ H Q := h
theorem zerrI_ (T : ErrC K C newId initId) (e : H a = some (exo a C none)) (l : ws.length ≤ 1000) (h : Q .non H) : zErrI K newId initId Q (.ref a :: ws) H := ⟨a, C, ws, rfl, l, T, e, h⟩
def zErrS (K : PySem.W.Frag) (newId initId : String) (f : Str) (y : V) (N : L2.St → Hp → Prop) (σ : L2.St) (x : V) (H : Hp) : Prop := ∃ a C : Addr, x = .ref a ∧ ErrC K C newId initId ∧ PySem.W.findIn K (.ref C) f = some none ∧
  H a = some (exo a C none) ∧ ∀ dx, H dx = none → dx ≠ a → N σ (upd (upd H dx (exd dx [(f, y)])) a (exo a C (some dx)))
theorem errS_ (h : te σ H fun y H1 => to σ H1 (zErrS K newId initId f y D.nx σ)) : tErrS K newId initId f to te D σ H := h
theorem zerrS_ (T : ErrC K C newId initId) (no : PySem.W.findIn K (.ref C) f = some none) (e : H a = some (exo a C none)) (h : ∀ dx, H dx = none → dx ≠ a → N σ (upd (upd H dx (exd dx [(f, y)])) a (exo a C (some dx)))) : zErrS K newId initId f y N σ (.ref a) H :=
  ⟨a, C, rfl, T, no, e, h⟩
end
end Z
/-! Z, part S: len, str, repr, == of own objects; slices stored; starred targets; sums; f-texts. -/
namespace Z
open PySem PySem.Spec PyProof.Rows L2
theorem room_in1 {k : Nat} {A : Around} (r : Room (k + 1) A) : Room k A.in1 := ⟨r.hd, by have := r.dp; show A.depth + 3 * k + 5 < _; omega, by have := r.un; show A.units + 1 + 16 * k + 200 < _; omega⟩
section
variable {X : Cx} {k n : Nat} {C : Addr} {m : Str} {gV : List V → List V → List V} {sp : Sp}
/-- a method run within a built-in's frame -/
theorem run_own {pins : List (Addr × Obj)} {σ : L2.St} {H : Hp} {s : Shared} {Q : VK} {us : List Value} {vs : List V} {A : Around} {E : Value → Shared → Prop}
    (M : MthK X.prog X.w X.K X.mg X.base k C m n [] gV sp) (room : Room k A) (noG : A.guards = some []) (hf : A.frames = X.A.frames) (I : Inv X pins σ H s) (r : Vals vs us) (l : vs.length = n) (want : sp (gV vs []) H Q (fun _ _ _ => False)) :
    ∃ f, PySem.W.findIn X.K (.ref C) m = some (some (.ref f)) ∧ PySem.W.isFn X.K (.ref f) = true ∧ wpAny (model X.prog X.w) A (call (.ref f) us) (EP X pins σ Q) E s := by
  obtain ⟨f, fd, ps, g, F, hm, hb⟩ := M.ex
  refine ⟨f, hm.at_, hm.fn, ?_⟩
  have r2 := hb.rel r .nil
  have e0 := I.env0
  have e1 : Env0 X.prog X.w X.K X.mg X.base A X.stack s H := ⟨hf.trans e0.frames, e0.mod, e0.bs, e0.bsz, e0.funs, e0.frf, e0.hok, e0.bare⟩
  have ran := F.run A X.stack s H ⟨us, []⟩ (g us []) (gV vs []) Q (fun _ _ _ => False) room noG e1 (hb.to s us [] I.kIn (r.length.symm.trans l) rfl) r2 want
  refine wpAny_call (codeAny_mono ran ?_)
  intro r s' hr
  match r, hr with
  | .error e, hr =>
    obtain ⟨_, _, _, _, _, _, _, _, _, _, _, _, no⟩ := hr
    exact no.elim
  | .ok (.ret u), hr => exact I.after hr
  | .ok .next, hr => exact False.elim hr
  | .ok .brk, hr => exact False.elim hr
  | .ok .cont, hr => exact False.elim hr
theorem own_inst {pins : List (Addr × Obj)} {σ : L2.St} {H : Hp} {s : Shared} {a dx : Addr} {fs : List (Str × V)} (I : Inv X pins σ H s) (e : H a = some (.ins C dx fs)) : ∃ ox od, PySem.W.InstAt s.heap a ox C od := by
  obtain ⟨mA, O, _⟩ := ins_get I.hok e
  obtain ⟨od, J, _⟩ := O.look
  exact ⟨_, _, J⟩
def rOwn1 (C : Addr) (sp : Sp) (gV : List V → List V → List V) (P : VK → VK) : List V → Hp → VK → Prop := fun xs H Q => ∃ a dx fs, xs = [.ref a] ∧ H a = some (.ins C dx fs) ∧ sp (gV [.ref a] []) H (P Q) (fun _ _ _ => False)
def isLen (Q : VK) : VK := fun v H => ∃ n : Nat, v = .int n ∧ n ≤ 16777216 ∧ Q v H
def isTxt (Q : VK) : VK := fun v H => ∃ l : List Nat, v = T l ∧ Q v H
theorem z_lenO (M : MthK X.prog X.w X.K X.mg X.base k C "__len__" 1 [] gV sp) (room : Room (k + 3) X.A) (noG : X.A.guards = some []) : CallR X (.builtin "len") (rOwn1 C sp gV isLen) := by
  intro pins s σ H xs us Q I r h
  obtain ⟨a, dx, fs, rfl, ea, q⟩ := h
  obtain ⟨u, rfl, ru⟩ := vals1 r
  cases ru
  obtain ⟨ox, od, J⟩ := own_inst I ea
  obtain ⟨mm, fr⟩ := I.fr
  obtain ⟨f, hf, fn, go⟩ := run_own (E := X.xe) (A := X.A.in1) M ((room_in1 room).mono (by omega)) noG rfl I r rfl q
  refine PySem.W.len_K fr I.ok.mod.kin J hf fn (wpAny_mono go ?_ fun _ _ z => z)
  rintro v s' ⟨x, H', I', rx, n, rfl, hn, q'⟩
  obtain ⟨t, rfl⟩ := rx
  exact ⟨⟨Int.natCast_nonneg n, by have : (2 : Int) ^ 63 = 9223372036854775808 := by decide
                                   omega⟩, V.int n, H', I'.tok _, ⟨_, rfl⟩, q'⟩
theorem txt_back {pins : List (Addr × Obj)} {σ : L2.St} {Q : VK} {v : Value} {s' : Shared} (h : EP X pins σ (isTxt Q) v s') : PySem.W.StrBack (EP X pins σ Q) v s' := by
  obtain ⟨x, H', I', rx, l, rfl, q'⟩ := h
  obtain ⟨t, rfl⟩ := rx
  exact ⟨T l, H', I', ⟨t, rfl⟩, q'⟩
theorem z_reprO (M : MthK X.prog X.w X.K X.mg X.base k C "__repr__" 1 [] gV sp) (room : Room (k + 3) X.A) (noG : X.A.guards = some []) : CallR X (.builtin "repr") (rOwn1 C sp gV isTxt) := by
  intro pins s σ H xs us Q I r h
  obtain ⟨a, dx, fs, rfl, ea, q⟩ := h
  obtain ⟨u, rfl, ru⟩ := vals1 r
  cases ru
  obtain ⟨ox, od, J⟩ := own_inst I ea
  obtain ⟨mm, fr⟩ := I.fr
  obtain ⟨f, hf, fn, go⟩ := run_own (E := X.xe) (A := X.A.in1) M ((room_in1 room).mono (by omega)) noG rfl I r rfl q
  exact PySem.W.repr_K (room_in1 room).units0 fr I.ok.mod.kin J hf fn (wpAny_mono go (fun v s' z => txt_back z) fun _ _ z => z)
theorem z_strO (M : MthK X.prog X.w X.K X.mg X.base k C "__str__" 1 [] gV sp) (room : Room (k + 3) X.A) (noG : X.A.guards = some []) : CallR X (.type "str") (rOwn1 C sp gV isTxt) := by
  intro pins s σ H xs us Q I r h
  obtain ⟨a, dx, fs, rfl, ea, q⟩ := h
  obtain ⟨u, rfl, ru⟩ := vals1 r
  cases ru
  obtain ⟨ox, od, J⟩ := own_inst I ea
  have r2 := room_in1 (k := k + 1) (room_in1 room)
  obtain ⟨f, hf, fn, go⟩ := run_own (E := X.xe) (A := X.A.in1.in1) M (r2.mono (by omega)) noG rfl I r rfl q
  exact PySem.W.kso_call r2.units0 I.kIn J hf fn (wpAny_mono go (fun v s' z => txt_back z) fun _ _ z => z)
/-- own == of two instances of one class -/
def rEqO (C : Addr) (sp : Sp) (gV : List V → List V → List V) : R2 := fun x y H Q => ∃ a b dx dy fs gs, x = .ref a ∧ y = .ref b ∧ H a = some (.ins C dx fs) ∧ H b = some (.ins C dy gs) ∧ sp (gV [x, y] []) H (fun v H' => ∃ c, v = .bl c ∧ Q v H') (fun _ _ _ => False)
theorem z_eqO (M : MthK X.prog X.w X.K X.mg X.base k C "__eq__" 2 [] gV sp) (room : Room (k + 3) X.A) (noG : X.A.guards = some []) : OpR X (compareOp .Eq) (rEqO C sp gV) := by
  intro pins s σ H x y v u Q I rx ry h
  obtain ⟨a, b, dx, dy, fs, gs, rfl, rfl, ea, eb, q⟩ := h
  cases rx
  cases ry
  obtain ⟨ox, od, J⟩ := own_inst I ea
  obtain ⟨ox', od', J'⟩ := own_inst I eb
  obtain ⟨mm, fr⟩ := I.fr
  obtain ⟨f, hf, fn, go⟩ := run_own (E := X.xe) (A := X.A) M (room.mono (by omega)) noG rfl I (us := [.ref a, .ref b]) (vs := [.ref a, .ref b]) (.cons rfl (.cons rfl .nil)) rfl q
  refine PySem.W.cmp_K (op := .Eq) (tb := .ref C) room.units0 fr I.ok.mod.kin J J'.type (by simp [PySem.W.notFirst]) hf fn (wpAny_mono go ?_ fun _ _ z => z)
  rintro v s' ⟨z, H', I', rz, c, rfl, q'⟩
  cases rz
  exact ⟨V.bl c, H', I', rfl, q'⟩
end
end Z
namespace Z
open PySem PySem.Spec PyProof.Rows L2
section
variable {prog : Program} {w : World} {A : Around} {E : Value → Shared → Prop} {s : Shared}
theorem clamp_run (a c n : Nat) : sliceBounds (some (a : Int)) (some (c : Int)) none n = (((min a n : Nat) : Int), ((min c n : Nat) : Int), 1) := by
  have na : ¬ ((a : Int) < 0) := by omega
  have nc : ¬ ((c : Int) < 0) := by omega
  simp only [sliceBounds, Option.getD_none, na, nc, if_false, show (1 : Int) > 0 by decide, if_true]
  congr 1
  · omega
  · congr 1
    omega
/-- l[a:c] = b, whatever the places -/
theorem set_clamp {l b sl : Addr} {its new : Array Value} {n n2 : Nat} {vl vu : Value} {a c : Nat} {Q : Unit → Shared → Prop} (hac : a ≤ c)
    (e : s.heap.get? l = some { cls := .type "list", data := .seq its n }) (e2 : s.heap.get? b = some { cls := .type "list", data := .seq new n2 }) (hne : l ≠ b)
    (hs : s.heap.IsSliceOf sl vl vu .none) (pl : IsPart vl (some (a : Int))) (pu : IsPart vu (some (c : Int))) (room : its.size + new.size ≤ sizeLine)
    (h : Q () { s with heap := s.heap.update l (Obj.mapSeq fun xs => xs.extract 0 (min a its.size) ++ new ++ xs.extract (min c its.size) xs.size) }) : wpAny (model prog w) A (setItem (.ref l) (.ref sl) (.ref b)) Q E s := by
  have hl := PySem.IsL.isList e
  have hb := PySem.IsL.isList e2
  obtain ⟨os, hos, hcs, hds⟩ := id hs
  have tS : s.TypeIs (.ref sl) "slice" := ⟨os, hos, hcs⟩
  have other : Builtin.List.listSameRef (.ref l) (.ref b) = false := by unfold Builtin.List.listSameRef; exact beq_eq_false_iff_ne.mpr hne
  have top : (max ((min a its.size : Nat) : Int) ((min c its.size : Nat) : Int)).toNat = min c its.size := by omega
  have fits : ((fun xs : Array Value => xs.extract 0 (min a its.size) ++ new ++ xs.extract (min c its.size) xs.size) its).size ≤ sizeLine + 1 := by simp only [Array.size_append, Array.size_extract]; omega
  unfold setItem; try with_reducible refine wpAny_holding ?_
  first | refine wpAny_bind (wpAny_pure ?_) | skip
  refine wpAny_bind (wpAny_sequenceKey hl.typeIs (by decide) ?_)
  refine wpAny_bind (wpAny_callSpecial?_slot (name := Str.ofString "__setitem__") hl.typeIs slot_list_setitem (wpAny_call_entry slot_list_setitem hl.typeIs entry_list_setitem ?_ (args_list_setitem _ _ _)))
  show wpAny _ _ (Builtin.List.listSubscript? (.ref sl) >>= _) _ _ s; refine wpAny_bind ?_
  unfold Builtin.List.listSubscript?; refine wpAny_bind (wpAny_specialOf tS slice_no_index ?_)
  simp only [Option.isNone_none, if_true]; refine wpAny_pure ?_
  show wpAny _ _ (typeOf (.ref sl) >>= _) _ _ s; refine wpAny_bind (wpAny_typeOf tS ?_)
  first | rw [if_neg (by decide)] | refine PySem.W.KFB.if_not (by decide) ?_
  rw [listSliceParts_eq]; refine wpAny_bind (wpAny_bind (wpAny_field hos hds (x := .none) rfl (wpAny_bind (wpAny_listPart .none ?_))))
  rw [if_neg (show ¬ ((rawPart none == rawInt 0) = true) from Bool.false_ne_true)]
  refine wpAny_bind (wpAny_field hos hds (x := vl) rfl (wpAny_bind (wpAny_listPart pl (wpAny_bind (wpAny_field hos hds (x := vu) rfl (wpAny_bind (wpAny_listPart pu (wpAny_pure ?_))))))))
  first | simp only [other, Bool.false_eq_true, if_false] | refine PySem.W.KFB.if_not other ?_ | (dsimp only; rw [if_neg (by rw [other]; exact Bool.false_ne_true)])
  refine wpAny_bind (m := Builtin.List.listAllItems (.ref b) "must assign iterable to extended slice") ?_; unfold Builtin.List.listAllItems
  refine wpAny_bind (wpAny_typeOf hb.typeIs ?_); first | refine PySem.W.KFB.if_so (by decide) ?_ | rw [if_pos (by decide)] | simp only [beq_self_eq_true, Bool.true_or, if_true]
  unfold Builtin.List.listItems; refine wpAny_bind (wpAny_seqItems e2 rfl (wpAny_pure (wpAny_bind (wpAny_bind (wpAny_seqItems e rfl (wpAny_pure ?_))))))
  refine wpAny_bind (wpAny_of_eq ((sliceIndices_raw (some (a : Int)) (some (c : Int)) none its.size (by simp)).trans (congrArg (pure : Int × Int × Int → Sem (Int × Int × Int)) (clamp_run a c its.size))) ?_)
  show wpAny _ _ (if ((1 : Int) == 1) = true then _ else _) _ _ s; rw [if_pos (by decide)]; refine wpAny_bind (wpAny_rule ?_)
  first | simp only [notLongL room, Bool.false_eq_true, if_false] | refine PySem.W.KFB.if_not (notLongL room) ?_
  first | refine wpAny_bind (wpAny_pure ?_) | skip
  show wpAny _ _ (updateSeq l (fun xs => xs.extract 0 (((min a its.size : Nat) : Int)).toNat ++ new ++ xs.extract (max ((min a its.size : Nat) : Int) ((min c its.size : Nat) : Int)).toNat xs.size) >>= _) _ _ s
  rw [top, Int.toNat_natCast]
  refine wpAny_bind (wpAny_updateSeq (hz := Nat.le_trans (Nat.le_add_right _ _) room) (_hz' := fits) e rfl (wpAny_bind (wpAny_letGo ?_)))
  first | exact wpAny_bind (wpAny_pure (wpAny_pure ⟨.none, rfl, wpAny_pure h⟩)) | exact wpAny_pure ⟨.none, rfl, wpAny_pure h⟩
end
section
variable {X : Cx} {o : Expr} {lo hi : Option Expr} {to : TE} {tl th : TO} {p2 pos : Pos}
/-- l[a:c] = ys -/
def zSlS (x v : V) (lo hi : Option Int) (R : Hp → Prop) (H : Hp) : Prop := ∃ (l b : Addr) (a c : Nat) (xs ys : List V), x = .ref l ∧ v = .ref b ∧ lo = some (a : Int) ∧ hi = some (c : Int) ∧ H l = some (.lst xs) ∧ H b = some (.lst ys) ∧ l ≠ b ∧ a ≤ c ∧ xs.length + ys.length ≤ sz ∧
  R (upd H l (.lst (xs.take a ++ ys ++ xs.drop c)))
def gSlice (to : TE) (tl th : TO) : TG := fun v σ H Q => to σ H fun x H1 => tl σ H1 fun lo H2 => th σ H2 fun hi H3 => zSlS x v lo hi (Q σ) H3
theorem pg_slice (ho : PE X o to) (hl : PO X lo tl) (hu : PO X hi th)
    (ha : ∀ v, assign (.Subscript o (.Slice lo hi none p2) pos) X.env v = (do
      let ov ← holding [v] (eval o X.env)
      let iv ← holding [v, ov] (eval (.Slice lo hi none p2) X.env)
      standAt pos
      holding [v, ov, iv] (setItem ov iv v)
      release [iv, v, ov] []) := by intro _; rfl) : PG X (.Subscript o (.Slice lo hi none p2) pos) (gSlice to tl th) := by
  refine ⟨fun pins s σ H v u Q I r h => ?_⟩
  rw [ha]
  refine wpAny_bind (wpAny_holding (thn (ho.run pins s σ H _ I h) fun ov s1 ⟨x, H1, I1, r1, q1⟩ => wpAny_bind (wpAny_holding ?_)))
  refine wpAny_Slice (thn (hl.run pins s1 σ H1 _ I1 q1) fun vl s2 ⟨l', H2, I2, pl, q2⟩ => thn (hu.run pins s2 σ H2 _ I2 q2) fun vu s3 ⟨u', H3, I3, pu, q3⟩ => ?_)
  refine thn (po_none.run pins s3 σ H3 (fun o H4 => o = none ∧ H4 = H3) I3 ⟨rfl, rfl⟩) fun vn s4 ⟨n', H4, I4, pn, en, e4⟩ => ?_
  subst en e4
  obtain ⟨l, b, a, c, xs, ys, rfl, rfl, rfl, rfl, hL, hB, hne, hac, hz, q⟩ := q3
  cases r
  cases r1
  cases pn
  have I5 : Inv X pins σ H4 { s4 with heap := s4.heap.push { cls := .type "slice", data := .fields #[vl, vu, .none] } } := I4.kept (t' := s4.toks) fun b ob q => Heap.get?_push_of_some _ q
  obtain ⟨z1, its, n1, rv1, hl1, e1⟩ := I5.lstM hL
  obtain ⟨z2, its2, n2, rv2, hl2, e2⟩ := I5.lstM hB
  refine wpAny_bind (wpAny_standAt (wpAny_bind (wpAny_holding ?_)))
  refine set_clamp hac e1 e2 hne ⟨_, Heap.get?_push_size _ rfl, rfl, rfl⟩ pl pu (by rw [List.size_toArray, List.size_toArray, ← hl1, ← rv2.length, sz_eq]; exact hz) ?_
  refine wpAny_release ⟨σ, _, ?_, q⟩
  refine I5.lset (its' := its.take a ++ its2 ++ its.drop c) (t' := s4.toks) hL e1 ?_ (Vals.append (Vals.append (rv1.take _) rv2) (rv1.drop _)) ?_
  · have t1 : its.take (min a its.toArray.size) = its.take a := by
      rw [List.size_toArray]
      by_cases q : a ≤ its.length
      · rw [Nat.min_eq_left q]
      · rw [Nat.min_eq_right (by omega), List.take_length, List.take_of_length_le (by omega)]
    have t2 : its.drop (min c its.toArray.size) = its.drop c := by
      rw [List.size_toArray]
      by_cases q : c ≤ its.length
      · rw [Nat.min_eq_left q]
      · rw [Nat.min_eq_right (by omega), List.drop_length, List.drop_of_length_le (by omega)]
    rw [← t1, ← t2]
    exact splice_eq its its2 _ _
  · rw [List.length_append, List.length_append, List.length_take, List.length_drop, sz_eq]
    have : (its.length : Nat) = xs.length := hl1.symm
    have := rv2.length
    omega
end
section
variable {σ : L2.St} {H : Hp} {to : TE} {tl th : TO} {v : V} {Q : L2.St → Hp → Prop} {R : Hp → Prop} {l b : Addr} {xs ys : List V}
theorem gslice_ (h : to σ H fun x H1 => tl σ H1 fun lo H2 => th σ H2 fun hi H3 => zSlS x v lo hi (Q σ) H3) : gSlice to tl th v σ H Q := h
theorem zsls_ {lo hi : Int} (e1 : H l = some (.lst xs)) (e2 : H b = some (.lst ys)) (ne : l ≠ b) (h0 : 0 ≤ lo) (h1 : lo ≤ hi) (hz : xs.length + ys.length ≤ 16777216) (h : ∀ H', H' l = some (.lst (xs.take lo.toNat ++ ys ++ xs.drop hi.toNat)) → But l H H' → R H') :
    zSlS (.ref l) (.ref b) (some lo) (some hi) R H :=
  ⟨l, b, lo.toNat, hi.toNat, xs, ys, rfl, rfl, by rw [Int.toNat_of_nonneg h0], by rw [Int.toNat_of_nonneg (by omega)], e1, e2, ne, by omega, hz, h _ upd_same But.upd⟩
end
end Z
/-! Z, part T: starred targets; walks with any target; sums, texts put together. -/
namespace Z
open PySem PySem.Spec PyProof.Rows L2
/-! ### (a, *b) = a tuple or a list -/
section
variable {prog : Program} {w : World} {A : Around} {E : Value → Shared → Prop} {s : Shared}
theorem star_tail {l I i n : Nat} {items : Array Value} {T : String} {St : Nat → Heap → Prop} {h1 : Heap} {Q : List Value → Shared → Prop} (hi : i < n) (hn : n ≤ items.size + 1) (hz : items.size ≤ 16384)
    (hTm : T = "str_ascii_iterator" ∨ T = "str_iterator" ∨ T = "list_iterator" ∨ T = "tuple_iterator") (W : PySem.Walks prog w A.in1 I [I, l] [I] items.size (fun i v => items[i]? = some v) St)
    (hT : ∀ i (u : Shared), St i u.heap → u.TypeIs (.ref I) T) (st : St i h1) (lI : I < h1.objs.size) (ll : l < h1.objs.size)
    (k1 : ∀ b o, b ≠ I → s.heap.get? b = some o → h1.get? b = some o) (nI : s.heap.objs.size ≤ I)
    (h : ∀ (h2 : Heap) (tk : Nat), (∀ b o, s.heap.get? b = some o → h2.get? b = some o) → Q (items.toList.take i ++ [.ref h2.objs.size] ++ (items.toList.drop i).drop (items.size + 1 - n)) { s with heap := h2.push { cls := .type "list", data := .seq ((items.toList.drop i).take (items.size + 1 - n)).toArray }, toks := tk }) :
    wpAny (model prog w) A (do
      let rest ← holding (items.toList.take i) (collect (.ref I))
      let after := n - 1 - i
      if rest.length < after then
        rule "unpack.star.too-few"
        raiseError "ValueError" s!"not enough values to unpack (expected at least {n - 1}, got {i + rest.length})"
      let mid := rest.length - after
      return items.toList.take i ++ [← newList (rest.take mid)] ++ rest.drop mid) Q E { s with heap := h1 } := by
  refine wpAny_bind (wpAny_holding (PySem.W.kun_collect (s := { s with heap := h1 }) hTm W hT (k := i) (by omega) st lI ll (fun h2 tk hk => ?_) (by rw [sizeLine_eq]; omega)))
  have hrl : (items.toList.drop i).length = items.size - i := by rw [List.length_drop, Array.length_toList]
  have hmid : (items.toList.drop i).length - (n - 1 - i) = items.size + 1 - n := by rw [hrl]; omega
  show wpAny _ _ (if (items.toList.drop i).length < n - 1 - i then _ else _) _ _ _
  rw [if_neg (by rw [hrl]; omega)]
  show wpAny _ _ (newList ((items.toList.drop i).take ((items.toList.drop i).length - (n - 1 - i))) >>= fun d => pure (items.toList.take i ++ [d] ++ (items.toList.drop i).drop ((items.toList.drop i).length - (n - 1 - i)))) _ _ _
  rw [hmid]
  have kk : ∀ b o, s.heap.get? b = some o → h2.get? b = some o := fun b o e => by
    have nb : b ≠ I := Nat.ne_of_lt (Nat.lt_of_lt_of_le (Heap.lt_size e) nI)
    exact hk b o nb (k1 b o nb e)
  exact wpAny_bind (wpAny_newList (s := { s with heap := h2, toks := tk }) (wpAny_pure (h h2 tk kk)) (by rw [List.length_take, hrl, sizeLine_eq]; omega))
theorem star_tup {l n i : Nat} {items : Array Value} {Q : List Value → Shared → Prop} (hl : IsTup s.heap l items) (hh : A.handled = none) (hi : i < n) (hn : n ≤ items.size + 1) (hz : items.size ≤ 16384)
    (h : ∀ (h2 : Heap) (tk : Nat), (∀ b o, s.heap.get? b = some o → h2.get? b = some o) → Q (items.toList.take i ++ [.ref h2.objs.size] ++ (items.toList.drop i).drop (items.size + 1 - n)) { s with heap := h2.push { cls := .type "list", data := .seq ((items.toList.drop i).take (items.size + 1 - n)).toArray }, toks := tk }) :
    wpAny (model prog w) A (unpackItems (.ref l) n (some i)) Q E s := by
  have nl : l ≠ s.heap.objs.size := by obtain ⟨o, ho, _⟩ := hl; exact Nat.ne_of_lt (Heap.lt_size ho)
  unfold unpackItems
  refine wpAny_bind ?_
  unfold notIterableAtAll
  refine wpAny_bind (wpAny_specialOf hl.typeIs slot_tuple_iter.lookup (wpAny_pure ?_))
  simp only [Bool.false_eq_true, if_false]
  refine wpAny_bind (wpAny_holding (iter_tuple hl (wpAny_bind (wpAny_holding (draw_tuple nl i 0 _ _ ⟨_, Heap.get?_push_size _ rfl, rfl, rfl⟩ (hl.push _) (by omega) fun h1 it1 sb => ?_)))))
  have hl1 : IsTup h1 l items := (hl.push _).extBut sb.extBut nl
  rw [Nat.zero_add] at it1
  obtain ⟨oi, hoi, _⟩ := id it1
  obtain ⟨ol, hol, _⟩ := id hl1
  rw [List.drop_zero]
  have few : (items.toList.take i).length = i := by rw [List.length_take, Array.length_toList]; omega
  rw [if_neg (show ¬ ((items.toList.take i).length < i) by rw [few]; omega)]
  exact star_tail (s := s) (I := s.heap.objs.size) hi hn hz (.inr (.inr (.inr rfl))) (Walks.tuple (A := A.in1) hh s.heap.objs.size l nl items) (fun j u st => st.1.typeIs) ⟨it1, hl1⟩ (Heap.lt_size hoi) (Heap.lt_size hol)
    (fun b o nb e => sb.extBut b o nb (Heap.get?_push_of_some _ e)) (Nat.le_refl _) h
theorem star_lst {l n i : Nat} {items : Array Value} {Q : List Value → Shared → Prop} (hl : s.heap.IsList l items) (hh : A.handled = none) (hi : i < n) (hn : n ≤ items.size + 1) (hz : items.size ≤ 16384)
    (h : ∀ (h2 : Heap) (tk : Nat), (∀ b o, s.heap.get? b = some o → h2.get? b = some o) → Q (items.toList.take i ++ [.ref h2.objs.size] ++ (items.toList.drop i).drop (items.size + 1 - n)) { s with heap := h2.push { cls := .type "list", data := .seq ((items.toList.drop i).take (items.size + 1 - n)).toArray }, toks := tk }) :
    wpAny (model prog w) A (unpackItems (.ref l) n (some i)) Q E s := by
  have nl : l ≠ s.heap.objs.size := by obtain ⟨o, ho, _⟩ := hl; exact Nat.ne_of_lt (Heap.lt_size ho)
  unfold unpackItems
  refine wpAny_bind ?_
  unfold notIterableAtAll
  refine wpAny_bind (wpAny_specialOf hl.typeIs slot_list_iter.lookup (wpAny_pure ?_))
  simp only [Bool.false_eq_true, if_false]
  refine wpAny_bind (wpAny_holding (wpAny_pyIter_list hl (wpAny_bind (wpAny_holding (PySem.W.kun_draw nl i 0 _ _ ⟨_, Heap.get?_push_size _ rfl, rfl, rfl⟩ (hl.push _) (by omega) fun h1 it1 sb => ?_)))))
  have hl1 : h1.IsList l items := (hl.push _).extBut sb.extBut nl
  rw [Nat.zero_add] at it1
  obtain ⟨oi, hoi, _⟩ := id it1
  obtain ⟨ol, hol, _⟩ := id hl1
  rw [List.drop_zero]
  have few : (items.toList.take i).length = i := by rw [List.length_take, Array.length_toList]; omega
  rw [if_neg (show ¬ ((items.toList.take i).length < i) by rw [few]; omega)]
  exact star_tail (s := s) (I := s.heap.objs.size) hi hn hz (.inr (.inr (.inl rfl))) (Walks.list (A := A.in1) hh s.heap.objs.size l nl items) (fun j u st => st.1.typeIs) ⟨it1, hl1⟩ (Heap.lt_size hoi) (Heap.lt_size hol)
    (fun b o nb e => sb.extBut b o nb (Heap.get?_push_of_some _ e)) (Nat.le_refl _) h
end
def gStar (K : PySem.W.Frag) (n i : Nat) (t : TGs) : TG := fun v σ H Q => ∃ a xs, v = .ref a ∧ (SqT K H a xs ∨ H a = some (.lst xs)) ∧ i < n ∧ n ≤ xs.length + 1 ∧ xs.length ≤ 16384 ∧
  ∀ p, H p = none → t (xs.take i ++ [.ref p] ++ (xs.drop i).drop (xs.length + 1 - n)) σ (upd H p (.lst ((xs.drop i).take (xs.length + 1 - n)))) Q
section
variable {X : Cx} {pos : Pos}
theorem pgs_star {e : Expr} {es : List Expr} {p : Pos} {t : TG} {u : TGs} (first : PG X e t) (more : PGs X es u)
    (hs : (assignEach (.Starred e p :: es) X.env).map (·.2) = assign e X.env :: (assignEach es X.env).map (·.2) := by rfl) : PGs X (.Starred e p :: es) (gCons t u) := by
  refine ⟨fun pins s σ H vs us Q I r h => ?_⟩
  obtain ⟨v, vr, rfl, h⟩ := h
  cases r with
  | cons rv rr =>
    rw [hs]
    exact assignInOrder_cons (thn (first.run pins s σ H _ _ _ I rv h) fun _ s1 ⟨σ1, H1, I1, q1⟩ => more.run pins s1 σ1 H1 _ _ Q I1 rr q1)
theorem pg_star {es : List Expr} {k : Nat} {t : TGs} {n i : Nat} (hc : X.calm = true) (h : PGs X es t)
    (hn : (assignEach es X.env).length = n := by rfl) (hst : (assignEach es X.env).findIdx? (·.1) = some i := by rfl) : PG X (.Tuple es k pos) (gStar X.K n i t) := by
  refine ⟨fun pins s σ H v u Q I r hw => ?_⟩
  obtain ⟨a, xs, rfl, hq, hi, hl, hz, hw⟩ := hw
  cases r
  rw [assign_Tuple]
  refine wpAny_bind (wpAny_standAt ?_)
  unfold unpack
  rw [hn, hst]
  have fin : ∀ (its : List Value) (h2 : Heap) (tk : Nat), Vals xs its → (∀ b o, s.heap.get? b = some o → h2.get? b = some o) →
      wpAny (model X.prog X.w) X.A (assignInOrder ((assignEach es X.env).map (·.2)) (its.toArray.toList.take i ++ [.ref h2.objs.size] ++ (its.toArray.toList.drop i).drop (its.toArray.size + 1 - n))) (fun _ s' => ∃ σ' H', Inv X pins σ' H' s' ∧ Q σ' H') X.xe
        { s with heap := h2.push { cls := .type "list", data := .seq ((its.toArray.toList.drop i).take (its.toArray.size + 1 - n)).toArray }, toks := tk } := by
    intro its h2 tk rv kk
    have I1 : Inv X pins σ H { s with heap := h2, toks := tk } := I.kept kk
    have e1 : its.toArray.size = xs.length := by rw [List.size_toArray, rv.length]
    rw [e1]
    simp only []
    have I2 := I1.lnew (t' := tk) (ys := (xs.drop i).take (xs.length + 1 - n)) (its := (its.drop i).take (xs.length + 1 - n)) ((rv.drop i).take _) (by rw [List.length_take, List.length_drop, sz_eq]; unfold sz; omega)
    have q := hw h2.objs.size (I1.hok.fresh (Nat.le_refl _))
    exact h.run pins _ σ _ _ _ Q I2 (((rv.take i).append (.cons (show L2.RelV (.ref h2.objs.size) (.ref h2.objs.size) from rfl) .nil)).append ((rv.drop i).drop _)) q
  rcases hq with hq | hq
  · obtain ⟨its, rv, ht, hz2⟩ := I.tuple hq
    exact wpAny_bind (wpAny_holding (star_tup ht (I.ok.hd hc) hi (by rw [List.size_toArray, ← rv.length]; exact hl) (by rw [List.size_toArray, ← rv.length]; exact hz) fun h2 tk kk => fin its h2 tk rv kk))
  · obtain ⟨z1, its, n1, rv, hl1, e1⟩ := I.lstM hq
    exact wpAny_bind (wpAny_holding (star_lst (PySem.IsL.isList e1) (I.ok.hd hc) hi (by rw [List.size_toArray, ← rv.length]; exact hl) (by rw [List.size_toArray, ← rv.length]; exact hz) fun h2 tk kk => fin its h2 tk rv kk))
end
section
variable {σ : L2.St} {H : Hp} {D : Ends} {t u ts tb : TS} {te ta tc to : TE} {tt : TT} {tr : TA} {Q : VK} {K : PySem.W.Frag} {x y v : V} {i j n : Nat} {a b p : Addr} {g g1 g2 : TG} {xs ys : List V}
theorem gstarT_ {tg : TGs} {R : L2.St → Hp → Prop} (e : H a = some (.tup xs)) (h1 : i < n) (h2 : n ≤ xs.length + 1) (h3 : xs.length ≤ 16384)
    (h : ∀ p H', H p = none → Ex H H' → H' p = some (.lst ((xs.drop i).take (xs.length + 1 - n))) → tg (xs.take i ++ [.ref p] ++ (xs.drop i).drop (xs.length + 1 - n)) σ H' R) : gStar K n i tg (.ref a) σ H R :=
  ⟨a, xs, rfl, .inl (SqT.of e), h1, h2, h3, fun p hp => h p _ hp (Ex.new hp) upd_same⟩
theorem gstarL_ {tg : TGs} {R : L2.St → Hp → Prop} (e : H a = some (.lst xs)) (h1 : i < n) (h2 : n ≤ xs.length + 1) (h3 : xs.length ≤ 16384)
    (h : ∀ p H', H p = none → Ex H H' → H' p = some (.lst ((xs.drop i).take (xs.length + 1 - n))) → tg (xs.take i ++ [.ref p] ++ (xs.drop i).drop (xs.length + 1 - n)) σ H' R) : gStar K n i tg (.ref a) σ H R :=
  ⟨a, xs, rfl, .inr e, h1, h2, h3, fun p hp => h p _ hp (Ex.new hp) upd_same⟩
/-! ### walks with any target -/
theorem forLg {xs : List V} (Pv : Nat → L2.St → Hp → Prop) (h0 : Pv 0 σ H) (hl : ∀ i σ H, i ≤ xs.length → Pv i σ H → SqL K H a xs)
    (hs : ∀ (i : Nat) (x : V) σ H, xs[i]? = some x → Pv i σ H → g x σ H fun σ2 H2 => tb { D with nx := Pv (i + 1), ct := Pv (i + 1), bk := D.nx } σ2 H2) (hd : ∀ σ H, Pv xs.length σ H → D.nx σ H) :
    zFor g tb D σ (Itl K a) H := by
  refine forZ walk_list Pv h0 hl ?_ hd
  rintro i x σ H _ hi p ⟨rfl, hx⟩
  exact hs i x σ _ hx p
/-- enumerate of a list: the pair is taken apart at once -/
theorem forEnL {tg : TGs} {xs : List V} (Pv : Nat → L2.St → Hp → Prop) (h0 : Pv 0 σ H) (hl : ∀ i σ H, i ≤ xs.length → Pv i σ H → SqL K H a xs)
    (hs : ∀ (i : Nat) (x : V) σ H H', xs[i]? = some x → Pv i σ H → Ex H H' → tg [.int (i : Nat), x] σ H' fun σ2 H2 => tb { D with nx := Pv (i + 1), ct := Pv (i + 1), bk := D.nx } σ2 H2) (hd : ∀ σ H, Pv xs.length σ H → D.nx σ H) :
    zFor (gTup K 2 tg) tb D σ (Ite K a) H := by
  refine forZ walk_enum Pv h0 hl ?_ hd
  rintro i x σ H _ hi p ⟨q, a1, a2, rfl, hq, rfl, e1, e2⟩
  obtain rfl : V.int (i : Nat) = a1 := Option.some.inj e1
  exact ⟨q, _, rfl, SqT.of upd_same, rfl, hs i a2 σ H _ e2 p (Ex.new hq)⟩
theorem forZip {tg : TGs} {xs ys : List V} (Pv : Nat → L2.St → Hp → Prop) (h0 : Pv 0 σ H) (hn : xs.length = ys.length) (hl : ∀ i σ H, i ≤ xs.length → Pv i σ H → SqL K H a xs ∧ SqL K H b ys)
    (hs : ∀ (i : Nat) (x y : V) σ H H', xs[i]? = some x → ys[i]? = some y → Pv i σ H → Ex H H' → tg [x, y] σ H' fun σ2 H2 => tb { D with nx := Pv (i + 1), ct := Pv (i + 1), bk := D.nx } σ2 H2) (hd : ∀ σ H, Pv xs.length σ H → D.nx σ H) :
    zFor (gTup K 2 tg) tb D σ (Itz K a b) H := by
  refine forZ (walk_zip (n := xs.length) (by rw [← hn, Nat.min_self])) Pv h0 hl ?_ hd
  rintro i x σ H _ hi p ⟨q, a1, a2, rfl, hq, rfl, e1, e2⟩
  exact ⟨q, _, rfl, SqT.of upd_same, rfl, hs i a1 a2 σ H _ e1 e2 p (Ex.new hq)⟩
def zEnL (K : PySem.W.Frag) (R : It → Hp → Prop) (vs : List V) (H : Hp) : Prop := ∃ a xs, vs = [.ref a] ∧ SqL K H a xs ∧ R (Ite K a) H
theorem ienL_ {R : It → Hp → Prop} (h : tr σ H (zEnL K R)) : iEnum K tr σ H R := h
theorem zenL_ {R : It → Hp → Prop} (e : H a = some (.lst xs)) (h : R (Ite K a) H) : zEnL K R [.ref a] H := ⟨a, xs, rfl, SqL.of e, h⟩
def zZip (K : PySem.W.Frag) (R : It → Hp → Prop) (vs : List V) (H : Hp) : Prop := ∃ a b xs ys, vs = [.ref a, .ref b] ∧ SqL K H a xs ∧ SqL K H b ys ∧ R (Itz K a b) H
theorem izip_ {R : It → Hp → Prop} (h : tr σ H (zZip K R)) : iZip K tr σ H R := h
theorem zzip_ {R : It → Hp → Prop} (e : H a = some (.lst xs)) (e2 : H b = some (.lst ys)) (h : R (Itz K a b) H) : zZip K R [.ref a, .ref b] H := ⟨a, b, xs, ys, rfl, SqL.of e, SqL.of e2, h⟩
/-- range(a, b, c), upward -/
def zRng3 (R : It → Hp → Prop) (vs : List V) (H : Hp) : Prop := ∃ (i j c : Int) (n : Nat), vs = [.int i, .int j, .int c] ∧ RgC i j c n ∧ R (Itc i c n) H
theorem irng3_ {R : It → Hp → Prop} (h : tr σ H (zRng3 R)) : iRng3 tr σ H R := h
/-- a comprehension over a list: any target, no test, each item the item of ys -/
theorem lcLg {vs : List Nat} {g : TG} (hx : SqL K H a xs) (hn : ys.length = xs.length) (hz : ys.length < 16777216)
    (hs : ∀ (D : Addr) (i : Nat) (x : V) H1, H D = none → xs[i]? = some x → Lm H ys D i H1 → g x (wipe σ vs) H1 fun σ2 H3 => wipe σ2 vs = wipe σ vs ∧ te σ2 H3 (zPut1 D (Lm H ys D (i + 1))))
    (hd : ∀ D H1, H D = none → Ex H H1 → H1 D = some (.lst ys) → Q (.ref D) H1) : zLc g tYes te vs σ Q (Itl K a) H := by
  refine lcW walk_list (Lm H ys) (fun D H1 hD e h => ⟨e, by rw [h]; simp⟩) (fun D i H' _ m => m.ex.seqL hx) ?_ ?_
  · rintro D i x H1 _ hD hi m ⟨rfl, hx⟩
    exact hs D i x _ hD hx m
  · intro D H1 hD m
    refine hd D H1 hD m.ex ?_
    rw [m.at_, ← hn, List.take_length]
theorem lcRC {vs : List Nat} {lo c : Int} {n : Nat} (hn : ys.length = n) (hz : ys.length < 16777216) (hw : ∀ x, wipe (List.set (wipe σ vs) j (some x)) vs = wipe σ vs)
    (hs : ∀ (D : Addr) (i : Nat) H1, H D = none → i < n → Lm H ys D i H1 → te (List.set (wipe σ vs) j (some (.int (lo + (i : Nat) * c)))) H1 (zPut1 D (Lm H ys D (i + 1))))
    (hd : ∀ D H1, H D = none → Ex H H1 → H1 D = some (.lst ys) → Q (.ref D) H1) : zLc (gName j) tYes te vs σ Q (Itc lo c n) H := by
  refine lcW walk_rangeC (Lm H ys) (fun D H1 hD e h => ⟨e, by rw [h]; simp⟩) (fun D i H' _ m => trivial) ?_ ?_
  · rintro D i x H1 _ hD hi m ⟨rfl, rfl⟩
    exact ⟨hw _, hs D i _ hD hi m⟩
  · intro D H1 hD m
    refine hd D H1 hD m.ex ?_
    rw [m.at_, ← hn, List.take_length]
theorem lcR {vs : List Nat} {lo : Int} {n : Nat} (hn : ys.length = n) (hz : ys.length < 16777216) (hw : ∀ x, wipe (List.set (wipe σ vs) j (some x)) vs = wipe σ vs)
    (hs : ∀ (D : Addr) (i : Nat) H1, H D = none → i < n → Lm H ys D i H1 → te (List.set (wipe σ vs) j (some (.int (lo + (i : Nat))))) H1 (zPut1 D (Lm H ys D (i + 1))))
    (hd : ∀ D H1, H D = none → Ex H H1 → H1 D = some (.lst ys) → Q (.ref D) H1) : zLc (gName j) tYes te vs σ Q (Itr lo n) H := by
  refine lcW walk_range (Lm H ys) (fun D H1 hD e h => ⟨e, by rw [h]; simp⟩) (fun D i H' _ m => trivial) ?_ ?_
  · rintro D i x H1 _ hD hi m ⟨rfl, rfl⟩
    exact ⟨hw _, hs D i _ hD hi m⟩
  · intro D H1 hD m
    refine hd D H1 hD m.ex ?_
    rw [m.at_, ← hn, List.take_length]
end
/-! ### sums, any, all, texts -/
section
variable {X : Cx}
theorem z_sum (hc : X.calm = true) : CallR X (.builtin "sum") (rSum X.K) := cr_sum hc
theorem z_any (hc : X.calm = true) : CallR X (.builtin "any") (rAny X.K) := cr_any hc
theorem z_all (hc : X.calm = true) : CallR X (.builtin "all") (rAll X.K) := cr_all hc
def rStrS : List V → Hp → VK → Prop := fun xs H Q => ∃ l : List Nat, xs = [T l] ∧ Q (T l) H
def rStrZ : List V → Hp → VK → Prop := fun xs H Q => rStrI xs H Q ∨ rStrS xs H Q
theorem z_strZ : CallR X (.type "str") rStrZ := by
  intro pins s σ H xs us Q I r h
  rcases h with h | ⟨l, rfl, q⟩
  · exact z_str_i pins s σ H xs us Q I r h
  · exact SkE.call_str_str pins s σ H _ us Q I r ⟨_, rfl, q⟩
def rListOf (K : PySem.W.Frag) : List V → Hp → VK → Prop := fun xs H Q => ∃ p ys, xs = [.ref p] ∧ (SqL K H p ys ∨ SqT K H p ys) ∧ zNew (.lst ys) H Q
theorem z_list_of : CallR X (.type "list") (rListOf X.K) := call_list_of
def rTupOf (K : PySem.W.Frag) : List V → Hp → VK → Prop := fun xs H Q => ∃ p ys, xs = [.ref p] ∧ ((SqL K H p ys ∧ zNew (.tup ys) H Q) ∨ (SqT K H p ys ∧ Q (.ref p) H))
theorem z_tuple_of : CallR X (.type "tuple") (rTupOf X.K) := call_tuple_of
end
section
variable {σ : L2.St} {H : Hp} {Q : VK} {K : PySem.W.Frag} {a : Addr} {xs : List V} {t te : TE} {ts : List TE} {acc : List Nat}
theorem sum_ {ns : List Int} (e : H a = some (.lst (ns.map V.int))) (h : Q (.int ns.sum) H) : rSum K [.ref a] H Q := ⟨a, ns, rfl, SqL.of e, h⟩
theorem any_ {bs : List Bool} (e : H a = some (.lst (bs.map V.bl))) (h : Q (.bl (bs.any id)) H) : rAny K [.ref a] H Q := ⟨a, bs, rfl, SqL.of e, h⟩
theorem all_ {bs : List Bool} (e : H a = some (.lst (bs.map V.bl))) (h : Q (.bl (bs.all id)) H) : rAll K [.ref a] H Q := ⟨a, bs, rfl, SqL.of e, h⟩
theorem strZI_ {n : Int} (e1 : -18446744073709551616 < n) (e2 : n < 18446744073709551616) (h : Q (T (intL n)) H) : rStrZ [.int n] H Q := .inl ⟨n, rfl, e1, e2, h⟩
theorem strZS_ {l : List Nat} (h : Q (T l) H) : rStrZ [T l] H Q := .inr ⟨l, rfl, h⟩
theorem listof_ (e : H a = some (.lst xs)) (h : ∀ p H', H p = none → Ex H H' → H' p = some (.lst xs) → Q (.ref p) H') : rListOf K [.ref a] H Q := ⟨a, xs, rfl, .inl (SqL.of e), new_ h⟩
theorem listofU_ (e : H a = some (.tup xs)) (h : ∀ p H', H p = none → Ex H H' → H' p = some (.lst xs) → Q (.ref p) H') : rListOf K [.ref a] H Q := ⟨a, xs, rfl, .inr (SqT.of e), new_ h⟩
theorem tupof_ (e : H a = some (.lst xs)) (h : ∀ p H', H p = none → Ex H H' → H' p = some (.tup xs) → Q (.ref p) H') : rTupOf K [.ref a] H Q := ⟨a, xs, rfl, .inl ⟨SqL.of e, new_ h⟩⟩
theorem tupofU_ (e : H a = some (.tup xs)) (h : Q (.ref a) H) : rTupOf K [.ref a] H Q := ⟨a, xs, rfl, .inr ⟨SqT.of e, h⟩⟩
/-! texts put together -/
def zJs (ts : List TE) (acc : List Nat) (σ : L2.St) (R : Str → Hp → Prop) (x : V) (H : Hp) : Prop := ∃ y : Str, x = .str y ∧ ((⟨acc.toArray⟩ : Str) ++ y).length ≤ sizeLine ∧ tJs ts ((⟨acc.toArray⟩ : Str) ++ y) σ H R
theorem joined_ {R : Str → Hp → Prop} (h : tJs ts (⟨([] : List Nat).toArray⟩ : Str) σ H R) : tJs ts Str.empty σ H R := h
theorem js_ {R : Str → Hp → Prop} (h : t σ H (zJs ts acc σ R)) : tJs (t :: ts) (⟨acc.toArray⟩ : Str) σ H R := h
theorem zjs_ {R : Str → Hp → Prop} {l : List Nat} (e : acc.length + l.length ≤ 16777216) (h : tJs ts (⟨(acc ++ l).toArray⟩ : Str) σ H R) : zJs ts acc σ R (T l) H := by
  refine ⟨_, rfl, ?_, ?_⟩
  · rw [str_app, str_len, List.length_append, sz_eq]; exact e
  · rw [str_app]; exact h
theorem jsn_ {R : Str → Hp → Prop} (h : R (⟨acc.toArray⟩ : Str) H) : tJs [] (⟨acc.toArray⟩ : Str) σ H R := h
def zFmt (Q : VK) (x : V) (H : Hp) : Prop := (∃ y : Str, x = .str y ∧ y.length ≤ sizeLine ∧ Q (.str y) H) ∨ ∃ i : Int, x = .int i ∧ i.natAbs.log2 < 1920 ∧ Q (.str (toString i)) H
theorem fmt_ (h : te σ H (zFmt Q)) : tFmt te σ H Q := h
theorem zfmtS_ {l : List Nat} (e : l.length ≤ 16777216) (h : Q (T l) H) : zFmt Q (T l) H := .inl ⟨_, rfl, by rw [str_len, sz_eq]; exact e, h⟩
theorem zfmtI_ {n : Int} (e1 : -18446744073709551616 < n) (e2 : n < 18446744073709551616) (h : Q (T (intL n)) H) : zFmt Q (.int n) H := by
  refine .inr ⟨n, rfl, int_le e1 e2, ?_⟩
  have e : T (intL n) = V.str (Str.ofString (toString n)) := by unfold intL; exact congrArg V.str (str_eta _).symm
  rw [e] at h
  exact h
end
end Z
namespace Z
open PySem PySem.Spec PyProof.Rows L2
theorem rgc_up {j c : Int} (hc : 0 < c) (hc2 : c < 1073741824) (h0 : 0 ≤ j) (h1 : j < 16777217) : RgC 0 j c ((j + c - 1) / c).toNat := by
  refine ⟨by omega, by omega, ?_, ?_⟩
  · unfold Builtin.Range.small
    rw [rangeSize_pos (by omega) h0]
    have h2 : 0 ≤ (j + c - 1) / c := Int.ediv_nonneg (by omega) (by omega)
    have h3 : (j + c - 1) / c < 16777218 := by
      rw [Int.ediv_lt_iff_lt_mul hc]
      have : 16777218 * 1 ≤ 16777218 * c := Int.mul_le_mul_of_nonneg_left (by omega) (by omega)
      have : 1 * c ≤ c := by omega
      omega
    have fit : ∀ x : Int, -1000000000000 < x → x < 1000000000000 → Builtin.Range.rangeFitsLong x = true := fun x a b => by
      unfold Builtin.Range.rangeFitsLong
      have e : (2 : Int) ^ 63 = 9223372036854775808 := by decide
      rw [e, decide_eq_true (by omega), decide_eq_true (by omega)]
      rfl
    rw [fit 0 (by omega) (by omega), fit j (by omega) (by omega), fit c (by omega) (by omega), fit _ (by omega) (by omega), if_pos hc, fit (j + (c - 1)) (by omega) (by omega), Bool.or_true]
    rfl
  · rw [rangeSize_pos (by omega) h0, Int.toNat_of_nonneg (Int.ediv_nonneg (by omega) (by omega))]
section
variable {σ : L2.St} {H : Hp} {D : Ends} {te ta tv : TE} {g1 g2 : TG} {u : TS} {K : PySem.W.Frag} {f : Str} {R : It → Hp → Prop}
theorem zrng3_ {j c : Int} (hc : 0 < c) (hc2 : c < 1073741824) (h0 : 0 ≤ j) (h1 : j < 16777217) (h : R (Itc 0 c ((j + c - 1) / c).toNat) H) : zRng3 R [.int 0, .int j, .int c] H := ⟨0, j, c, _, rfl, rgc_up hc hc2 h0 h1, h⟩
theorem asg2_ (h : te σ H fun x H1 => g1 x σ H1 fun σ1 H2 => g2 x σ1 H2 D.nx) : tAsg2 te g1 g2 D σ H := h
theorem seq_asg2 (h : te σ H fun x H1 => g1 x σ H1 fun σ1 H2 => g2 x σ1 H2 (u D)) : tSeq (tAsg2 te g1 g2) u D σ H := h
def zFldA (K : PySem.W.Frag) (f : Str) (tv : TE) (rd : V → V → Hp → VK → Prop) (N : L2.St → Hp → Prop) (σ : L2.St) (x : V) (H : Hp) : Prop := ∃ a C dx fs v, x = .ref a ∧ H a = some (.ins C dx fs) ∧ Cls K C ∧ NoAttr K C f ∧ fs.lookup f = some v ∧
  tv σ H fun y H2 => rd v y H2 fun z H3 => ∃ dx' fs', H3 a = some (.ins C dx' fs') ∧ fs'.length < 1000 ∧ N σ (upd H3 a (.ins C dx' (putF f z fs')))
theorem fldA_ {rd : V → V → Hp → VK → Prop} (h : ta σ H (zFldA K f tv rd D.nx σ)) : sFldAug K ta tv rd f D σ H := h
theorem seq_fldA {rd : V → V → Hp → VK → Prop} (h : ta σ H (zFldA K f tv rd (u D) σ)) : tSeq (sFldAug K ta tv rd f) u D σ H := h
end
end Z
namespace Z
open PySem PySem.Spec PyProof.Rows L2
section
variable {σ : L2.St} {H : Hp} {tv : TE} {K : PySem.W.Frag} {f : Str} {a C dx : Addr} {fs : List (Str × V)} {v z : V} {Q : VK} {N : L2.St → Hp → Prop} {rd : V → V → Hp → VK → Prop}
def zSetA (a C : Addr) (f : Str) (N : L2.St → Hp → Prop) (σ : L2.St) (z : V) (H : Hp) : Prop := ∃ dx' fs', H a = some (.ins C dx' fs') ∧ fs'.length < 1000 ∧ N σ (upd H a (.ins C dx' (putF f z fs')))
theorem zfldA_ (e : H a = some (.ins C dx fs)) (c : Cls K C) (n : NoAttr K C f) (l : fs.lookup f = some v) (h : tv σ H fun y H2 => rd v y H2 (zSetA a C f N σ)) : zFldA K f tv rd N σ (.ref a) H :=
  ⟨a, C, dx, fs, v, rfl, e, c, n, l, h⟩
theorem zsetA_ {fs' : List (Str × V)} (e : H a = some (.ins C dx fs)) (l : fs.length < 1000) (p : putF f z fs = fs') (h : ∀ H', H' a = some (.ins C dx fs') → But a H H' → N σ H') : zSetA a C f N σ z H :=
  ⟨dx, fs, e, l, h _ (by rw [upd_same, p]) But.upd⟩
theorem addA_ {n m : Int} (h : Q (.int (n + m)) H) : rAdd (.int n) (.int m) H Q := ⟨n, m, rfl, rfl, h⟩
theorem subA_ {n m : Int} (h : Q (.int (n - m)) H) : rSub (.int n) (.int m) H Q := ⟨n, m, rfl, rfl, h⟩
theorem own1_ {sp : Sp} {gV : List V → List V → List V} {P : VK → VK} (e : H a = some (.ins C dx fs)) (h : zSp sp (gV [.ref a] []) H (P Q) (fun _ _ _ => False)) : rOwn1 C sp gV P [.ref a] H Q := ⟨a, dx, fs, rfl, e, h⟩
theorem isLen_ {n : Nat} (l : n ≤ 16777216) (h : Q (.int n) H) : isLen Q (.int n) H := ⟨n, rfl, l, h⟩
theorem isTxt_ {l : List Nat} (h : Q (T l) H) : isTxt Q (T l) H := ⟨l, rfl, h⟩
end
theorem kb_all {K : PySem.W.Frag} {fd : FuncData} {ps : List Str} {n : Nat} (h : ∀ us : List Value, us.length = n → bindArgs fd ⟨us, []⟩ = pure (ps.zip us)) : KBn K fd ps n [] (fun us _ => us) (fun vs _ => vs) :=
  ⟨fun s us ws X l1 l2 => by
    have e : ([] : List Str).zip ws = [] := rfl
    rw [e]
    exact BindsTo.of_eq (h us l1), fun r _ => r⟩
end Z
namespace Z
open PySem PySem.Spec PyProof.Rows L2
section
variable {σ : L2.St} {H : Hp} {ta tb tc : TE} {r r' : R2} {Q : VK} {y : V}
def zLink (r' : R2) (tc : TE) (σ : L2.St) (Q : VK) (y : V) (z : V) (H : Hp) : Prop := ∃ k, z = .bl k ∧ (if k = true then tc σ H fun w' H4 => r' y w' H4 Q else Q (.bl false) H)
theorem chain_ (h : ta σ H fun x H1 => tb σ H1 fun y H2 => r x y H2 (zLink r' tc σ Q y)) : tChain r r' ta tb tc σ H Q := h
theorem zlink_d {q : Prop} [Decidable q] (h1 : q → tc σ H fun w' H4 => r' y w' H4 Q) (h2 : ¬ q → Q (.bl false) H) : zLink r' tc σ Q y (.bl (decide q)) H := by
  refine ⟨_, rfl, ?_⟩
  by_cases h : q
  · rw [decide_eq_true h, if_pos rfl]; exact h1 h
  · rw [decide_eq_false h, if_neg Bool.false_ne_true]; exact h2 h
theorem zlink_dt {q : Prop} [Decidable q] (hq : q) (h : tc σ H fun w' H4 => r' y w' H4 Q) : zLink r' tc σ Q y (.bl (decide q)) H := zlink_d (fun _ => h) fun n => absurd hq n
theorem zlink_df {q : Prop} [Decidable q] (hq : ¬ q) (h : Q (.bl false) H) : zLink r' tc σ Q y (.bl (decide q)) H := zlink_d (fun n => absurd n hq) fun _ => h
end
/-! ### what stands but for some places -/
def Bs (fp : List Addr) (H H' : Hp) : Prop := ∀ b o, b ∉ fp → H b = some o → H' b = some o
def Dj (f g : List Addr) : Prop := ∀ x ∈ f, x ∉ g
def Own (H : Hp) (fp : List Addr) : Prop := ∀ x ∈ fp, (∃ xs, H x = some (.lst xs)) ∨ ∃ C d fs, H x = some (.ins C d fs)
/-- places of old, or new ones -/
def Grow (H : Hp) (f f' : List Addr) : Prop := ∀ x ∈ f', x ∈ f ∨ H x = none
theorem Ex.bs {fp : List Addr} {H H' : Hp} (e : Ex H H') : Bs fp H H' := fun b o _ h => e b o h
theorem But.bs {l : Addr} {H H' : Hp} (e : But l H H') : Bs [l] H H' := fun b o n h => e b o (fun z => n (by rw [z]; exact List.mem_cons_self)) h
theorem Bs.but {l : Addr} {H H' : Hp} (e : Bs [l] H H') : But l H H' := fun b o n h => e b o (fun z => n (List.mem_singleton.mp z)) h
theorem Bs.trans {fp : List Addr} {H H1 H2 : Hp} (a : Bs fp H H1) (b : Bs fp H1 H2) : Bs fp H H2 := fun c o n h => b c o n (a c o n h)
theorem Bs.ext {fp : List Addr} {H H1 H2 : Hp} (a : Bs fp H H1) (b : Ex H1 H2) : Bs fp H H2 := fun c o n h => b c o (a c o n h)
theorem Ex.bst {fp : List Addr} {H H1 H2 : Hp} (a : Ex H H1) (b : Bs fp H1 H2) : Bs fp H H2 := fun c o n h => b c o n (a c o h)
theorem Bs.refl (fp : List Addr) (H : Hp) : Bs fp H H := fun _ _ _ h => h
theorem Bs.mono {f g : List Addr} {H H' : Hp} (a : Bs f H H') (s : ∀ x ∈ f, x ∈ g) : Bs g H H' := fun b o n h => a b o (fun z => n (s b z)) h
theorem Bs.at_ {fp : List Addr} {H H' : Hp} {a : Addr} {o : HO} (e : Bs fp H H') (n : a ∉ fp) (h : H a = some o) : H' a = some o := e a o n h
/-- a change of new places alone -/
theorem Bs.ex {fp : List Addr} {H H' : Hp} (e : Bs fp H H') (n : ∀ x ∈ fp, H x = none) : Ex H H' := fun b o h => e b o (fun z => by rw [n b z] at h; cases h) h
/-- places that H0 does not know may change -/
theorem Bs.old {fp gp : List Addr} {H0 H H' : Hp} (b : Bs fp H H') (a : Bs gp H0 H) (n : ∀ x ∈ fp, x ∈ gp ∨ H0 x = none) : Bs gp H0 H' := fun c o nc h => b c o (fun z => by
  rcases n c z with q | q
  · exact nc q
  · rw [q] at h; cases h) (a c o nc h)
theorem Own.tup {H : Hp} {fp : List Addr} (w : Own H fp) {t : Addr} {xs : List V} (h : H t = some (.tup xs)) : t ∉ fp := fun m => by
  rcases w t m with ⟨ys, e⟩ | ⟨C, d, fs, e⟩
  · rw [e] at h; cases h
  · rw [e] at h; cases h
theorem Own.new {H : Hp} {fp : List Addr} (w : Own H fp) {t : Addr} (h : H t = none) : t ∉ fp := fun m => by
  rcases w t m with ⟨ys, e⟩ | ⟨C, d, fs, e⟩
  · rw [e] at h; cases h
  · rw [e] at h; cases h
theorem Own.ex {H H' : Hp} {fp : List Addr} (w : Own H fp) (e : Ex H H') : Own H' fp := fun x m => by
  rcases w x m with ⟨ys, h⟩ | ⟨C, d, fs, h⟩
  · exact .inl ⟨ys, e _ _ h⟩
  · exact .inr ⟨C, d, fs, e _ _ h⟩
theorem Dj.symm {f g : List Addr} (d : Dj f g) : Dj g f := fun x hx hf => d x hf hx
/-- of what grows, nothing comes to another one's places -/
theorem Dj.grow {H : Hp} {f f' g : List Addr} (d : Dj f g) (gr : Grow H f f') (w : Own H g) : Dj f' g := fun x hx hg => by
  rcases gr x hx with z | z
  · exact d x z hg
  · exact w.new z hg
theorem Dj.new {H : Hp} {f g : List Addr} (gr : ∀ x ∈ f, H x = none) (w : Own H g) : Dj f g := fun x hx hg => w.new (gr x hx) hg
theorem Grow.refl (H : Hp) (f : List Addr) : Grow H f f := fun x h => .inl h
end Z
/-! Z, part K: the rules with the written part named (within a comprehension it must be told). -/
namespace Z
open PySem PySem.Spec PyProof.Rows L2
section
variable {X : Cx} {K : PySem.W.Frag}
theorem k_add (e : X.K = K := by rfl) : OpR X (binaryOp .Add) (rAddZ K) := e ▸ z_add
theorem k_eq (hu : X.A.units + 64 < cLine) (e : X.K = K := by rfl) : OpR X (compareOp .Eq) (rEqZ K) := e ▸ z_eq hu
theorem k_ne (hu : X.A.units + 64 < cLine) (e : X.K = K := by rfl) : OpR X (compareOp .NotEq) (rNeZ K) := e ▸ z_ne hu
theorem k_in (e : X.K = K := by rfl) : OpR X (compareOp .In) (rInZ K) := e ▸ z_in
theorem k_ni (e : X.K = K := by rfl) : OpR X (compareOp .NotIn) (rNiZ K) := e ▸ z_ni
theorem k_ix (e : X.K = K := by rfl) : IxR X (rIxZ K) := e ▸ z_ix
theorem k_sl (e : X.K = K := by rfl) : SlR X (rSlZ K) := e ▸ z_sl
theorem k_len (e : X.K = K := by rfl) : CallR X (.builtin "len") (rLenZ K) := e ▸ z_len
theorem k_repr (hu : X.A.units + 64 < cLine) (ng : X.A.guards = some []) (e : X.K = K := by rfl) : CallR X (.builtin "repr") (rRepr K) := e ▸ z_repr hu ng
theorem k_isi (e : X.K = K := by rfl) : CallR X (.builtin "isinstance") (rIsZ K) := e ▸ z_isi
theorem k_sum (hc : X.calm = true) (e : X.K = K := by rfl) : CallR X (.builtin "sum") (rSum K) := e ▸ z_sum hc
theorem k_any (hc : X.calm = true) (e : X.K = K := by rfl) : CallR X (.builtin "any") (rAny K) := e ▸ z_any hc
theorem k_all (hc : X.calm = true) (e : X.K = K := by rfl) : CallR X (.builtin "all") (rAll K) := e ▸ z_all hc
theorem k_min1 (hc : X.calm = true) (e : X.K = K := by rfl) : CallR X (.builtin "min") (rMin K) := e ▸ z_min1 hc
theorem k_max1 (hc : X.calm = true) (e : X.K = K := by rfl) : CallR X (.builtin "max") (rMax K) := e ▸ z_max1 hc
theorem k_list_of (e : X.K = K := by rfl) : CallR X (.type "list") (rListOf K) := e ▸ z_list_of
theorem k_tuple_of (e : X.K = K := by rfl) : CallR X (.type "tuple") (rTupOf K) := e ▸ z_tuple_of
theorem k_get (e : X.K = K := by rfl) : PGet X (gList K) := e ▸ get_list
section
variable {a o v : Expr} {b : Expr} {ta tb to te : TE} {rest : List Expr} {pos : Pos} {tg : Expr} {f : Str}
theorem k_truth (ha : PE X a ta) (he : ∀ whole, isTrue a X.env whole = (do let v ← whole; standAt a.pos; holding [v] (truthy v))) (e : X.K = K := by rfl) : PT X a (tTruth K ta) := e ▸ z_truth ha he
theorem k_orT (ha : PE X a ta) (hb : PE X (.BoolOp .Or (b :: rest) pos) tb) (e : X.K = K := by rfl) : PE X (.BoolOp .Or (a :: b :: rest) pos) (tOrT K ta tb) := e ▸ pe_orT ha hb
theorem k_andT (ha : PE X a ta) (hb : PE X (.BoolOp .And (b :: rest) pos) tb) (e : X.K = K := by rfl) : PE X (.BoolOp .And (a :: b :: rest) pos) (tAndT K ta tb) := e ▸ pe_andT ha hb
theorem k_notT (ha : PE X a ta) (e : X.K = K := by rfl) : PE X (.UnaryOp .Not a pos) (tNotT K ta) := e ▸ pe_notT ha
theorem k_fld (he : PE X a ta) (hb : attributeBase a f X.env (eval a X.env) = eval a X.env) (e : X.K = K := by rfl) : PE X (.Attribute a f pos) (tFld K ta f) := e ▸ pe_fld he hb
theorem k_list (hl : PE X a ta) (e : X.K = K := by rfl) : PI X tg a (iList K ta) := e ▸ pi_list hl
theorem k_tupI (hl : PE X a ta) (e : X.K = K := by rfl) : PI X tg a (iTup K ta) := e ▸ pi_tup hl
theorem k_join {apos : Pos} (ho : PE X o to) (he : PE X a te) (hs : starEach [a] X.env = [(false, eval a X.env)] := by rfl) (hbase : attributeBase o "join" X.env (eval o X.env) = eval o X.env := by rfl) (hline : (apos.endLine == pos.line) = true := by rfl) (e : X.K = K := by rfl) :
    PE X (.Call (.Attribute o "join" apos) [a] [] pos) (tM1 (rJoin K) to te) := e ▸ z_join ho he hs hbase hline
end
section
variable {es : List Expr} {k n i : Nat} {t : TGs} {pos : Pos}
theorem k_tup (hc : X.calm = true) (h : PGs X es t) (hn : (assignEach es X.env).length = n := by rfl) (hst : (assignEach es X.env).findIdx? (·.1) = none := by rfl) (e : X.K = K := by rfl) : PG X (.Tuple es k pos) (gTup K n t) := e ▸ pg_tup hc h hn hst
theorem k_star (hc : X.calm = true) (h : PGs X es t) (hn : (assignEach es X.env).length = n := by rfl) (hst : (assignEach es X.env).findIdx? (·.1) = some i := by rfl) (e : X.K = K := by rfl) : PG X (.Tuple es k pos) (gStar K n i t) := e ▸ pg_star hc h hn hst
end
section
variable {e : Expr} {es : List Expr} {ta : TA} {p pos tpos : Pos} {elts : List Expr} {kk : Nat}
theorem k_enum (hg : Gl X "enumerate") (hm : X.mg "enumerate" = none) (ha : PA X [e] ta) (hs : starEach [e] X.env = [(false, eval e X.env)] := by rfl) (q : X.K = K := by rfl) :
    PI X (.Tuple elts kk tpos) (.Call (.Name "enumerate" p) [e] [] pos) (iEnum K ta) := q ▸ pi_enum hg hm ha hs
theorem k_zip {e2 : Expr} (hg : Gl X "zip") (hm : X.mg "zip" = none) (ha : PA X [e, e2] ta)
    (hs : starEach [e, e2] X.env = (false, eval e X.env) :: starEach [e2] X.env := by rfl) (hpl : (backTo pos (starEach [e2] X.env)).any (·.1) = false := by rfl) (q : X.K = K := by rfl) :
    PI X (.Tuple elts kk tpos) (.Call (.Name "zip" p) [e, e2] [] pos) (iZip K ta) := q ▸ pi_zip hg hm ha hs hpl
end
end
end Z
namespace Z
open PySem PySem.Spec PyProof.Rows L2
section
variable {σ : L2.St} {H : Hp} {tu : TT} {Q : Bool → Hp → Prop} {R : VK} {ta tb te : TE} {tt : TT} {D : Addr} {N : Hp → Prop}
theorem zor_nT (h : tu σ H Q) : zOr tu σ Q (!true) H := h
theorem zor_nF (h : Q true H) : zOr tu σ Q (!false) H := h
theorem zand_nT (h : Q false H) : zAnd tu σ Q (!true) H := h
theorem zand_nF (h : tu σ H Q) : zAnd tu σ Q (!false) H := h
theorem zife_t (h : ta σ H R) : zIfE ta tb σ R true H := h
theorem zife_f (h : tb σ H R) : zIfE ta tb σ R false H := h
theorem zife_dt {q : Prop} [Decidable q] (hq : q) (h : ta σ H R) : zIfE ta tb σ R (decide q) H := zife_d (fun _ => h) fun n => absurd hq n
theorem zife_df {q : Prop} [Decidable q] (hq : ¬ q) (h : tb σ H R) : zIfE ta tb σ R (decide q) H := zife_d (fun n => absurd n hq) fun _ => h
end
end Z
namespace Z
open PySem PySem.Spec PyProof.Rows L2
section
variable {H : Hp} {Q : VK} {a : Addr} {xs : List V}
theorem mulL {k : Int} (e : H a = some (.lst xs)) (h0 : -9223372036854775808 ≤ k) (h1 : k < 9223372036854775808) (h2 : xs.length * k.toNat ≤ 16777216)
    (h : ∀ p H', H p = none → Ex H H' → H' p = some (.lst (List.replicate k.toNat xs).flatten) → Q (.ref p) H') : rMulZ (.ref a) (.int k) H Q :=
  .inr (.inr ⟨a, k, xs, rfl, rfl, e, h0, h1, by rw [sz_eq]; exact h2, new_ h⟩)
theorem rep_list (v : V) (n : Nat) : (List.replicate n [v]).flatten = List.replicate n v := by
  induction n with
  | zero => rfl
  | succ n ih => rw [List.replicate_succ, List.flatten_cons, ih, List.replicate_succ]; rfl
end
theorem zw_ {α : Type} {a b : α} {p : Prop} (e : a = b) (h : p) : a = b ∧ p := ⟨e, h⟩
theorem sum_lens : ∀ bks : List (List Nat), (bks.map fun l => ((l.length : Nat) : Int)).sum = (bks.flatten.length : Nat)
  | [] => rfl
  | l :: r => by rw [List.map_cons, List.sum_cons, sum_lens r, List.flatten_cons, List.length_append]; omega
end Z
namespace Z
open PySem PySem.Spec PyProof.Rows L2
section
variable {σ : L2.St} {H : Hp} {tt : TT} {te : TE} {Q : VK} {K : PySem.W.Frag} {vs : List Nat} {a b : Addr} {tg : TGs} {g : TG}
/-- [.. for i, c in enumerate(text, n) if ..] -/
theorem lcEnT {l : List Nat} {n : Int} (Pv : Addr → Nat → Hp → Prop) (h0 : ∀ D H1, H D = none → Ex H H1 → H1 D = some (.lst []) → Pv D 0 H1)
    (hs : ∀ D i c H1 H2, H D = none → l[i]? = some c → Pv D i H1 → Ex H1 H2 → tg [.int (n + (i : Nat)), T [c]] (wipe σ vs) H2 fun σ2 H3 => wipe σ2 vs = wipe σ vs ∧ tt σ2 H3 (zPut te D (Pv D (i + 1)) σ2))
    (hd : ∀ D H1, H D = none → Pv D l.length H1 → Q (.ref D) H1) : zLc (gTup K 2 tg) tt te vs σ Q (Itn l n) H := by
  refine lcW walk_enumT Pv h0 (fun _ _ _ _ _ => trivial) ?_ hd
  rintro D i x H1 H2 hD hi p ⟨q, a1, a2, rfl, hq, rfl, e1, e2⟩
  obtain rfl : V.int (n + (i : Nat)) = a1 := Option.some.inj e1
  obtain ⟨c, hc, rfl⟩ := Option.map_eq_some_iff.mp e2
  exact ⟨q, _, rfl, SqT.of upd_same, rfl, hs D i c H1 _ hD hc p (Ex.new hq)⟩
theorem lcEnL {xs : List V} (Pv : Addr → Nat → Hp → Prop) (h0 : ∀ D H1, H D = none → Ex H H1 → H1 D = some (.lst []) → Pv D 0 H1) (hl : ∀ D i H', Pv D i H' → SqL K H' a xs)
    (hs : ∀ D (i : Nat) x H1 H2, H D = none → xs[i]? = some x → Pv D i H1 → Ex H1 H2 → tg [.int (i : Nat), x] (wipe σ vs) H2 fun σ2 H3 => wipe σ2 vs = wipe σ vs ∧ tt σ2 H3 (zPut te D (Pv D (i + 1)) σ2))
    (hd : ∀ D H1, H D = none → Pv D xs.length H1 → Q (.ref D) H1) : zLc (gTup K 2 tg) tt te vs σ Q (Ite K a) H := by
  refine lcW walk_enum Pv h0 (fun D i H' _ p => hl D i H' p) ?_ hd
  rintro D i x H1 H2 hD hi p ⟨q, a1, a2, rfl, hq, rfl, e1, e2⟩
  obtain rfl : V.int (i : Nat) = a1 := Option.some.inj e1
  exact ⟨q, _, rfl, SqT.of upd_same, rfl, hs D i a2 H1 _ hD e2 p (Ex.new hq)⟩
/-- [.. for x in list if ..] by an invariant -/
theorem lcLi {xs : List V} (Pv : Addr → Nat → Hp → Prop) (h0 : ∀ D H1, H D = none → Ex H H1 → H1 D = some (.lst []) → Pv D 0 H1) (hl : ∀ D i H', Pv D i H' → SqL K H' a xs)
    (hs : ∀ D (i : Nat) x H1, H D = none → xs[i]? = some x → Pv D i H1 → g x (wipe σ vs) H1 fun σ2 H3 => wipe σ2 vs = wipe σ vs ∧ tt σ2 H3 (zPut te D (Pv D (i + 1)) σ2))
    (hd : ∀ D H1, H D = none → Pv D xs.length H1 → Q (.ref D) H1) : zLc g tt te vs σ Q (Itl K a) H := by
  refine lcW walk_list Pv h0 (fun D i H' _ p => hl D i H' p) ?_ hd
  rintro D i x H1 _ hD hi p ⟨rfl, hx⟩
  exact hs D i x _ hD hx p
end
theorem intL_bit {b : Nat} (h : b ≤ 1) : intL (b : Int) = [48 + b] := by
  have : b = 0 ∨ b = 1 := by omega
  rcases this with rfl | rfl
  · unfold intL; decide +kernel
  · unfold intL; decide +kernel
end Z
/-! Z, part L: list(range(..)); slices of lists with a step. -/
namespace Z
open PySem PySem.Spec PyProof.Rows L2
/-- the items that a slice picks -/
def pickL {α : Type} (l : List α) (lo hi st : Option Int) : List α := (sliceRange (sliceBounds lo hi st l.length).1 (sliceBounds lo hi st l.length).2.1 (sliceBounds lo hi st l.length).2.2).filterMap (l[·]?)
theorem pick_map {α β : Type} (f : α → β) (l : List α) (lo hi st : Option Int) : pickL (l.map f) lo hi st = (pickL l lo hi st).map f := by
  unfold pickL
  rw [List.length_map, List.map_filterMap]
  congr 1
  funext i
  rw [List.getElem?_map]
theorem pick_mem {α : Type} {l : List α} {lo hi st : Option Int} {x : α} (h : x ∈ pickL l lo hi st) : x ∈ l := by
  unfold pickL at h
  obtain ⟨i, _, e⟩ := List.mem_filterMap.mp h
  exact List.mem_of_getElem? e
theorem pick_arr (its : List Value) (lo hi st : Option Int) : slicePick its.toArray lo hi st = (pickL its lo hi st).toArray := by
  unfold slicePick pickL
  rw [List.size_toArray]
  simp
theorem pick_len {α : Type} (l : List α) (lo hi st : Option Int) : (pickL l lo hi st).length ≤ l.length := by
  have h := slicePick_size_le (l.map fun _ => Value.none).toArray lo hi st
  rw [pick_arr, pick_map, List.size_toArray, List.length_map, List.size_toArray, List.length_map] at h
  exact h
theorem pick_vals {xs : List V} {us : List Value} (r : Vals xs us) (lo hi st : Option Int) : Vals (pickL xs lo hi st) (pickL us lo hi st) := by
  unfold pickL
  rw [r.length]
  generalize sliceRange _ _ _ = js
  induction js with
  | nil => exact .nil
  | cons j js ih =>
    rw [List.filterMap_cons, List.filterMap_cons]
    cases hx : xs[j]? with
    | none =>
      have : us[j]? = none := by
        rw [List.getElem?_eq_none_iff] at hx ⊢
        rw [← r.length]; exact hx
      rw [this]
      exact ih
    | some x =>
      obtain ⟨u, hu, ru⟩ := r.get hx
      rw [hu]
      exact .cons ru ih
section
variable {X : Cx}
def zSlT (K : PySem.W.Frag) (x : V) (lo hi st : Option Int) (H : Hp) (Q : VK) : Prop := ∃ (a : Addr) (xs : List V), x = .ref a ∧ SqL K H a xs ∧ st ≠ some 0 ∧ zNew (.lst (pickL xs lo hi st)) H Q
def tSlT (K : PySem.W.Frag) (te : TE) (tl th ts : TO) : TE := fun σ H Q => te σ H fun x H1 => tl σ H1 fun lo H2 => th σ H2 fun hi H3 => ts σ H3 fun st H4 => zSlT K x lo hi st H4 Q
theorem k_slT {K : PySem.W.Frag} {e : Expr} {lo hi st : Option Expr} {te : TE} {tl th ts : TO} {p3 pos : Pos} (he : PE X e te) (hl : PO X lo tl) (hu : PO X hi th) (hst : PO X st ts)
    (hsub : ∀ v u, subscripted (.Slice lo hi st p3) false v u = operate [v, u] (getItem v u) := by intro _ _; rfl) (q : X.K = K := by rfl) :
    PE X (.Subscript e (.Slice lo hi st p3) pos) (tSlT K te tl th ts) := by
  subst q
  refine ⟨fun pins s σ H Q I h => ?_⟩
  refine Subscript_ (thn (he.run pins s σ H _ I h) fun v s1 ⟨x, H1, I1, r1, q1⟩ => ?_)
  refine wpAny_Slice (thn (hl.run pins s1 σ H1 _ I1 q1) fun vl s2 ⟨l', H2, I2, pl, q2⟩ => thn (hu.run pins s2 σ H2 _ I2 q2) fun vu s3 ⟨u', H3, I3, pu, q3⟩ => thn (hst.run pins s3 σ H3 _ I3 q3) fun vs s4 ⟨t', H4, I4, ps, q4⟩ => ?_)
  obtain ⟨a, xs, rfl, hx, h0, q⟩ := q4
  cases r1
  have I5 : Inv X pins σ H4 { s4 with heap := s4.heap.push { cls := .type "slice", data := .fields #[vl, vu, vs] } } := I4.kept (t' := s4.toks) fun b ob q => Heap.get?_push_of_some _ q
  obtain ⟨its, r, ht, hz1⟩ := I5.list hx
  have hlen := r.length
  show wpAny (model X.prog X.w) X.A (subscriptTail e (.Slice lo hi st p3) (.ref a) (.ref s4.heap.objs.size)) (EP X pins σ Q) X.xe _
  refine tail_any (ops := [.ref a, .ref s4.heap.objs.size]) ht.isList.typeIs (PySem.slot_list_getitem.lookup) ?_ (hsub _ _)
  refine wpAny_getItem_list_slice ht.isList (Heap.IsSliceOf.new _ vl vu vs) pl pu ps h0 ?_ (by rw [List.size_toArray]; omega)
  rw [pick_arr]
  exact ⟨.ref _, _, I5.lnew (t' := s4.toks) (pick_vals r l' u' t') (Nat.le_trans (pick_len xs l' u' t') hz1), rfl, q _ (I5.hok.fresh (Nat.le_refl _))⟩
/-- range as a value -/
def rRng1 : List V → Hp → VK → Prop := fun vs H Q => (∃ n : Int, vs = [.int n] ∧ zNew (.rng 0 n) H Q) ∨ ∃ m n : Int, vs = [.int m, .int n] ∧ zNew (.rng m n) H Q
theorem z_range : CallR X (.type "range") rRng1 := by
  intro pins s σ H vs us Q I r h
  rcases h with ⟨n, rfl, q⟩ | ⟨m, n, rfl, q⟩
  · obtain ⟨u, rfl, t, rfl⟩ := vals1 r
    refine call_range_1 ⟨.ref s.heap.objs.size, _, I.laid (t' := s.toks + 1 + 1) (o := .rng 0 n) (fun b o e => Heap.get?_push_of_some _ e) (Nat.le_refl _) ?_, rfl, q _ (I.hok.fresh (Nat.le_refl _))⟩
    exact ⟨s.toks, t, s.toks + 1, Heap.get?_push_size _ rfl⟩
  · obtain ⟨u1, u2, rfl, ri, rj⟩ := vals2 r
    obtain ⟨t, rfl⟩ := ri
    obtain ⟨u, rfl⟩ := rj
    refine call_range_2 ⟨.ref s.heap.objs.size, _, I.laid (t' := s.toks + 1) (o := .rng m n) (fun b o e => Heap.get?_push_of_some _ e) (Nat.le_refl _) ?_, rfl, q _ (I.hok.fresh (Nat.le_refl _))⟩
    exact ⟨t, u, s.toks, Heap.get?_push_size _ rfl⟩
def rListR (K : PySem.W.Frag) : List V → Hp → VK → Prop := fun xs H Q => rListOf K xs H Q ∨ ∃ (p : Addr) (m : Int) (n : Nat), xs = [.ref p] ∧ H p = some (.rng m (m + n)) ∧ -16777216 ≤ m ∧ m ≤ 16777216 ∧ n ≤ 16777216 ∧ zNew (.lst ((List.range n).map fun i => V.int (m + (i : Nat)))) H Q
theorem k_listR {K : PySem.W.Frag} (hc : X.calm = true) (e : X.K = K := by rfl) : CallR X (.type "list") (rListR K) := by
  subst e
  intro pins s σ H xs us Q I r h
  rcases h with h | ⟨p, m, n, rfl, hp, m0, m1, hn, q⟩
  · exact z_list_of pins s σ H xs us Q I r h
  · obtain ⟨u, rfl, ru⟩ := vals1 r
    cases ru
    obtain ⟨t, t2, t3, ho⟩ := I.hok p _ hp
    have fit : ∀ x : Int, -1000000000000 < x → x < 1000000000000 → Builtin.Range.rangeFitsLong x = true := fun x a b => by
      unfold Builtin.Range.rangeFitsLong
      have e : (2 : Int) ^ 63 = 9223372036854775808 := by decide
      rw [e, decide_eq_true (by omega), decide_eq_true (by omega)]
      rfl
    have hsz : Builtin.Range.rangeSize m (m + n) 1 = n := by
      unfold Builtin.Range.rangeSize
      rw [if_pos (by decide)]
      split
      · rw [Int.ediv_one]; omega
      · omega
    have hsm : Builtin.Range.small m (m + n) 1 = true := by
      unfold Builtin.Range.small
      rw [hsz, fit m (by omega) (by omega), fit _ (by omega) (by omega), fit 1 (by omega) (by omega), fit n (by omega) (by omega), if_pos (by decide), fit (m + n + (1 - 1)) (by omega) (by omega), Bool.or_true]
      rfl
    refine call_list_range (n := n) (I.ok.hd hc) ho hsm hsz (by omega) fun h' tk acc c k hS hi => ?_
    have e1 : acc.size = n := hi.1
    refine ⟨.ref _, _, I.laid (t' := tk) (o := .lst ((List.range n).map fun i => V.int (m + (i : Nat)))) k (Nat.le_refl _) ?_, rfl, q _ (I.hok.fresh (Nat.le_refl _))⟩
    refine ⟨by rw [List.length_map, List.length_range, sz_eq]; exact hn, acc.toList, c, ?_, by rw [hS]⟩
    have : ∀ (ns : List Int) (l : List Value), ns.length = l.length → (∀ (i : Nat) (v : Value), l[i]? = some v → ∃ (t : Tok) (x : Int), ns[i]? = some x ∧ v = Value.int x t) → Vals (ns.map V.int) l := by
      intro ns
      induction ns with
      | nil =>
        intro l hl _
        cases l with
        | nil => exact .nil
        | cons _ _ => cases hl
      | cons x ns ih =>
        intro l hl h
        cases l with
        | nil => cases hl
        | cons v l =>
          obtain ⟨t, y, h1, h2⟩ := h 0 v rfl
          cases h1
          exact .cons ⟨t, h2⟩ (ih l (Nat.succ.inj hl) fun i w hw => h (i + 1) w hw)
    have z := this ((List.range n).map fun i => (m + (i : Nat) : Int)) acc.toList (by rw [List.length_map, List.length_range, Array.length_toList, e1]) (fun i v hv => by
      have hv' : acc[i]? = some v := by rw [← Array.getElem?_toList]; exact hv
      obtain ⟨t, ht⟩ := hi.2 i v hv'
      have hi2 : i < n := by
        have := (List.getElem?_eq_some_iff.mp hv).1
        rw [Array.length_toList, e1] at this
        exact this
      refine ⟨t, m + (i : Nat), by rw [List.getElem?_map, List.getElem?_range hi2]; rfl, ?_⟩
      rw [ht, Int.mul_one])
    rw [List.map_map] at z
    exact z
end
section
variable {σ : L2.St} {H : Hp} {Q : VK} {K : PySem.W.Frag} {a : Addr} {xs : List V} {te : TE} {tl th ts : TO}
theorem slT_ (h : te σ H fun x H1 => tl σ H1 fun lo H2 => th σ H2 fun hi H3 => ts σ H3 fun st H4 => zSlT K x lo hi st H4 Q) : tSlT K te tl th ts σ H Q := h
theorem zslT_ {lo hi st : Option Int} (e : H a = some (.lst xs)) (h0 : st ≠ some 0) (h : ∀ p H', H p = none → Ex H H' → H' p = some (.lst (pickL xs lo hi st)) → Q (.ref p) H') : zSlT K (.ref a) lo hi st H Q :=
  ⟨a, xs, rfl, SqL.of e, h0, new_ h⟩
theorem rng1_ {n : Int} (h : ∀ p H', H p = none → Ex H H' → H' p = some (.rng 0 n) → Q (.ref p) H') : rRng1 [.int n] H Q := .inl ⟨n, rfl, new_ h⟩
theorem rng2_ {m n : Int} (h : ∀ p H', H p = none → Ex H H' → H' p = some (.rng m n) → Q (.ref p) H') : rRng1 [.int m, .int n] H Q := .inr ⟨m, n, rfl, new_ h⟩
theorem listR_ (h : rListOf K [.ref a] H Q) : rListR K [.ref a] H Q := .inl h
theorem listRng_ {m k : Int} (e : H a = some (.rng m k)) (h0 : -16777216 ≤ m) (h1 : m ≤ 16777216) (h2 : m ≤ k) (h3 : k ≤ m + 16777216) (h : ∀ p H', H p = none → Ex H H' → H' p = some (.lst ((List.range (k - m).toNat).map fun i => V.int (m + (i : Nat)))) → Q (.ref p) H') : rListR K [.ref a] H Q :=
  .inr ⟨a, m, (k - m).toNat, rfl, by rw [e, Int.toNat_of_nonneg (by omega)]; congr 2; omega, h0, h1, by omega, new_ h⟩
end
end Z
namespace Z
open PySem PySem.Spec PyProof.Rows L2
section
variable {σ : L2.St} {H : Hp} {Q : VK} {K : PySem.W.Frag} {a : Addr} {xs : List V} {te : TE}
def zRevL (K : PySem.W.Frag) (Q : VK) (x : V) (H : Hp) : Prop := ∃ a xs, x = .ref a ∧ SqL K H a xs ∧ ∀ p, H p = none → Q (.ref p) (upd H p (.lst xs.reverse))
theorem revL_ (h : te σ H (zRevL K Q)) : tRevL K te σ H Q := h
theorem zrevL_ (e : H a = some (.lst xs)) (h : ∀ p H', H p = none → Ex H H' → H' p = some (.lst xs.reverse) → Q (.ref p) H') : zRevL K Q (.ref a) H := ⟨a, xs, rfl, SqL.of e, new_ h⟩
end
end Z
namespace Z
open PySem PySem.Spec PyProof.Rows L2
theorem cutV_from (l : List V) (n : Int) (h : 0 ≤ n) : cutV l (some n) none = l.drop n.toNat := by
  unfold cutV HT.sIx
  simp only [if_neg (show ¬ n < 0 by omega)]
  by_cases g : n.toNat ≤ l.length
  · rw [Nat.min_eq_left g, List.take_of_length_le (by rw [List.length_drop]; omega)]
  · rw [Nat.min_eq_right (show l.length ≤ n.toNat by omega), List.drop_eq_nil_of_le (Nat.le_refl _), List.drop_eq_nil_of_le (show l.length ≤ n.toNat by omega)]
    simp
end Z
/-! Z, part N: what a call binds, told by the written part -/
namespace Z
open PySem PySem.Spec PyProof.Rows L2
section
variable {K : PySem.W.Frag} {fd : FuncData} {ps ks : List Str} {n : Nat} {g : List Value → List Value → List Value} {gV : List V → List V → List V} {T D : Addr} {o : Obj} {its : List Value} {m : Nat} {ms : List (Str × Value)}
theorem kb_eq (rel : ∀ {vs : List V} {us : List Value} {zs : List V} {ws : List Value}, Vals vs us → Vals zs ws → Vals (gV vs zs) (g us ws))
    (h : ∀ us ws : List Value, us.length = n → ws.length = ks.length → bindArgs fd ⟨us, ks.zip ws⟩ = pure (ps.zip (g us ws))) : KBn K fd ps n ks g gV := ⟨fun s us ws _ l1 l2 => .of_eq (h us ws l1 l2), rel⟩
theorem kb_kw (hD : ∀ q ∈ ms, PySem.W.nsIn K D q.1 = some (some q.2)) (rel : ∀ {vs : List V} {us : List Value} {zs : List V} {ws : List Value}, Vals vs us → Vals zs ws → Vals (gV vs zs) (g us ws))
    (h : ∀ us ws : List Value, us.length = n → ws.length = ks.length → KwChain D ms (bindArgs fd ⟨us, ks.zip ws⟩) (ps.zip (g us ws))) : KBn K fd ps n ks g gV :=
  ⟨fun s us ws X l1 l2 => BindsTo.of_looks fun M => KwChain.looks X hD (h us ws l1 l2), rel⟩
theorem kb_df (lT : K.lookup T = some o) (oT : o.data = .seq its.toArray m) (hD : ∀ q ∈ ms, PySem.W.nsIn K D q.1 = some (some q.2))
    (rel : ∀ {vs : List V} {us : List Value} {zs : List V} {ws : List Value}, Vals vs us → Vals zs ws → Vals (gV vs zs) (g us ws))
    (h : ∀ us ws : List Value, us.length = n → ws.length = ks.length → ∃ k, bindArgs fd ⟨us, ks.zip ws⟩ = seqItems? (.ref T) >>= k ∧ KwChain D ms (k (some its.toArray)) (ps.zip (g us ws))) : KBn K fd ps n ks g gV :=
  ⟨fun s us ws X l1 l2 => BindsTo.of_looks fun M => by
    obtain ⟨k, e1, e2⟩ := h us ws l1 l2
    rw [e1]
    exact looks_items X lT oT (KwChain.looks X hD e2), rel⟩
end
end Z
/-! Z, part O: more of own objects: bool by __len__, isinstance, != -/
namespace Z
open PySem PySem.Spec PyProof.Rows L2 Builtin
section
variable {prog : Program} {w : World} {A : Around} {E : Value → Shared → Prop} {s : Shared} {K : PySem.W.Frag} {x C f : Addr} {ox : Obj} {od : Option Obj}
/-- what __len__ hands back, for bool -/
def LenTru (Q : Bool → Shared → Prop) (v : Value) (s' : Shared) : Prop := ∃ (n : Nat) (t : Tok), v = .int n t ∧ n ≤ 16777216 ∧ ∀ tk, Q (decide (0 < n)) { s' with toks := tk }
theorem own_truthy {Q : Bool → Shared → Prop} (X : K.In s.heap) (I : PySem.W.InstAt s.heap x ox C od) (nb : PySem.W.findIn K (.ref C) "__bool__" = some none) (hs : PySem.W.findIn K (.ref C) "__len__" = some (some (.ref f))) (hf : PySem.W.isFn K (.ref f) = true)
    (h : wpAny (model prog w) A.in1 (call (.ref f) [.ref x]) (LenTru Q) E s) : wpAny (model prog w) A (truthy (.ref x)) Q E s := by
  have key : wpAny (model prog w) A (runValue (.builtin "len" ⟨[.ref x], []⟩)) (fun r s' => ∃ (n : Nat) (t : Tok), r = .int n t ∧ Q (decide (0 < n)) s') E s := by
    refine wpAny_runValue (codeAny_builtin PySem.entry_len ?_)
    rw [Around.under_plainId PySem.plain_len _]
    unfold Builtin.«len»
    refine wpAny_bind (m := oneArg "len" _) (wpAny_pure ?_)
    refine wpAny_bind (m := callSpecial? (.ref x) (Str.ofString "__len__")) (PySem.W.special_fn X I hs (beq_iff_eq.mp hf) (wpAny_mono h (fun r s' hr => ?_) fun _ _ y => y))
    obtain ⟨n, t, rfl, hn, q⟩ := hr
    refine wpAny_bind (wpAny_holding (wpAny_pure ?_))
    refine wpAny_bind (wpAny_letGo ?_)
    show wpAny _ _ (if ((n : Nat) : Int) < 0 then _ else _) _ _ _
    rw [if_neg (by omega)]
    show wpAny _ _ (if ((n : Nat) : Int) ≥ 2 ^ 63 then _ else _) _ _ _
    rw [if_neg (by have : (2 : Int) ^ 63 = 9223372036854775808 := by decide
                   omega)]
    exact wpAny_bind (wpAny_mkInt (wpAny_pure ⟨n, _, rfl, q _⟩))
  have hsp : ∀ {Q' : Option Value → Shared → Prop}, Q' (some (.ref f)) s → wpAny (model prog w) A (specialOf (.ref x) "__len__") Q' E s := fun q => by
    unfold specialOf
    exact wpAny_bind (I.type.here ((PySem.W.looks_findIn X hs).here q))
  have hne : ∀ n : Nat, ((n : Int) != 0) = decide (0 < n) := fun n => by
    cases n with
    | zero => rfl
    | succ n => simp; omega
  unfold truthy
  first
    | refine wpAny_bind (DSub.special_no (name := Str.ofString "__bool__") X I nb ?_)
    | refine wpAny_bind (wpAny_pure (wpAny_bind (DSub.special_no (name := Str.ofString "__bool__") X I nb ?_)))
  first
    | refine wpAny_bind (hsp ?_)
    | refine wpAny_bind (wpAny_pure (wpAny_bind (hsp ?_)))
  first
    | exact wpAny_bind (wpAny_mono key (fun r s' h' => by obtain ⟨n, t, rfl, hq⟩ := h'; exact wpAny_pure (hne n ▸ hq)) fun _ _ e => e)
    | exact wpAny_bind (wpAny_pure (wpAny_bind (wpAny_mono key (fun r s' h' => by obtain ⟨n, t, rfl, hq⟩ := h'; exact wpAny_pure (hne n ▸ hq)) fun _ _ e => e)))
end
end Z
namespace Z
open PySem PySem.Spec PyProof.Rows L2 Builtin
section
variable {prog : Program} {w : World} {A : Around} {E : Value → Shared → Prop} {s : Shared} {K : PySem.W.Frag} {x C f : Addr} {ox : Obj} {od : Option Obj}
theorem own_bool {Q : Value → Shared → Prop} (X : K.In s.heap) (I : PySem.W.InstAt s.heap x ox C od) (nb : PySem.W.findIn K (.ref C) "__bool__" = some none) (hs : PySem.W.findIn K (.ref C) "__len__" = some (some (.ref f))) (hf : PySem.W.isFn K (.ref f) = true)
    (h : wpAny (model prog w) A.in1.in1.in1 (call (.ref f) [.ref x]) (LenTru fun b s' => Q (.bool b) s') E s) : wpAny (model prog w) A (call (.type "bool") [.ref x]) Q E s := by
  refine callType_codes (T := "bool") (Bi := Builtin.«object.__init__») (Q₁ := fun r s₁ => ∃ b, r = .bool b ∧ Q r s₁) PySem.F.called_bool (PySem.F.typeCall_bool_1 _) PySem.F.entry_object_init ?_ ?_
  · refine codeAny_of_tree ?_
    show wpAny _ A.in1.in1 (do checkBuiltinCall "bool.__new__" ⟨[.type "bool", .ref x], []⟩; again (.builtin "bool.__new__" ⟨[.type "bool", .ref x], []⟩)) _ _ s
    refine wpAny_bind (wpAny_of_eq (PySem.F.newCall_bool_1 _) (wpAny_pure ⟨PySem.plainId_quiet (by decide +kernel) _, codeAny_builtin PySem.F.entry_bool_new ?_⟩))
    rw [Around.under_plainId (by decide +kernel) _]
    unfold Builtin.«bool.__new__»
    refine wpAny_bind (m := isType _) (wpAny_pure ?_)
    refine wpAny_bind (wpAny_of_eq PySem.F.conv_sub_bool ?_)
    refine wpAny_bind (m := someArgs _ _ _ _) (wpAny_pure ?_)
    refine wpAny_bind (wpAny_mono (own_truthy (Q := fun b s' => Q (.bool b) s') X I nb hs hf h) (fun b s' z => wpAny_pure ⟨b, rfl, z⟩) fun _ _ y => y)
  · rintro obj s₁ ⟨b, rfl, hq⟩
    exact ⟨PySem.typeIs_bool _ _, PySem.F.args_object_init_2 _ _, object_init_meets PySem.F.called_bool.init.lookup PySem.F.called_bool.made (by decide) prog w A.in1 _ s₁ ⟨PySem.typeIs_bool _ _, rfl, hq⟩⟩
end
end Z
namespace Z
open PySem PySem.Spec PyProof.Rows L2 Builtin
section
variable {prog : Program} {w : World} {A : Around} {E : Value → Shared → Prop} {s : Shared} {K : PySem.W.Frag} {x y C f : Addr} {ox oy : Obj} {od od' : Option Obj}
theorem own_ne {Q : Value → Shared → Prop} (hu : A.units < cLine) (hu1 : A.in1.units < cLine) (X : K.In s.heap) (I : PySem.W.InstAt s.heap x ox C od) (J : PySem.W.InstAt s.heap y oy C od')
    (ne : PySem.W.findIn K (.ref C) "__ne__" = some (some (.builtin "object.__ne__"))) (eqf : PySem.W.findIn K (.ref C) "__eq__" = some (some (.ref f))) (hf : PySem.W.isFn K (.ref f) = true) (mo : PySem.W.subIn K (.ref C) (.type "object") = some true)
    (h : wpAny (model prog w) A.in1 (call (.ref f) [.ref x, .ref y]) (fun v s' => ∃ b, v = .bool b ∧ Q (.bool (!b)) s') E s) : wpAny (model prog w) A (richCompare .NotEq (.ref x) (.ref y)) Q E s := by
  have body : wpAny (model prog w) A (call (.builtin "object.__ne__") [.ref x, .ref y]) (fun v s' => ∃ b, v = .bool b ∧ Q (.bool b) s') E s := by
    refine wpAny_call (codeAny_call_builtin PySem.F.cmp_object.ne.plain PySem.F.cmpEntry_ne ?_)
    have hc : ∀ {A' : Around} {E' : Value → Shared → Prop} {Q' : Unit → Shared → Prop}, Q' () s → wpAny (model prog w) A' (checkBuiltinCall "object.__ne__" ⟨[.ref x, .ref y], []⟩) Q' E' s := fun {A' E' Q'} hq => by
      have ha := PySem.F.cmpArgs_ne (.ref x) (.ref y)
      simp only [checkBuiltinCall, PySem.F.cmpKind_ne, PySem.F.cmpSplit_ne]
      refine wpAny_bind ?_
      unfold isInstance
      refine wpAny_bind (I.type.here ((PySem.W.looks_subIn X mo).here ?_))
      cases hsig : Manifest.signature? "object.__ne__" with
      | none => exact wpAny_pure hq
      | some sig =>
        simp only [argsOk, hsig] at ha
        have h2 : Bind.checkArgs "object.__ne__" sig ⟨[.ref x, .ref y], []⟩ = pure () := ha
        show wpAny _ A' (Bind.checkArgs "object.__ne__" sig ⟨[.ref x, .ref y], []⟩) Q' E' _
        rw [h2]; exact wpAny_pure hq
    refine hc ?_
    unfold Builtin.«object.__ne__»
    refine wpAny_bind (m := slotArgs _ _ _) (wpAny_pure ?_)
    refine wpAny_bind (m := cRoomFor _ _) (wpAny_cRoomFor hu1 ?_)
    refine wpAny_bind (m := callSpecialIfBound? _ _ _) (PySem.W.ifBound_K X I eqf hf (wpAny_mono h (fun v s' hv => ?_) fun _ _ e => e))
    obtain ⟨b, rfl, q⟩ := hv
    refine wpAny_bind (m := truthy _) (wpAny_pure ?_)
    exact wpAny_pure ⟨_, rfl, q⟩
  have one : wpAny (model prog w) A (tryCompare (.ref x) "__ne__" (.ref y)) (fun r s' => ∃ v, r = some v ∧ Q v s') E s := by
    unfold tryCompare
    simp only [callSpecialIfBound?, bindSpecialIfBound?]
    refine wpAny_bind (wpAny_holding (wpAny_bind (wpAny_bind (wpAny_bind (I.type.here ((PySem.W.looks_findIn X ne).here ?_))))))
    simp only [PySem.F.cmp_object.ne.bind]
    refine wpAny_bind (wpAny_askSetting (wpAny_ite ?_))
    have fin : ∀ {Q' : Option Value → Shared → Prop}, (∀ b s', Q (.bool b) s' → Q' (some (.bool b)) s') → wpAny (model prog w) A (call (.builtin "object.__ne__") ([.ref x] ++ [.ref y]) >>= fun v => pure (some v)) Q' E s := fun {Q'} k => wpAny_bind (wpAny_mono body (fun v s' hv => by
      obtain ⟨b, rfl, q⟩ := hv
      exact wpAny_pure (k b s' q)) fun _ _ h' => h')
    split
    · refine wpAny_bind (wpAny_pure (wpAny_pure ?_))
      exact fin fun b s' q => wpAny_pure ⟨_, rfl, q⟩
    · refine wpAny_tryCatch (wpAny_bind (wpAny_pure (wpAny_pure ?_)))
      exact fin fun b s' q => wpAny_pure ⟨_, rfl, q⟩
  unfold richCompare
  simp only [oneThing_ref]
  refine wpAny_holding (wpAny_bind (wpAny_cRoomFor hu ?_))
  refine wpAny_bind (I.type.here (wpAny_bind (J.type.here ?_)))
  rw [if_neg (by simp)]
  refine wpAny_bind (wpAny_pure ?_)
  simp only [Bool.false_eq_true, if_false]
  refine wpAny_bind (wpAny_mono one (fun r s' z => ?_) fun _ _ e => e)
  obtain ⟨v, rfl, hq⟩ := z
  exact wpAny_pure hq
end
end Z
namespace Z
open PySem PySem.Spec PyProof.Rows L2 Builtin
/-- more of what a plain class must have: bool, !=, isinstance -/
structure OwnC (K : PySem.W.Frag) (C : Addr) : Prop where
  nb : PySem.W.findIn K (.ref C) "__bool__" = some none
  ne : PySem.W.findIn K (.ref C) "__ne__" = some (some (.builtin "object.__ne__"))
  ob : PySem.W.subIn K (.ref C) (.type "object") = some true
  ha : PySem.W.findIn K (.ref C) "__class__" = some (some (.builtin "object.__class__"))
  hn : PySem.W.specialIn K (.builtin "object.__class__") "__get__" = some (some (.builtin "getset_descriptor.__get__"))
  htk : PySem.W.takesIn K (.builtin "object.__class__") = some true
  hm : PySem.W.mroIn K C (.type "object") = some true
  ci : ∃ c, PySem.W.clsIn K C = some c
  ty : PySem.W.typeIn K (.ref C) = some (.type "type")
  s1 : PySem.W.subIn K (.type "str") (.ref C) = some false
  s2 : PySem.W.subIn K (.type "int") (.ref C) = some false
  s3 : PySem.W.subIn K (.type "bool") (.ref C) = some false
  s4 : PySem.W.subIn K (.type "list") (.ref C) = some false
  s5 : PySem.W.subIn K (.type "tuple") (.ref C) = some false
  s6 : PySem.W.subIn K (.type "NoneType") (.ref C) = some false
section
variable {X : Cx} {k : Nat} {C : Addr} {gV : List V → List V → List V} {sp : Sp}
def isLenB (Q : VK) : VK := fun v H => ∃ n : Nat, v = .int n ∧ n ≤ 16777216 ∧ Q (.bl (decide (0 < n))) H
theorem z_boolO (M : MthK X.prog X.w X.K X.mg X.base k C "__len__" 1 [] gV sp) (room : Room (k + 3) X.A) (noG : X.A.guards = some []) (oc : OwnC X.K C) : CallR X (.type "bool") (rOwn1 C sp gV isLenB) := by
  intro pins s σ H xs us Q I r h
  obtain ⟨a, dx, fs, rfl, ea, q⟩ := h
  obtain ⟨u, rfl, ru⟩ := vals1 r
  cases ru
  obtain ⟨ox, od, J⟩ := own_inst I ea
  obtain ⟨f, hf, fn, go⟩ := run_own (E := X.xe) (A := X.A.in1.in1.in1) M (room_in1 (room_in1 (room_in1 room))) noG rfl I r rfl q
  refine own_bool I.kIn J oc.nb hf fn (wpAny_mono go ?_ fun _ _ z => z)
  rintro v s' ⟨x, H', I', rx, n, rfl, hn, q'⟩
  obtain ⟨t, rfl⟩ := rx
  exact ⟨n, t, rfl, hn, fun tk => ⟨V.bl (decide (0 < n)), H', I'.tok _, rfl, q'⟩⟩
def rNeO (C : Addr) (sp : Sp) (gV : List V → List V → List V) : R2 := fun x y H Q => ∃ a b dx dy fs gs, x = .ref a ∧ y = .ref b ∧ H a = some (.ins C dx fs) ∧ H b = some (.ins C dy gs) ∧ sp (gV [x, y] []) H (fun v H' => ∃ c, v = .bl c ∧ Q (.bl (!c)) H') (fun _ _ _ => False)
theorem z_neO (M : MthK X.prog X.w X.K X.mg X.base k C "__eq__" 2 [] gV sp) (room : Room (k + 3) X.A) (noG : X.A.guards = some []) (oc : OwnC X.K C) : OpR X (compareOp .NotEq) (rNeO C sp gV) := by
  intro pins s σ H x y v u Q I rx ry h
  obtain ⟨a, b, dx, dy, fs, gs, rfl, rfl, ea, eb, q⟩ := h
  cases rx
  cases ry
  obtain ⟨ox, od, J⟩ := own_inst I ea
  obtain ⟨ox', od', J'⟩ := own_inst I eb
  obtain ⟨f, hf, fn, go⟩ := run_own (E := X.xe) (A := X.A.in1) M ((room_in1 room).mono (by omega)) noG rfl I (us := [.ref a, .ref b]) (vs := [.ref a, .ref b]) (.cons rfl (.cons rfl .nil)) rfl q
  refine own_ne room.units0 (room_in1 room).units0 I.kIn J J' oc.ne hf fn oc.ob (wpAny_mono go ?_ fun _ _ z => z)
  rintro v s' ⟨z, H', I', rz, c, rfl, q'⟩
  cases rz
  exact ⟨c, rfl, V.bl (!c), H', I', rfl, q'⟩
end
section
variable {σ : L2.St} {H : Hp} {Q : VK} {K : PySem.W.Frag} {w : World} {a b C dx dy : Addr} {fs gs : List (Str × V)} {x : V} {gV : List V → List V → List V} {sp : Sp}
theorem isO_ (e : H a = some (.ins C dx fs)) (c : Cls K C) (o : OwnC K C) (h : Q (.bl true) H) : rIsZ K [.ref a, .ref C] H Q :=
  .inl ⟨_, _, .ref C, .ref C, true, rfl, .own C, .base (.ins e c o.ha o.hn o.htk o.hm), by unfold PySem.W.kitOne; rw [if_pos (by simp)], h⟩
theorem kit_no {t : String} (o : OwnC K C) (s : PySem.W.subIn K (.type t) (.ref C) = some false) : PySem.W.kitOne K (.type t) (.ref C) = some false := by
  unfold PySem.W.kitOne
  rw [if_neg (by simp)]
  unfold PySem.W.kitCls
  obtain ⟨c, e⟩ := o.ci
  dsimp only
  rw [e, o.ty, s]
  rfl
theorem isOstr_ {l : List Nat} (o : OwnC K C) (h : Q (.bl false) H) : rIsZ K [T l, .ref C] H Q := .inl ⟨_, _, _, .ref C, false, rfl, .own C, .base (.str _), kit_no o o.s1, h⟩
theorem isOint_ {i : Int} (o : OwnC K C) (h : Q (.bl false) H) : rIsZ K [.int i, .ref C] H Q := .inl ⟨_, _, _, .ref C, false, rfl, .own C, .base (.int _), kit_no o o.s2, h⟩
theorem isObl_ {i : Bool} (o : OwnC K C) (h : Q (.bl false) H) : rIsZ K [.bl i, .ref C] H Q := .inl ⟨_, _, _, .ref C, false, rfl, .own C, .base (.bl _), kit_no o o.s3, h⟩
theorem isOnon_ (o : OwnC K C) (h : Q (.bl false) H) : rIsZ K [.non, .ref C] H Q := .inl ⟨_, _, _, .ref C, false, rfl, .own C, .base .non, kit_no o o.s6, h⟩
theorem isOlst_ {xs : List V} (e : H a = some (.lst xs)) (o : OwnC K C) (h : Q (.bl false) H) : rIsZ K [.ref a, .ref C] H Q := .inl ⟨_, _, _, .ref C, false, rfl, .own C, .base (.lst e), kit_no o o.s4, h⟩
theorem isOtup_ {xs : List V} (e : H a = some (.tup xs)) (o : OwnC K C) (h : Q (.bl false) H) : rIsZ K [.ref a, .ref C] H Q := .inl ⟨_, _, _, .ref C, false, rfl, .own C, .base (.tup e), kit_no o o.s5, h⟩
theorem isLenB_ {n : Nat} (l : n ≤ 16777216) (h : Q (.bl (decide (0 < n))) H) : isLenB Q (.int n) H := ⟨n, rfl, l, h⟩
/-- built-in kinds -/
theorem isLL_ {xs : List V} (e : H a = some (.lst xs)) (h : Q (.bl true) H) : rIsZ K [.ref a, .ty "list"] H Q := isB_ (a := "list") (.base (.lst e)) (by decide +kernel) h
theorem isTT_ {xs : List V} (e : H a = some (.tup xs)) (h : Q (.bl true) H) : rIsZ K [.ref a, .ty "tuple"] H Q := isB_ (a := "tuple") (.base (.tup e)) (by decide +kernel) h
theorem isII_ {i : Int} (h : Q (.bl true) H) : rIsZ K [.int i, .ty "int"] H Q := isB_ (a := "int") (.base (.int _)) (by decide +kernel) h
theorem isIB_ {i : Int} (h : Q (.bl false) H) : rIsZ K [.int i, .ty "bool"] H Q := isB_ (a := "int") (.base (.int _)) (by decide +kernel) h
def zEqO (C : Addr) (sp : Sp) (gV : List V → List V → List V) (N : Bool → VK → VK) (x y : V) (H : Hp) (Q : VK) : Prop := ∃ a b dx dy fs gs, x = .ref a ∧ y = .ref b ∧ H a = some (.ins C dx fs) ∧ H b = some (.ins C dy gs)
theorem eqO_ (e : H a = some (.ins C dx fs)) (e2 : H b = some (.ins C dy gs)) (h : zSp sp (gV [.ref a, .ref b] []) H (fun v H' => ∃ c, v = .bl c ∧ Q v H') (fun _ _ _ => False)) : rEqO C sp gV (.ref a) (.ref b) H Q := ⟨a, b, dx, dy, fs, gs, rfl, rfl, e, e2, h⟩
theorem neO_ (e : H a = some (.ins C dx fs)) (e2 : H b = some (.ins C dy gs)) (h : zSp sp (gV [.ref a, .ref b] []) H (fun v H' => ∃ c, v = .bl c ∧ Q (.bl (!c)) H') (fun _ _ _ => False)) : rNeO C sp gV (.ref a) (.ref b) H Q := ⟨a, b, dx, dy, fs, gs, rfl, rfl, e, e2, h⟩
end
theorem intL_len {n : Nat} (h : n ≤ 1000) : (intL (n : Int)).length ≤ 4 := by
  unfold intL
  have key : ∀ n : Nat, n < 1001 → ((Str.ofString (toString (n : Int))).cps.toList).length ≤ 4 := by decide +kernel
  exact key n (by omega)
end Z
/-! Z, part P: sum(list, start=k) -/
namespace Z
open PySem PySem.Spec PyProof.Rows L2 Builtin
section
variable {prog : Program} {w : World} {A : Around} {I : Addr} {fp wr : List Addr} {n : Nat} {P : Nat → Value → Prop} {St : Nat → Heap → Prop}
/-- one item ahead, that has been taken -/
theorem walks_shift (W : Walks prog w A I fp wr n P St) : Walks prog w A I fp wr (n + 1) (fun i v => ∃ j, i = j + 1 ∧ P j v) (fun i h => ∃ j, i = j + 1 ∧ St j h) where
  sub := W.sub
  frame := fun i h h' ⟨j, e, st⟩ k => ⟨j, e, W.frame j h h' st k⟩
  item := fun i s Q E hi ⟨j, e, st⟩ k => W.item j s Q E (by omega) st fun v h' tk p st' fr => k v h' tk ⟨j, e, p⟩ ⟨j + 1, by omega, st'⟩ fr
  done := fun s Q E ⟨j, e, st⟩ k => W.done s Q E (by rw [show n = j by omega]; exact st) k
  self := fun i s Q E ⟨j, e, st⟩ q => W.self j s Q E st q
def shiftV (k : Int) (val : Nat → Int) : Nat → Int
  | 0 => k
  | j + 1 => val j
theorem preSum_shift (k : Int) (val : Nat → Int) : ∀ j, preSum (shiftV k val) (j + 1) = k + preSum val j
  | 0 => by show 0 + k = k + 0; omega
  | j + 1 => by
    show preSum (shiftV k val) (j + 1) + val j = k + (preSum val j + val j)
    rw [preSum_shift k val j]
    omega
end
theorem args_sumK (a b : Value) : argsOk "sum" ⟨[a], [(Str.ofString "start", b)]⟩ := by unfold argsOk; kernel_rfl
section
variable {prog : Program} {w : World} {A : Around} {E : Value → Shared → Prop} {s : Shared} {l : Addr} {xs : Array (Int × Tok)}
theorem sum_start {k : Int} {t0 : Tok} {Q : Value → Shared → Prop} (hh : A.handled = none) (hl : s.heap.IsList l (intItems xs)) (k0 : -(2 ^ 63) ≤ k) (k1 : k < 2 ^ 63)
    (h : ∀ h' tk t', (∀ b o, s.heap.get? b = some o → h'.get? b = some o) → Q (.int (k + preSum (numAt xs) xs.size) t') { s with heap := h', toks := tk }) :
    wpAny (model prog w) A (call (.builtin "sum") [.ref l] [(Str.ofString "start", .int k t0)]) Q E s := by
  refine wpAny_call (codeAny_call_builtin F.plain_sum F.entry_sum ?_)
  have ha := args_sumK (.ref l) (.int k t0)
  simp only [checkBuiltinCall, F.kind_sum]
  have body : wpAny (model prog w) A.in1 (Builtin.«sum» ⟨[.ref l], [(Str.ofString "start", .int k t0)]⟩) (fun fin s' => match fin with
      | .done f => (match (Except.ok f : Result) with | .ok (.ret v) => Q v s' | .ok _ => False | .error e => E e s')
      | .again c' => c'.quiet = true ∧ codeAny (model prog w) A c' (fun r s' => match r with | .ok (.ret v) => Q v s' | .ok _ => False | .error e => E e s') s') E s := by
    unfold Builtin.«sum»
    simp only [List.length_cons, List.length_nil]
    rw [if_neg (by decide)]
    refine wpAny_bind (wpAny_of_eq (show Builtin.Builtins.bindParams "sum" ["start"] 0 ⟨[], [(Str.ofString "start", .int k t0)]⟩ = pure [some (.int k t0)] from rfl) ?_)
    refine wpAny_bind (m := pyIter _) (iter_intList hl fun s₂ e st hfp hlI => ?_)
    subst e
    have W := walks_shift (Walks.list (prog := prog) (w := w) (A := A.in1) hh s.heap.objs.size l hlI (intItems xs))
    have hc : (decide (-(2 ^ 63) ≤ k) && decide (k < 2 ^ 63)) = true := by
      simp only [Bool.and_eq_true, decide_eq_true_eq]
      exact ⟨k0, k1⟩
    show wpAny _ A.in1 (if (_ : Bool) = true then _ else _) _ _ _
    split
    · refine wpAny_bind (wpAny_rule ?_)
      refine wpAny_bind (wpAny_mkInt ?_)
      refine wpAny_bind (wpAny_pure ?_)
      simp only [List.forIn_cons, List.forIn_nil]
      refine wpAny_bind (wpAny_bind (wpAny_bind (wpAny_isInstance (T := "int") (b := false) (PySem.typeIs_int _ _ _) PySem.sub_int_str ?_)))
      simp only [Bool.false_eq_true, if_false]
      refine wpAny_pure (wpAny_bind (wpAny_bind (wpAny_isInstance (T := "int") (b := false) (PySem.typeIs_int _ _ _) PySem.sub_int_bytes ?_)))
      simp only [Bool.false_eq_true, if_false]
      refine wpAny_pure (wpAny_bind (wpAny_bind (wpAny_isInstance (T := "int") (b := false) (PySem.typeIs_int _ _ _) PySem.sub_int_bytearray ?_)))
      simp only [Bool.false_eq_true, if_false]
      refine wpAny_pure (wpAny_pure ?_)
      refine wpAny_bind (wpAny_newObj_type ?_)
      have hSf : (s.heap.push { cls := .type "list_iterator", data := .fields #[.ref l, .int 0 0] }).objs.size ∉ [s.heap.objs.size, l] := fun hm => Nat.lt_irrefl _ (hfp _ hm)
      have e1 : preSum (shiftV k (numAt xs)) 1 = k := (preSum_shift k (numAt xs) 0).trans (Int.add_zero k)
      have e2 : (intItems xs).size = xs.size := by simp [intItems]
      refine wpAny_pure ⟨plainId_quiet F.plain_sum_loop _, codeAny_sum_loopG W (shiftV k (numAt xs)) (fun i v ⟨j, e, p⟩ => by rw [e]; exact intItems_at p) _ hSf ((intItems xs).size) 1 _ s.toks 0 0 (Or.inl rfl) rfl (by omega)
        ?_ (by rw [e1]; exact Heap.get?_push_size _ rfl) fun h' tk t' hk => ?_⟩
      · refine W.frame 1 _ _ ⟨0, rfl, st⟩ fun b hb o e => Heap.get?_push_of_some _ e
      · rw [e2, preSum_shift]
        refine h h' tk t' fun b o e => ?_
        have lt := Heap.lt_size e
        refine hk b o (fun z => ?_) (fun z => ?_) (Heap.get?_push_of_some _ (Heap.get?_push_of_some _ e))
        · rw [List.mem_singleton.mp z] at lt
          exact Nat.lt_irrefl _ lt
        · have := hfp s.heap.objs.size (by simp)
          rw [z] at lt
          exact Nat.lt_irrefl _ (Nat.lt_trans lt this)
    · rename_i hneg
      exact absurd hc hneg
  cases hsig : Manifest.signature? "sum" with
  | none => exact wpAny_pure body
  | some sig =>
    simp only [argsOk, hsig] at ha
    have h2 : Bind.checkArgs "sum" sig ⟨[.ref l], [(Str.ofString "start", .int k t0)]⟩ = pure () := ha
    show wpAny _ A.in1 (Bind.checkArgs "sum" sig ⟨[.ref l], [(Str.ofString "start", .int k t0)]⟩) _ _ s
    rw [h2]; exact wpAny_pure body
end
end Z
namespace Z
open PySem PySem.Spec PyProof.Rows L2
section
variable {M : Model} {A : Around} {E : Value → Shared → Prop} {s : Shared}
theorem callWith_bltK {pos : Pos} {T : String} {first : List Value} {args : List (Bool × Sem Value)} {keywords : List (Option Str × Sem Value)} {Q : Value → Shared → Prop}
    (hplain : args.any (·.1) = false) (hkw : keywords.any (·.1.isNone) = false) (hk : keeperOf (.builtin T) = pure .machine)
    (h : wpAny M A (evalArgs (.builtin T) true args keywords) (fun a s₁ => wpAny M A (call (.builtin T) (first ++ a.pos) a.kw) Q E s₁) E s) : wpAny M A (callWith pos (.builtin T) first args keywords) Q E s := by
  unfold callWith
  refine wpAny_bind (wpAny_holding (wpAny_mono h (fun a s₁ h₁ => wpAny_bind (wpAny_standAt ?_)) fun _ _ x => x))
  simp only [hplain, hkw, Bool.or_false]
  rw [hk]
  refine wpAny_bind (wpAny_pure ?_)
  exact wpAny_bind (wpAny_mono h₁ (fun r s₂ hr => wpAny_bind (wpAny_holding (wpAny_point (wpAny_pure hr)))) fun _ _ x => x)
end
def zSumK (K : PySem.W.Frag) (Q : VK) (vs zs : List V) (H : Hp) : Prop := ∃ (a : Addr) (ns : List Int) (k : Int), vs = [.ref a] ∧ zs = [.int k] ∧ SqL K H a (ns.map V.int) ∧ -(2 ^ 63) ≤ k ∧ k < 2 ^ 63 ∧ Q (.int (k + ns.sum)) H
def tSumK (K : PySem.W.Frag) (ta tk : TA) : TE := fun σ H Q => ta σ H fun vs H1 => tk σ H1 (zSumK K Q vs)
theorem z_sumK {X : Cx} {K : PySem.W.Frag} {e e2 : Expr} {ta tk : TA} {p pos kp : Pos} (hc : X.calm = true) (hg : Gl X "sum") (hm : X.mg "sum" = none) (ha : PA X [e] ta) (hk : PK X [⟨some "start", e2, kp⟩] tk)
    (eK : X.K = K := by rfl) (hs : starEach [e] X.env = [(false, eval e X.env)] := by rfl) :
    PE X (.Call (.Name "sum" p) [e] [⟨some "start", e2, kp⟩] pos) (tSumK K ta tk) := by
  subst eK
  refine ⟨fun pins s σ H Q I h => ?_⟩
  have F0 : (backTo pos (starEach [e] X.env)).any (·.1) = false := by rw [hs]; rfl
  refine wpAny_Call_Name_kw (ld_blt I hg hm boot_sum ?_)
  refine callWith_bltK F0 rfl (by with_unfolding_all rfl) ?_
  refine evalArgs_kw2 rfl (thn (ha.run pos pins s σ H _ I h) fun us s1 ⟨vs, H1, I1, r1, q1⟩ => thn (hk.run pos pins s1 σ H1 _ I1 q1) fun ws s2 ⟨zs, H2, I2, r2, q2⟩ => ?_) hs
  obtain ⟨a, ns, k, rfl, rfl, hq, k0, k1, q⟩ := q2
  obtain ⟨u2, rfl, t2, rfl⟩ := vals1 r2
  rw [Vals.ref1 r1]
  obtain ⟨its, rv, hl, _⟩ := I2.list hq
  obtain ⟨xs, ex⟩ := rv.ints.allInts.items
  have hn : numsOf (intItems xs).toList = ns := by rw [← ex]; exact rv.ints.numsOf
  rw [nums_intItems] at hn
  have hl2 := hl.isList
  rw [ex] at hl2
  refine sum_start (I2.ok.hd hc) hl2 k0 k1 fun h' tk t' hk' => ?_
  rw [preSum_eq, List.take_of_length_le (by simp), hn]
  exact ⟨.int _, H2, I2.kept hk', ⟨_, rfl⟩, q⟩
section
variable {σ : L2.St} {H : Hp} {Q : VK} {K : PySem.W.Frag} {a : Addr} {ta tk : TA}
theorem sumK_ (h : ta σ H fun vs H1 => tk σ H1 (zSumK K Q vs)) : tSumK K ta tk σ H Q := h
theorem zsumK_ {ns : List Int} {k : Int} (e : H a = some (.lst (ns.map V.int))) (k0 : -9223372036854775808 ≤ k) (k1 : k < 9223372036854775808) (h : Q (.int (k + ns.sum)) H) : zSumK K Q [.ref a] [.int k] H := ⟨a, ns, k, rfl, rfl, SqL.of e, k0, k1, h⟩
end
end Z
/-! Z, part Q: C(k = v) without values by place -/
namespace Z
open PySem PySem.Spec PyProof.Rows L2
section
variable {X : Cx} {k n : Nat} {sp : Sp} {ks : List Str} {gV : List V → List V → List V} {x : Str} {C : Addr} {p pos : Pos} {kws : List Keyword} {tk : TA} {W : WX}
theorem pe_kkK (D : MkK X.prog X.w X.K X.mg X.base k x C n ks gV sp) (room : Room (k + 1) X.A) (noG : X.A.guards = some []) (hg : Gl X x) (tw : TK X W)
    (hkw : PK X kws tk) (hall : (backToKw pos (keywordEach kws X.env)).all (·.1.isSome) = true := by rfl) (hks : (backToKw pos (keywordEach kws X.env)).filterMap (·.1) = ks := by rfl)
    (hdb : (x == ("__debug__" : Str)) = false := by decide)
    (hpl : ((backTo pos (starEach [] X.env)).any (·.1) || (backToKw pos (keywordEach kws X.env)).any (·.1.isNone)) = false := by rfl) :
    PE X (.Call (.Name x p) [] kws pos) (tKK C sp gV (fun σ c d H' => W c d σ H') n ks.length tNil tk) := by
  obtain ⟨f, fd, ps, g, F, hm, M, hb⟩ := D.ex
  refine ⟨fun pins s σ H Q I h => ?_⟩
  refine wpAny_Call_Name_kw (ld_glob I hg hm ?_ hdb)
  refine PySem.W.callWith_KW0 (h₀ := X.base) I.ok.mod.kin M.kp hall (thn (hkw.run pos pins s σ H _ I h) fun ws s2 ⟨zs, H2, I2, rz, l1, l2, q2⟩ => ⟨I2.kIn, ?_⟩) hpl
  rw [hks]
  exact run_gmake (us := []) (vs := []) M F room noG hb (fun H s I => tw _ _ _ _ I) I2 .nil rz l1 l2 q2
end
end Z
namespace Z
open PySem PySem.Spec PyProof.Rows L2
section
variable {H : Hp} {Q : VK} {l : List Nat} {i : Int} {b : Bool} {a : Addr}
theorem isN_T (h : Q (.bl false) H) : rIsN (T l) .non H Q := ⟨rfl, by rw [decide_eq_false (fun e => nomatch e)]; exact h⟩
theorem isN_I (h : Q (.bl false) H) : rIsN (.int i) .non H Q := ⟨rfl, by rw [decide_eq_false (fun e => nomatch e)]; exact h⟩
theorem isN_B (h : Q (.bl false) H) : rIsN (.bl b) .non H Q := ⟨rfl, by rw [decide_eq_false (fun e => nomatch e)]; exact h⟩
theorem isN_R (h : Q (.bl false) H) : rIsN (.ref a) .non H Q := ⟨rfl, by rw [decide_eq_false (fun e => nomatch e)]; exact h⟩
theorem isN_N (h : Q (.bl true) H) : rIsN .non .non H Q := ⟨rfl, h⟩
theorem noN_T (h : Q (.bl true) H) : rNotN (T l) .non H Q := ⟨rfl, by rw [decide_eq_false (fun e => nomatch e)]; exact h⟩
theorem noN_I (h : Q (.bl true) H) : rNotN (.int i) .non H Q := ⟨rfl, by rw [decide_eq_false (fun e => nomatch e)]; exact h⟩
theorem noN_R (h : Q (.bl true) H) : rNotN (.ref a) .non H Q := ⟨rfl, by rw [decide_eq_false (fun e => nomatch e)]; exact h⟩
theorem noN_N (h : Q (.bl false) H) : rNotN .non .non H Q := ⟨rfl, h⟩
end
end Z
/-! Z, part R: what stands apart in the heap -/
namespace Z
open PySem PySem.Spec PyProof.Rows L2
/-- what is said of a part of the heap -/
abbrev Asn := Hp → Prop
/-- what may be changed -/
def mu : HO → Bool
  | .lst _ => true
  | .dK _ => true
  | .dT _ => true
  | .set _ _ => true
  | .ins _ _ _ => true
  | .ext _ => true
  | .tbl _ => true
  | _ => false
/-- what may be changed of the one stands not in the other -/
def Dis (h g : Hp) : Prop := ∀ a o, h a = some o → mu o = true → g a = none
theorem Dis.symm {h g H : Hp} (d : Dis h g) (a : Ex h H) (b : Ex g H) : Dis g h := fun x o e m => by
  cases q : h x with
  | none => rfl
  | some u =>
    have e1 := a _ _ q
    have e2 := b _ _ e
    rw [e1] at e2
    cases e2
    rw [d _ _ q m] at e
    cases e
theorem Dis.sub {h g g' : Hp} (d : Dis h g) (e : Ex g' g) : Dis h g' := fun x o q m => e.back (d x o q m)
def S : List Asn → Asn
  | [] => fun _ => True
  | A :: L => fun H => ∃ h g, A h ∧ S L g ∧ Ex h H ∧ Ex g H ∧ Dis h g
theorem S.up {L : List Asn} {H H' : Hp} (s : S L H) (e : Ex H H') : S L H' := by
  cases L with
  | nil => trivial
  | cons A L =>
    obtain ⟨h, g, a, b, c, d, f⟩ := s
    exact ⟨h, g, a, b, c.trans e, d.trans e, f⟩
theorem S.drop {A : Asn} {L : List Asn} {H : Hp} (s : S (A :: L) H) : S L H := by
  obtain ⟨h, g, a, b, c, d, f⟩ := s
  exact b.up d
theorem S.imp {A B : Asn} {L : List Asn} {H : Hp} (s : S (A :: L) H) (i : ∀ h, A h → B h) : S (B :: L) H := by
  obtain ⟨h, g, a, b, c, d, f⟩ := s
  exact ⟨h, g, i h a, b, c, d, f⟩
/-- two parts of one heap, put together -/
def uni (h g : Hp) : Hp := fun a => match h a with | some o => some o | none => g a
theorem uni_l (h g : Hp) : Ex h (uni h g) := fun a o e => by unfold uni; rw [e]
theorem uni_r {h g H : Hp} (a : Ex h H) (b : Ex g H) : Ex g (uni h g) := fun x o e => by
  unfold uni
  cases q : h x with
  | none => exact e
  | some u =>
    have e1 := a _ _ q
    have e2 := b _ _ e
    rw [e1] at e2
    exact e2
theorem uni_ex {h g H : Hp} (a : Ex h H) (b : Ex g H) : Ex (uni h g) H := fun x o e => by
  unfold uni at e
  cases q : h x with
  | none => rw [q] at e; exact b _ _ e
  | some u => rw [q] at e; cases e; exact a _ _ q
theorem Dis.uni {k h g : Hp} (a : Dis k h) (b : Dis k g) : Dis k (uni h g) := fun x o e m => by
  unfold Z.uni
  rw [a _ _ e m]
  exact b _ _ e m
theorem Dis.uni_l {h g k : Hp} (a : Dis h k) (b : Dis g k) : Dis (Z.uni h g) k := fun x o e m => by
  unfold Z.uni at e
  cases q : h x with
  | none => rw [q] at e; exact b _ _ e m
  | some u => rw [q] at e; cases e; exact a _ _ q m
theorem S.swap {A B : Asn} {L : List Asn} {H : Hp} (s : S (A :: B :: L) H) : S (B :: A :: L) H := by
  obtain ⟨h, g, a, ⟨h1, g1, b, l, e1, e2, d1⟩, c, d, f⟩ := s
  refine ⟨h1, uni h g1, b, ⟨h, g1, a, l, uni_l _ _, uni_r c (e2.trans d), f.sub e2⟩, e1.trans d, uni_ex c (e2.trans d), ?_⟩
  exact Dis.uni ((f.sub e1).symm c (e1.trans d)) d1
theorem S.cong {A : Asn} {L M : List Asn} {H : Hp} (s : S (A :: L) H) (i : ∀ g, S L g → S M g) : S (A :: M) H := by
  obtain ⟨h, g, a, b, c, d, f⟩ := s
  exact ⟨h, g, a, i g b, c, d, f⟩
inductive Pick (A : Asn) : List Asn → List Asn → Prop
  | head {L : List Asn} : Pick A (A :: L) L
  | tail {B : Asn} {L M : List Asn} (p : Pick A L M) : Pick A (B :: L) (B :: M)
theorem S.pick {A : Asn} {L M : List Asn} (p : Pick A L M) : ∀ {H : Hp}, S L H → S (A :: M) H := by
  induction p with
  | head => exact fun s => s
  | tail p ih => exact fun s => S.swap (s.cong fun g => ih)
theorem S.unpick {A : Asn} {L M : List Asn} (p : Pick A L M) : ∀ {H : Hp}, S (A :: M) H → S L H := by
  induction p with
  | head => exact fun s => s
  | tail p ih => exact fun s => (S.swap s).cong fun g => ih
inductive Sub : List Asn → List Asn → Prop
  | refl {L : List Asn} : Sub L L
  | nil {L : List Asn} : Sub [] L
  | cons {A : Asn} {L M N : List Asn} (p : Pick A M N) (s : Sub L N) : Sub (A :: L) M
  | drop {A : Asn} {L M : List Asn} (s : Sub L M) : Sub L (A :: M)
theorem S.sub {L M : List Asn} (p : Sub L M) : ∀ {H : Hp}, S M H → S L H := by
  induction p with
  | refl => exact fun s => s
  | nil => exact fun _ => trivial
  | cons p s ih => exact fun h => (S.pick p h).cong fun g => ih
  | drop s ih => exact fun h => ih h.drop
theorem S.to {L M : List Asn} {H : Hp} (s : S M H) (p : Sub L M) : S L H := S.sub p s
/-- replaced where it stands -/
inductive Rep (A A' : Asn) : List Asn → List Asn → Prop
  | head {L : List Asn} : Rep A A' (A :: L) (A' :: L)
  | tail {B : Asn} {L M : List Asn} (p : Rep A A' L M) : Rep A A' (B :: L) (B :: M)
theorem Rep.picks {A A' : Asn} {L M : List Asn} (r : Rep A A' L M) : ∃ N, Pick A L N ∧ Pick A' M N := by
  induction r with
  | head => exact ⟨_, .head, .head⟩
  | tail p ih =>
    obtain ⟨N, a, b⟩ := ih
    exact ⟨_, .tail a, .tail b⟩
/-- an object at its place -/
def pts (a : Addr) (o : HO) : Asn := fun h => h a = some o
def one (a : Addr) (o : HO) : Hp := fun b => if b = a then some o else none
theorem one_at (a : Addr) (o : HO) : one a o a = some o := if_pos rfl
theorem one_ex {a : Addr} {o : HO} {H : Hp} (e : H a = some o) : Ex (one a o) H := fun b u h => by
  unfold one at h
  by_cases q : b = a
  · rw [if_pos q] at h; cases h; rw [q]; exact e
  · rw [if_neg q] at h; cases h
theorem one_dis {a : Addr} {o : HO} {H : Hp} (e : H a = none) : Dis (one a o) H := fun b u h _ => by
  unfold one at h
  by_cases q : b = a
  · rw [q]; exact e
  · rw [if_neg q] at h; cases h
theorem S.new {L : List Asn} {H H' : Hp} {p : Addr} {o : HO} (s : S L H) (n : H p = none) (e : Ex H H') (q : H' p = some o) : S (pts p o :: L) H' :=
  ⟨one p o, H, one_at _ _, s, one_ex q, e, one_dis n⟩
theorem S.at_ {L M : List Asn} {H : Hp} {a : Addr} {o : HO} (s : S L H) (p : Pick (pts a o) L M) : H a = some o := by
  obtain ⟨h, g, x, _, c, _⟩ := S.pick p s
  exact c _ _ x
/-- known of a part, known of all -/
theorem S.of {A : Asn} {L M : List Asn} {H : Hp} (s : S L H) (p : Pick A L M) : ∃ h, A h ∧ Ex h H := by
  obtain ⟨h, g, x, _, c, _⟩ := S.pick p s
  exact ⟨h, x, c⟩
theorem S.change {L : List Asn} {H H' : Hp} {l : Addr} {o o' : HO} (s : S (pts l o :: L) H) (m : mu o = true) (e : H' l = some o') (b : But l H H') : S (pts l o' :: L) H' := by
  obtain ⟨h, g, x, y, c, d, f⟩ := s
  have n := f _ _ x m
  exact ⟨one l o', g, one_at _ _, y, one_ex e, fun z u q => b _ _ (ne_of_none q n) (d _ _ q), one_dis n⟩
theorem S.set {L M : List Asn} {H H' : Hp} {l : Addr} {o o' : HO} (s : S L H) (p : Rep (pts l o) (pts l o') L M) (m : mu o = true) (e : H' l = some o') (b : But l H H') : S M H' := by
  obtain ⟨N, p1, p2⟩ := p.picks
  exact S.unpick p2 ((S.pick p1 s).change m e b)
/-- what stands at some places, and what is never changed -/
def restr (fp : List Addr) (H : Hp) : Hp := fun a => match H a with
  | some o => if a ∈ fp ∨ mu o = false then some o else none
  | none => none
theorem restr_at {fp : List Addr} {H : Hp} {a : Addr} {o : HO} (h : a ∈ fp ∨ mu o = false) (e : H a = some o) : restr fp H a = some o := by
  unfold restr
  rw [e]
  exact if_pos h
theorem restr_ex (fp : List Addr) (H : Hp) : Ex (restr fp H) H := fun a o e => by
  unfold restr at e
  cases q : H a with
  | none => rw [q] at e; cases e
  | some u =>
    rw [q] at e
    simp only at e
    split at e
    · exact e
    · cases e
theorem restr_in {fp : List Addr} {H : Hp} {a : Addr} {o : HO} (e : restr fp H a = some o) (m : mu o = true) : a ∈ fp := by
  have e2 := restr_ex _ _ _ _ e
  unfold restr at e
  rw [e2] at e
  simp only at e
  split at e
  · rename_i h
    rcases h with h | h
    · exact h
    · rw [m] at h; cases h
  · cases e
/-- a part that owns some places is changed -/
theorem S.upd {A A' : Asn} {L : List Asn} {H H' : Hp} {fp fp' : List Addr} (s : S (A :: L) H) (w : ∀ h, A h → Ex h H → ∀ x ∈ fp, ∃ o, h x = some o ∧ mu o = true) (b : Bs fp H H') (gr : Grow H fp fp') (k : A' (restr fp' H')) : S (A' :: L) H' := by
  obtain ⟨h, g, x, y, c, d, f⟩ := s
  have no : ∀ z ∈ fp, g z = none := fun z hz => by
    obtain ⟨o, e, m⟩ := w h x c z hz
    exact f _ _ e m
  have keep : Ex g H' := fun z u q => b _ _ (fun hz => by rw [no z hz] at q; cases q) (d _ _ q)
  refine ⟨restr fp' H', g, k, y, restr_ex _ _, keep, fun z u q m => ?_⟩
  rcases gr z (restr_in q m) with hz | hz
  · exact no z hz
  · exact d.back hz
theorem S.newp {A' : Asn} {L : List Asn} {H H' : Hp} {fp' : List Addr} (s : S L H) (e : Ex H H') (gr : ∀ x ∈ fp', H x = none) (k : A' (restr fp' H')) : S (A' :: L) H' :=
  ⟨restr fp' H', H, k, s, restr_ex _ _, e, fun z u q m => gr z (restr_in q m)⟩
/-- parts within a part -/
theorem S.join {L M : List Asn} {H : Hp} (s : S (S L :: M) H) : S (L ++ M) H := by
  induction L generalizing H with
  | nil => exact s.drop
  | cons A L ih =>
    obtain ⟨h, g, ⟨h1, g1, a, l, e1, e2, d1⟩, m, c, d, f⟩ := s
    have f1 : Dis h1 g := fun x o q mm => f _ _ (e1 _ _ q) mm
    have f2 : Dis g1 g := fun x o q mm => f _ _ (e2 _ _ q) mm
    refine ⟨h1, uni g1 g, a, ih ⟨g1, g, l, m, uni_l _ _, uni_r (e2.trans c) d, f2⟩, e1.trans c, uni_ex (e2.trans c) d, Dis.uni d1 f1⟩
theorem S.fold {L M : List Asn} {H : Hp} (s : S (L ++ M) H) : S (S L :: M) H := by
  induction L generalizing H with
  | nil => exact ⟨fun _ => none, H, trivial, s, (fun _ _ h => nomatch h), Ex.refl _, (fun _ _ h => nomatch h)⟩
  | cons A L ih =>
    obtain ⟨h, g, a, l, c, d, f⟩ := s
    obtain ⟨h1, g1, x, m, e1, e2, f1⟩ := ih l
    refine ⟨uni h h1, g1, ⟨h, h1, a, x, uni_l _ _, uni_r c (e1.trans d), f.sub e1⟩, m, uni_ex c (e1.trans d), e2.trans d, Dis.uni_l (f.sub e2) f1⟩
theorem S.ex {α : Type} {A : α → Asn} {L : List Asn} {H : Hp} (s : S ((fun h => ∃ x, A x h) :: L) H) : ∃ x, S (A x :: L) H := by
  obtain ⟨h, g, ⟨x, a⟩, b, c, d, f⟩ := s
  exact ⟨x, h, g, a, b, c, d, f⟩
theorem S.emp (H : Hp) : S [] H := trivial
/-! ### for the steps -/
theorem new_S {L : List Asn} {H : Hp} {o : HO} {Q : Addr → Hp → Prop} (s : S L H) (k : ∀ p H', S (pts p o :: L) H' → Q p H') : ∀ p H', H p = none → Ex H H' → H' p = some o → Q p H' :=
  fun p H' n e q => k p H' (s.new n e q)
theorem mut_S {L M : List Asn} {H : Hp} {l : Addr} {o o' : HO} {Q : Hp → Prop} (s : S L H) (p : Rep (pts l o) (pts l o') L M) (m : mu o = true) (k : ∀ H', S M H' → Q H') : ∀ H', H' l = some o' → But l H H' → Q H' :=
  fun H' e b => k H' (s.set p m e b)
theorem ext_S {L : List Asn} {H : Hp} {Q : Hp → Prop} (s : S L H) (k : ∀ H', S L H' → Q H') : ∀ H', Ex H H' → Q H' := fun H' e => k H' (s.up e)
/-- a list that may be the written part's -/
def ASq (K : PySem.W.Frag) (a : Addr) (xs : List V) : Asn := fun h => SqL K h a xs
theorem S.sq {K : PySem.W.Frag} {L M : List Asn} {H : Hp} {a : Addr} {xs : List V} (s : S L H) (p : Pick (ASq K a xs) L M) : SqL K H a xs := by
  obtain ⟨h, x, e⟩ := s.of p
  exact e.seqL x
theorem S.ofSq {K : PySem.W.Frag} {H : Hp} {a : Addr} {xs : List V} (h : SqL K H a xs) : S [ASq K a xs] H := ⟨H, fun _ => none, h, trivial, Ex.refl _, (fun _ _ h => nomatch h), fun _ _ _ _ => rfl⟩
end Z
namespace Z
open PySem PySem.Spec PyProof.Rows L2
theorem S.pull {A : Asn} {L M : List Asn} {H : Hp} (s : S L H) (p : Pick A L M) : S (A :: M) H := S.pick p s
theorem S.pull2 {A B : Asn} {L M N : List Asn} {H : Hp} (s : S L H) (p : Pick A L M) (q : Pick B M N) : S (A :: B :: N) H := (S.pick p s).cong fun g => S.pick q
theorem S.pull3 {A B C : Asn} {L M N O : List Asn} {H : Hp} (s : S L H) (p : Pick A L M) (q : Pick B M N) (r : Pick C N O) : S (A :: B :: C :: O) H := (S.pick p s).cong fun g x => (S.pick q x).cong fun g => S.pick r
theorem S.ne {a b : Addr} {o o' : HO} {L M N : List Asn} {H : Hp} (s : S L H) (p : Pick (pts a o) L M) (q : Pick (pts b o') M N) (m : mu o = true) : a ≠ b := fun e => by
  obtain ⟨h, g, x, y, c, d, f⟩ := S.pick p s
  obtain ⟨h2, z, e2⟩ := S.of y q
  have := e2 _ _ z
  rw [← e, f _ _ x m] at this
  cases this
section
variable {σ : L2.St} {H : Hp} {te : TE} {tt : TT} {Q : VK} {K : PySem.W.Frag} {y : V} {j : Nat} {a D : Addr} {g : TG} {L M : List Asn}
/-- the item is put behind those that stand -/
theorem put_S {ys : List V} {i : Nat} (s : S M H) {M' : List Asn} (p : Pick (pts D (.lst (ys.take i))) M M') (sub : Sub L M') (l : ys.length < 16777216) (hy : ys[i]? = some y) : zPut1 D (fun H' => S (pts D (.lst (ys.take (i + 1))) :: L) H') y H := by
  have hi : i < ys.length := (List.getElem?_eq_some_iff.mp hy).1
  refine zput1_ (s.at_ p) (by rw [List.length_take]; omega) fun H5 h5 b => ?_
  have s2 := (S.pick p s).change rfl h5 b
  have e : ys.take (i + 1) = ys.take i ++ [y] := by rw [List.take_succ, hy]; rfl
  rw [e]
  exact s2.cong fun g => S.sub sub
theorem put1_S {acc acc' : List V} {N : Hp → Prop} {M' : List Asn} (s : S M H) (p : Rep (pts D (.lst acc)) (pts D (.lst acc')) M M') (e : acc ++ [y] = acc') (l : acc.length < 16777216) (k : ∀ H', S M' H' → N H') : zPut1 D N y H := by
  subst e
  obtain ⟨O, p1, p2⟩ := p.picks
  exact zput1_ (s.at_ p1) l fun H' h b => k H' (s.set p rfl h b)
/-- each item the item of ys -/
theorem lcLS {xs ys : List V} {vs : List Nat} (s : S L H) (hx : SqL K H a xs) (hn : ys.length = xs.length) (hz : ys.length < 16777216) (hq : ∀ H', S L H' → SqL K H' a xs)
    (hs : ∀ (D : Addr) (i : Nat) (x : V) H1, xs[i]? = some x → S (pts D (.lst (ys.take i)) :: L) H1 → g x (wipe σ vs) H1 fun σ2 H3 => wipe σ2 vs = wipe σ vs ∧ te σ2 H3 (zPut1 D (fun H' => S (pts D (.lst (ys.take (i + 1))) :: L) H')))
    (hd : ∀ D H1, S (pts D (.lst ys) :: L) H1 → Q (.ref D) H1) : zLc g tYes te vs σ Q (Itl K a) H := by
  refine lcW walk_list (fun D i H' => S (pts D (.lst (ys.take i)) :: L) H') (fun D H1 hD e h => s.new hD e h) (fun D i H' _ m => hq H' m.drop) ?_ ?_
  · rintro D i x H1 _ hD hi m ⟨rfl, hx⟩
    exact hs D i x _ hx m
  · intro D H1 hD m
    rw [← hn, List.take_length] at m
    exact hd D H1 m
theorem lcTS {l : List Nat} {ys : List V} {vs : List Nat} (s : S L H) (hn : ys.length = l.length) (hz : ys.length < 16777216) (hw : ∀ x, wipe (List.set (wipe σ vs) j (some x)) vs = wipe σ vs)
    (hs : ∀ (D : Addr) (i : Nat) (c : Nat) H1, l[i]? = some c → S (pts D (.lst (ys.take i)) :: L) H1 → te (List.set (wipe σ vs) j (some (T [c]))) H1 (zPut1 D (fun H' => S (pts D (.lst (ys.take (i + 1))) :: L) H')))
    (hd : ∀ D H1, S (pts D (.lst ys) :: L) H1 → Q (.ref D) H1) : zLc (gName j) tYes te vs σ Q (Its ⟨l.toArray⟩) H := by
  have w : Walk (Its (⟨l.toArray⟩ : Str)) l.length (fun _ => True) (fun i H v H' => H' = H ∧ ∃ c, l[i]? = some c ∧ v = T [c]) := by
    have := walk_str (z := (⟨l.toArray⟩ : Str))
    simpa using this
  refine lcW w (fun D i H' => S (pts D (.lst (ys.take i)) :: L) H') (fun D H1 hD e h => s.new hD e h) (fun D i H' _ m => trivial) ?_ ?_
  · rintro D i x H1 _ hD hi m ⟨rfl, c, hc, rfl⟩
    exact ⟨hw _, hs D i c _ hc m⟩
  · intro D H1 hD m
    rw [← hn, List.take_length] at m
    exact hd D H1 m
theorem lcRS {vs : List Nat} {lo : Int} {n : Nat} {ys : List V} (s : S L H) (hn : ys.length = n) (hz : ys.length < 16777216) (hw : ∀ x, wipe (List.set (wipe σ vs) j (some x)) vs = wipe σ vs)
    (hs : ∀ (D : Addr) (i : Nat) H1, i < n → S (pts D (.lst (ys.take i)) :: L) H1 → te (List.set (wipe σ vs) j (some (.int (lo + (i : Nat))))) H1 (zPut1 D (fun H' => S (pts D (.lst (ys.take (i + 1))) :: L) H')))
    (hd : ∀ D H1, S (pts D (.lst ys) :: L) H1 → Q (.ref D) H1) : zLc (gName j) tYes te vs σ Q (Itr lo n) H := by
  refine lcW walk_range (fun D i H' => S (pts D (.lst (ys.take i)) :: L) H') (fun D H1 hD e h => s.new hD e h) (fun D i H' _ m => trivial) ?_ ?_
  · rintro D i x H1 _ hD hi m ⟨rfl, rfl⟩
    exact ⟨hw _, hs D i _ hi m⟩
  · intro D H1 hD m
    rw [← hn, List.take_length] at m
    exact hd D H1 m
/-- by an invariant: over numbers, a text -/
theorem lcRi {vs : List Nat} {lo : Int} {n : Nat} (s : S L H) (Pv : Addr → Nat → Hp → Prop) (h0 : ∀ D H1, S (pts D (.lst []) :: L) H1 → Pv D 0 H1) (hw : ∀ x, wipe (List.set (wipe σ vs) j (some x)) vs = wipe σ vs)
    (hs : ∀ (D : Addr) (i : Nat) H1, i < n → Pv D i H1 → tt (List.set (wipe σ vs) j (some (.int (lo + (i : Nat))))) H1 (zPut te D (Pv D (i + 1)) (List.set (wipe σ vs) j (some (.int (lo + (i : Nat)))))))
    (hd : ∀ D H1, Pv D n H1 → Q (.ref D) H1) : zLc (gName j) tt te vs σ Q (Itr lo n) H := by
  refine lcW walk_range Pv (fun D H1 hD e h => h0 D H1 (s.new hD e h)) (fun D i H' _ m => trivial) ?_ (fun D H1 _ m => hd D H1 m)
  rintro D i x H1 _ hD hi m ⟨rfl, rfl⟩
  exact ⟨hw _, hs D i _ hi m⟩
theorem lcTi {l : List Nat} {vs : List Nat} (s : S L H) (Pv : Addr → Nat → Hp → Prop) (h0 : ∀ D H1, S (pts D (.lst []) :: L) H1 → Pv D 0 H1) (hw : ∀ x, wipe (List.set (wipe σ vs) j (some x)) vs = wipe σ vs)
    (hs : ∀ (D : Addr) (i : Nat) (c : Nat) H1, l[i]? = some c → Pv D i H1 → tt (List.set (wipe σ vs) j (some (T [c]))) H1 (zPut te D (Pv D (i + 1)) (List.set (wipe σ vs) j (some (T [c])))))
    (hd : ∀ D H1, Pv D l.length H1 → Q (.ref D) H1) : zLc (gName j) tt te vs σ Q (Its ⟨l.toArray⟩) H := by
  have w : Walk (Its (⟨l.toArray⟩ : Str)) l.length (fun _ => True) (fun i H v H' => H' = H ∧ ∃ c, l[i]? = some c ∧ v = T [c]) := by
    have := walk_str (z := (⟨l.toArray⟩ : Str))
    simpa using this
  refine lcW w Pv (fun D H1 hD e h => h0 D H1 (s.new hD e h)) (fun D i H' _ m => trivial) ?_ (fun D H1 _ m => hd D H1 m)
  rintro D i x H1 _ hD hi m ⟨rfl, c, hc, rfl⟩
  exact ⟨hw _, hs D i c _ hc m⟩
end
end Z
namespace Z
open PySem PySem.Spec PyProof.Rows L2
theorem S.apart {A B : Asn} {L M N : List Asn} {H : Hp} (s : S L H) (p : Pick A L M) (q : Pick B M N) : ∃ h g, A h ∧ B g ∧ Ex h H ∧ Ex g H ∧ Dis h g := by
  obtain ⟨h, g, x, y, c, d, f⟩ := S.pick p s
  obtain ⟨h2, z, e2⟩ := S.of y q
  exact ⟨h, h2, x, z, c, e2.trans d, f.sub e2⟩
end Z
namespace Z
open PySem PySem.Spec PyProof.Rows L2
section
variable {σ : L2.St} {H : Hp} {D : Ends} {tb : TS} {te tf : TE} {tu : TT} {Q : Bool → Hp → Prop} {R : VK} {q : Prop} [Decidable q]
theorem zor_kt (hq : q) (h : tu σ H Q) : zOr tu σ Q (!decide q) H := zor_n (fun n => absurd hq n) fun _ => h
theorem zor_kf (hq : ¬ q) (h : Q true H) : zOr tu σ Q (!decide q) H := zor_n (fun _ => h) fun n => absurd n hq
theorem zand_kt (hq : q) (h : Q false H) : zAnd tu σ Q (!decide q) H := zand_n (fun n => absurd hq n) fun _ => h
theorem zand_kf (hq : ¬ q) (h : tu σ H Q) : zAnd tu σ Q (!decide q) H := zand_n (fun _ => h) fun n => absurd n hq
theorem zor_dt (hq : q) (h : Q true H) : zOr tu σ Q (decide q) H := zor_d (fun _ => h) fun n => absurd hq n
theorem zor_df (hq : ¬ q) (h : tu σ H Q) : zOr tu σ Q (decide q) H := zor_d (fun n => absurd n hq) fun _ => h
theorem zand_dt (hq : q) (h : tu σ H Q) : zAnd tu σ Q (decide q) H := zand_d (fun _ => h) fun n => absurd hq n
theorem zand_df (hq : ¬ q) (h : Q false H) : zAnd tu σ Q (decide q) H := zand_d (fun n => absurd n hq) fun _ => h
end
end Z
namespace Z
open PySem PySem.Spec PyProof.Rows L2
section
variable {σ : L2.St} {H : Hp} {D : Addr} {N : Hp → Prop} {te : TE} {tb : TE} {Q : VK} {q : Prop} [Decidable q]
theorem zandv_dt (hq : q) (h : tb σ H Q) : zAndV tb σ Q (.bl (decide q)) H := zandv_d (fun _ => h) fun n => absurd hq n
theorem zandv_df (hq : ¬ q) (h : Q (.bl false) H) : zAndV tb σ Q (.bl (decide q)) H := zandv_d (fun n => absurd n hq) fun _ => h
theorem zorv_dt (hq : q) (h : Q (.bl true) H) : zOrV tb σ Q (.bl (decide q)) H := zorv_d (fun _ => h) fun n => absurd hq n
theorem zorv_df (hq : ¬ q) (h : tb σ H Q) : zOrV tb σ Q (.bl (decide q)) H := zorv_d (fun n => absurd n hq) fun _ => h
theorem zput_dt (hq : q) (h : te σ H (zPut1 D N)) : zPut te D N σ (decide q) H := zput_d (fun _ => h) fun n => absurd hq n
theorem zput_df (hq : ¬ q) (h : N H) : zPut te D N σ (decide q) H := zput_d (fun n => absurd n hq) fun _ => h
theorem zput_nt (hq : ¬ q) (h : te σ H (zPut1 D N)) : zPut te D N σ (!decide q) H := zput_n (fun _ => h) fun n => absurd n hq
theorem zput_nf (hq : q) (h : N H) : zPut te D N σ (!decide q) H := zput_n (fun n => absurd hq n) fun _ => h
end
end Z
namespace Z
open PySem PySem.Spec PyProof.Rows L2
section
variable {K : PySem.W.Frag} {H : Hp} {Q : VK} {l : List Nat} {i : Int}
theorem neII_r (h : Q (.bl false) H) : rNeZ K (.int i) (.int i) H Q := neI (by rw [decide_eq_true rfl]; exact h)
end
end Z
namespace Z
open PySem PySem.Spec PyProof.Rows L2
section
variable {σ : L2.St} {H : Hp} {te : TE} {Q : VK} {j : Nat} {L : List Asn}
/-- items made one behind the other -/
def chn (te : TE) (f : Nat → L2.St) (D : Addr) (Q : VK) : Nat → Nat → Hp → Prop
  | 0, _ => fun H => Q (.ref D) H
  | n + 1, i => fun H => te (f i) H (zPut1 D (chn te f D Q n (i + 1)))
theorem lcRn {vs : List Nat} {lo : Int} {n : Nat} (s : S L H) (hw : ∀ x, wipe (List.set (wipe σ vs) j (some x)) vs = wipe σ vs)
    (h : ∀ D H1, S (pts D (.lst []) :: L) H1 → chn te (fun i => List.set (wipe σ vs) j (some (.int (lo + (i : Nat))))) D Q n 0 H1) : zLc (gName j) tYes te vs σ Q (Itr lo n) H := by
  refine lcRi s (fun D i H' => chn te (fun i => List.set (wipe σ vs) j (some (.int (lo + (i : Nat))))) D Q (n - i) i H') h hw (fun D i H1 hi p => ?_) fun D H1 p => ?_
  · have e : n - i = n - (i + 1) + 1 := by omega
    rw [e] at p
    exact tyes_ (zput_t p)
  · rw [Nat.sub_self] at p
    exact p
theorem lcR2 {vs : List Nat} {lo : Int} (s : S L H) (hw : ∀ x, wipe (List.set (wipe σ vs) j (some x)) vs = wipe σ vs)
    (h : ∀ D H1, S (pts D (.lst []) :: L) H1 → te (List.set (wipe σ vs) j (some (.int (lo + (0 : Nat))))) H1 (zPut1 D fun H2 => te (List.set (wipe σ vs) j (some (.int (lo + (1 : Nat))))) H2 (zPut1 D fun H3 => Q (.ref D) H3))) : zLc (gName j) tYes te vs σ Q (Itr lo 2) H :=
  lcRn s hw h
theorem lcR3 {vs : List Nat} {lo : Int} (s : S L H) (hw : ∀ x, wipe (List.set (wipe σ vs) j (some x)) vs = wipe σ vs)
    (h : ∀ D H1, S (pts D (.lst []) :: L) H1 → te (List.set (wipe σ vs) j (some (.int (lo + (0 : Nat))))) H1 (zPut1 D fun H2 => te (List.set (wipe σ vs) j (some (.int (lo + (1 : Nat))))) H2 (zPut1 D fun H3 => te (List.set (wipe σ vs) j (some (.int (lo + (2 : Nat))))) H3 (zPut1 D fun H4 => Q (.ref D) H4)))) : zLc (gName j) tYes te vs σ Q (Itr lo 3) H :=
  lcRn s hw h
end
end Z
namespace Z
open PySem PySem.Spec PyProof.Rows L2
section
variable {α : Type} {x y z : α} {d : Int}
theorem at2_0 (h : d = 0) : atI [x, y] d = some x := by rw [h]; rfl
theorem at2_1 (h : d = 1) : atI [x, y] d = some y := by rw [h]; rfl
theorem at3_0 (h : d = 0) : atI [x, y, z] d = some x := by rw [h]; rfl
theorem at3_1 (h : d = 1) : atI [x, y, z] d = some y := by rw [h]; rfl
theorem at3_2 (h : d = 2) : atI [x, y, z] d = some z := by rw [h]; rfl
theorem ix_0 {n : Nat} (h : d = 0) : ixN (n + 1) d = some 0 := by
  rw [h]; unfold ixN; rw [if_pos (Int.le_refl 0), if_pos (by omega)]; rfl
theorem ix_1 {n : Nat} (h : d = 1) : ixN (n + 2) d = some 1 := by
  rw [h]; unfold ixN; rw [if_pos (by omega), if_pos (by omega)]; rfl
theorem ix_2 {n : Nat} (h : d = 2) : ixN (n + 3) d = some 2 := by
  rw [h]; unfold ixN; rw [if_pos (by omega), if_pos (by omega)]; rfl
end
section
variable {H : Hp} {a : Addr} {v : V} {L M : List Asn}
theorem setL_S {xs xs' : List V} {k : Int} {n : Nat} {Q : Hp → Prop} (s : S L H) (p : Rep (pts a (.lst xs)) (pts a (.lst xs')) L M) (e2 : ixN xs.length k = some n) (e : xs.set n v = xs') (h : ∀ H', S M H' → Q H') : rSetL (.ref a) (.int k) v H Q := by
  obtain ⟨O, p1, p2⟩ := p.picks
  refine setL_ (s.at_ p1) e2 fun H' q b => h H' ?_
  rw [e] at q
  exact s.set p rfl q b
end
end Z
/-! Z, part W: what kind of thing is asked -/
namespace Z
open PySem PySem.Spec PyProof.Rows L2
theorem gdE {t : L2.St → Hp → VK → Prop} {σ : L2.St} {H : Hp} {Q : VK} (h : t σ H Q) : t σ H Q := h
theorem gdS {t : Ends → L2.St → Hp → Prop} {D : Ends} {σ : L2.St} {H : Hp} (h : t D σ H) : t D σ H := h
theorem gdR {t : V → Hp → VK → Prop} {x : V} {H : Hp} {Q : VK} (h : t x H Q) : t x H Q := h
theorem gdC {t : List V → Hp → VK → Prop} {x : List V} {H : Hp} {Q : VK} (h : t x H Q) : t x H Q := h
theorem gdV {t : V → Hp → Prop} {x : V} {H : Hp} (h : t x H) : t x H := h
theorem gdB {t : Bool → Hp → Prop} {x : Bool} {H : Hp} (h : t x H) : t x H := h
theorem gdL {t : List V → Hp → Prop} {x : List V} {H : Hp} (h : t x H) : t x H := h
theorem gdI {t : L2.St → Hp → (It → Hp → Prop) → Prop} {σ : L2.St} {H : Hp} {Q : It → Hp → Prop} (h : t σ H Q) : t σ H Q := h
theorem gdG {t : L2.St → Hp → (L2.St → Hp → Prop) → Prop} {σ : L2.St} {H : Hp} {Q : L2.St → Hp → Prop} (h : t σ H Q) : t σ H Q := h
theorem gdT {t : L2.St → Hp → (Bool → Hp → Prop) → Prop} {σ : L2.St} {H : Hp} {Q : Bool → Hp → Prop} (h : t σ H Q) : t σ H Q := h
theorem gdP {t : List V → Hp → VK → XK → Prop} {x : List V} {H : Hp} {Q : VK} {E : XK} (h : t x H Q E) : t x H Q E := h
theorem gh_tSeq {a0 a1 a2 a3 a4} (h : @L2.tSeq a0 a1 a2 a3 a4) : @L2.tSeq a0 a1 a2 a3 a4 := h
theorem gh_rAddZ {a0 a1 a2 a3 a4} (h : @Z.rAddZ a0 a1 a2 a3 a4) : @Z.rAddZ a0 a1 a2 a3 a4 := h
theorem gh_rLenZ {a0 a1 a2 a3} (h : @Z.rLenZ a0 a1 a2 a3) : @Z.rLenZ a0 a1 a2 a3 := h
theorem gh_rIxZ {a0 a1 a2 a3 a4} (h : @Z.rIxZ a0 a1 a2 a3 a4) : @Z.rIxZ a0 a1 a2 a3 a4 := h
theorem gh_rMulZ {a0 a1 a2 a3} (h : @Z.rMulZ a0 a1 a2 a3) : @Z.rMulZ a0 a1 a2 a3 := h
theorem gh_rEqZ {a0 a1 a2 a3 a4} (h : @Z.rEqZ a0 a1 a2 a3 a4) : @Z.rEqZ a0 a1 a2 a3 a4 := h
theorem gh_rNeZ {a0 a1 a2 a3 a4} (h : @Z.rNeZ a0 a1 a2 a3 a4) : @Z.rNeZ a0 a1 a2 a3 a4 := h
theorem gh_zIf {a0 a1 a2 a3 a4 a5} (h : @Z.zIf a0 a1 a2 a3 a4 a5) : @Z.zIf a0 a1 a2 a3 a4 a5 := h
theorem gh_tJs {a0 a1 a2 a3 a4} (h : @L2.tJs a0 a1 a2 a3 a4) : @L2.tJs a0 a1 a2 a3 a4 := h
theorem gh_zOr {a0 a1 a2 a3 a4} (h : @Z.zOr a0 a1 a2 a3 a4) : @Z.zOr a0 a1 a2 a3 a4 := h
theorem gh_zAnd {a0 a1 a2 a3 a4} (h : @Z.zAnd a0 a1 a2 a3 a4) : @Z.zAnd a0 a1 a2 a3 a4 := h
theorem gh_zIfE {a0 a1 a2 a3 a4 a5} (h : @Z.zIfE a0 a1 a2 a3 a4 a5) : @Z.zIfE a0 a1 a2 a3 a4 a5 := h
theorem gh_rIsZ {a0 a1 a2 a3} (h : @Z.rIsZ a0 a1 a2 a3) : @Z.rIsZ a0 a1 a2 a3 := h
theorem gh_rIsN {a0 a1 a2 a3} (h : @L2.rIsN a0 a1 a2 a3) : @L2.rIsN a0 a1 a2 a3 := h
theorem gh_rNotN {a0 a1 a2 a3} (h : @L2.rNotN a0 a1 a2 a3) : @L2.rNotN a0 a1 a2 a3 := h
theorem gh_rIntZ {a0 a1 a2} (h : @Z.rIntZ a0 a1 a2) : @Z.rIntZ a0 a1 a2 := h
theorem gh_zPut {a0 a1 a2 a3 a4 a5} (h : @Z.zPut a0 a1 a2 a3 a4 a5) : @Z.zPut a0 a1 a2 a3 a4 a5 := h
theorem gh_zAndV {a0 a1 a2 a3 a4} (h : @Z.zAndV a0 a1 a2 a3 a4) : @Z.zAndV a0 a1 a2 a3 a4 := h
theorem gh_zOrV {a0 a1 a2 a3 a4} (h : @Z.zOrV a0 a1 a2 a3 a4) : @Z.zOrV a0 a1 a2 a3 a4 := h
end Z
/-! Z, part V: dicts: displays, a key's value -/
namespace Z
open PySem PySem.Spec PyProof.Rows L2
/-- a key as a value, back -/
def keyOf : V → Key
  | .int i => .inl i
  | .str x => .inr x
  | _ => .inl 0
section
variable {σ : L2.St} {H : Hp} {td ty tk tv : TE} {Q : VK} {L : List Asn} {a p : Addr} {trs : List (TE × TE)} {R : List (V × V) → Hp → Prop}
def zDGet (a : Addr) (Q : VK) : VK := fun y H2 => ∃ v, DGet H2 a y (some v) ∧ Q v H2
theorem dget_ (h : td σ H fun x H1 => ty σ H1 fun y H2 => ∃ a, x = V.ref a ∧ zDGet a Q y H2) : tDGet td ty σ H Q := by
  unfold tDGet
  have e : (fun x H1 => ty σ H1 fun y H2 => ∃ a, x = V.ref a ∧ zDGet a Q y H2) = (fun x H1 => ty σ H1 fun y H2 => ∃ a v, x = .ref a ∧ DGet H2 a y (some v) ∧ Q v H2) := by
    funext x H1
    congr 1
    funext y H2
    apply propext
    unfold zDGet
    constructor
    · rintro ⟨a, e, v, h⟩; exact ⟨a, v, e, h⟩
    · rintro ⟨a, v, e, h⟩; exact ⟨a, e, v, h⟩
  rw [e] at h
  exact h
theorem zdg_ {kvs : List (Key × V)} {y v : V} {k : Key} (e : H a = some (.dK kvs)) (ey : y = kV k) (hv : valV kvs k = some v) (h : Q v H) : ∃ b, V.ref a = .ref b ∧ zDGet b Q y H :=
  ⟨a, rfl, v, .inl ⟨kvs, k, .inl e, ey, hv.symm⟩, h⟩
theorem prs_ (h : tk σ H fun x H1 => tv σ H1 fun y H2 => tPairs trs σ H2 fun ps H3 => R ((x, y) :: ps) H3) : tPairs ((tk, tv) :: trs) σ H R := h
theorem prs0_ (h : R [] H) : tPairs [] σ H R := h
/-- the pairs of a display, put into it -/
def zDisp (p : Addr) (Q : VK) : List (V × V) → Hp → Prop := fun ps H2 => H2 p = some (.dK []) ∧ ∃ kvs : List (Key × V), ps = kvs.map (fun kv => (kV kv.1, kv.2)) ∧ kvs.length ≤ 15 ∧ Q (.ref p) (upd H2 p (.dK (mergeK [] kvs)))
theorem disp_ (s : S L H) (h : ∀ p H', S (pts p (.dK []) :: L) H' → tPairs trs σ H' (zDisp p Q)) : tDisp trs σ H Q := fun p hp => h p _ (s.new hp (Ex.new hp) upd_same)
theorem zdisp_ {ps : List (V × V)} {M : List Asn} {kvs : List (Key × V)} (s : S L H) (r : Rep (pts p (.dK [])) (pts p (.dK kvs)) L M) (e1 : ps = (ps.map fun q => (keyOf q.1, q.2)).map fun kv => (kV kv.1, kv.2)) (e2 : ps.length ≤ 15) (e3 : mergeK [] (ps.map fun q => (keyOf q.1, q.2)) = kvs)
    (h : ∀ H', S M H' → Q (.ref p) H') : zDisp p Q ps H := by
  obtain ⟨N, p1, p2⟩ := r.picks
  refine ⟨s.at_ p1, _, e1, by rw [List.length_map]; exact e2, ?_⟩
  rw [e3]
  exact h _ (s.set r rfl upd_same (But.upd))
end
section
variable {X : Cx} {o i : Expr} {pos : Pos} {td ty : TE}
theorem k_dget {K : PySem.W.Frag} (hu : X.A.units + 64 < cLine) (ho : PE X o td) (hi : PE X i ty) (hs : NoSl i) : PE X (.Subscript o i pos) (tDGet td ty) := pe_dget (by omega) ho hi hs
end
section
variable {H : Hp} {a : Addr} {K : PySem.W.Frag} {Q : VK} {b c : Bool}
theorem all0_ (e : H a = some (.lst [])) (h : Q (.bl true) H) : rAll K [.ref a] H Q := all_ (bs := []) e h
theorem all1_ (e : H a = some (.lst [.bl b])) (h : Q (.bl b) H) : rAll K [.ref a] H Q := all_ (bs := [b]) e (by rw [show ([b] : List Bool).all id = b by simp]; exact h)
theorem all2_ (e : H a = some (.lst [.bl b, .bl c])) (h : Q (.bl (b && c)) H) : rAll K [.ref a] H Q := all_ (bs := [b, c]) e (by rw [show ([b, c] : List Bool).all id = (b && c) by simp]; exact h)
theorem all2t_ (e : H a = some (.lst [.bl true, .bl true])) (h : Q (.bl true) H) : rAll K [.ref a] H Q := all2_ e h
end
section
variable {H : Hp} {a : Addr} {K : PySem.W.Frag} {Q : VK} {xs : List V}
theorem listRL_ (e : H a = some (.lst xs)) (h : ∀ p H', H p = none → Ex H H' → H' p = some (.lst xs) → Q (.ref p) H') : rListR K [.ref a] H Q := listR_ (listof_ e h)
theorem listRU_ (e : H a = some (.tup xs)) (h : ∀ p H', H p = none → Ex H H' → H' p = some (.lst xs) → Q (.ref p) H') : rListR K [.ref a] H Q := listR_ (listofU_ e h)
end
section
variable {σ : L2.St} {H : Hp} {D : Ends} {tb : TS} {K : PySem.W.Frag} {j : Nat} {a : Addr} {g : TG} {tt : TT} {te : TE} {Q : VK}
/-- over a tuple -/
theorem forU {xs : List V} (Pv : Nat → L2.St → Hp → Prop) (h0 : Pv 0 σ H) (hl : ∀ i σ H, i ≤ xs.length → Pv i σ H → H a = some (.tup xs))
    (hs : ∀ (i : Nat) (x : V) σ H, xs[i]? = some x → Pv i σ H → g x σ H fun σ2 H2 => tb { D with nx := Pv (i + 1), ct := Pv (i + 1), bk := D.nx } σ2 H2) (hd : ∀ σ H, Pv xs.length σ H → D.nx σ H) :
    zFor g tb D σ (Itt K a) H := by
  refine forZ walk_tup Pv h0 (fun i σ H h p => SqT.of (hl i σ H h p)) ?_ hd
  rintro i x σ H _ hi p ⟨rfl, hx⟩
  exact hs i x σ _ hx p
theorem lcUi {xs : List V} {vs : List Nat} (Pv : Addr → Nat → Hp → Prop) (h0 : ∀ D H1, H D = none → Ex H H1 → H1 D = some (.lst []) → Pv D 0 H1) (hl : ∀ D i H', Pv D i H' → H' a = some (.tup xs))
    (hs : ∀ D (i : Nat) x H1, H D = none → xs[i]? = some x → Pv D i H1 → g x (wipe σ vs) H1 fun σ2 H3 => wipe σ2 vs = wipe σ vs ∧ tt σ2 H3 (zPut te D (Pv D (i + 1)) σ2))
    (hd : ∀ D H1, H D = none → Pv D xs.length H1 → Q (.ref D) H1) : zLc g tt te vs σ Q (Itt K a) H := by
  refine lcW walk_tup Pv h0 (fun D i H' _ p => SqT.of (hl D i H' p)) ?_ hd
  rintro D i x H1 _ hD hi p ⟨rfl, hx⟩
  exact hs D i x _ hD hx p
end
section
variable {H : Hp} {a : Addr} {K : PySem.W.Frag} {Q : VK} {xs : List V} {x : V} {b : Bool}
theorem inL_ (e : H a = some (.lst xs)) (fx : flatV x = true) (fs : xs.all flatV = true) (h : Q (.bl (inV x xs)) H) : rInZ K x (.ref a) H Q := .inr ⟨a, xs, rfl, .inl (SqL.of e), fx, fs, h⟩
theorem inLt_ (e : H a = some (.lst xs)) (fx : flatV x = true) (fs : xs.all flatV = true) (hv : inV x xs = true) (h : Q (.bl true) H) : rInZ K x (.ref a) H Q := inL_ e fx fs (by rw [hv]; exact h)
theorem inLf_ (e : H a = some (.lst xs)) (fx : flatV x = true) (fs : xs.all flatV = true) (hv : inV x xs = false) (h : Q (.bl false) H) : rInZ K x (.ref a) H Q := inL_ e fx fs (by rw [hv]; exact h)
theorem inU_ (e : H a = some (.tup xs)) (fx : flatV x = true) (fs : xs.all flatV = true) (h : Q (.bl (inV x xs)) H) : rInZ K x (.ref a) H Q := .inr ⟨a, xs, rfl, .inr (SqT.of e), fx, fs, h⟩
theorem inUt_ (e : H a = some (.tup xs)) (fx : flatV x = true) (fs : xs.all flatV = true) (hv : inV x xs = true) (h : Q (.bl true) H) : rInZ K x (.ref a) H Q := inU_ e fx fs (by rw [hv]; exact h)
theorem inUf_ (e : H a = some (.tup xs)) (fx : flatV x = true) (fs : xs.all flatV = true) (hv : inV x xs = false) (h : Q (.bl false) H) : rInZ K x (.ref a) H Q := inU_ e fx fs (by rw [hv]; exact h)
theorem niL_ (e : H a = some (.lst xs)) (fx : flatV x = true) (fs : xs.all flatV = true) (h : Q (.bl (!inV x xs)) H) : rNiZ K x (.ref a) H Q := .inr ⟨a, xs, rfl, .inl (SqL.of e), fx, fs, h⟩
theorem niLt_ (e : H a = some (.lst xs)) (fx : flatV x = true) (fs : xs.all flatV = true) (hv : inV x xs = false) (h : Q (.bl true) H) : rNiZ K x (.ref a) H Q := niL_ e fx fs (by rw [hv]; exact h)
theorem niLf_ (e : H a = some (.lst xs)) (fx : flatV x = true) (fs : xs.all flatV = true) (hv : inV x xs = true) (h : Q (.bl false) H) : rNiZ K x (.ref a) H Q := niL_ e fx fs (by rw [hv]; exact h)
end
end Z
/-! Z, part U: the head by one run of the kernel, its facts by names -/
namespace Z
open PySem PySem.Spec PyProof.Rows L2
/-! ### what the top's names reach -/
def partsZ (g : Addr → Option Obj) (a : Addr) : List Addr := match g a with
  | some ⟨_, _, .func fd, _⟩ => He.refV fd.code ++ (He.refV fd.defaults ++ He.refV fd.kwdefaults)
  | some ⟨_, _, .cls cd, _⟩ => [cd.ns]
  | _ => []
def valsZ (g : Addr → Option Obj) (a : Addr) : List Addr := match g a with
  | some ⟨_, _, .dict es _, _⟩ => es.toList.flatMap fun e => He.refV e.val
  | _ => []
def frL {α β : Type} : List α → (List α → β) → β
  | [], k => k []
  | a :: r, k => frL r fun r' => k (a :: r')
theorem frL_eq {α β : Type} : ∀ (l : List α) (k : List α → β), frL l k = k l
  | [], _ => rfl
  | a :: r, k => by
    show frL r (fun r' => k (a :: r')) = _
    rw [frL_eq r]
def asZ {β : Type} (g : Addr → Option Obj) (k : List Addr → β) : β :=
  frL (valsZ g mainGlobals) fun l1 => frL (l1.flatMap (partsZ g)) fun l2 => frL (l2.flatMap (valsZ g)) fun l3 => frL (l3.flatMap (partsZ g)) fun l4 => frL (mainGlobals :: cStatics :: (l1 ++ (l2 ++ (l3 ++ l4)))) k
theorem asZ_eq {β : Type} (g : Addr → Option Obj) (k : List Addr → β) : ∃ as, asZ g k = k as := by
  unfold asZ
  rw [frL_eq, frL_eq, frL_eq, frL_eq, frL_eq]
  exact ⟨_, rfl⟩
abbrev AlZ : Type := Bool × List He.FnW × List (Option (List (Option (Str × Int))))
def obsZ (fb : PySem.W.Frag → Bool) (fs : List ((Str × Option Str) × He.FnW)) (ts : List He.Tab) (K : PySem.W.Frag) : AlZ := (fb K, fs.map fun d => He.fnW K d.1, ts.map fun t => He.dicW K (t.1 K))
def valZ (fs : List ((Str × Option Str) × He.FnW)) (ts : List He.Tab) (w : World) : AlZ := (true, fs.map fun d => d.2, ts.map fun t => some (He.keysIn w.params t.2))
def obsZG (fb : PySem.W.Frag → Bool) (fs : List ((Str × Option Str) × He.FnW)) (ts : List He.Tab) (g : Addr → Option Obj) : AlZ := asZ g fun as => frL (He.frG g as) fun K => obsZ fb fs ts K
def SaysZ (fb : PySem.W.Frag → Bool) (fs : List ((Str × Option Str) × He.FnW)) (ts : List He.Tab) (w : World) (K : PySem.W.Frag) : Prop := obsZ fb fs ts K = valZ fs ts w
def hookZ (fb : PySem.W.Frag → Bool) (fs : List ((Str × Option Str) × He.FnW)) (ts : List He.Tab) : PySem.W.Hook where
  α := AlZ
  obs := fun s => obsZG fb fs ts s.heap.get?
  val := fun w => valZ fs ts w
  says := fun w h => ∃ K : PySem.W.Frag, K.In h ∧ SaysZ fb fs ts w K
  of := fun w s e => by
    unfold obsZG at e
    obtain ⟨as, ea⟩ := asZ_eq s.heap.get? fun as => frL (He.frG s.heap.get? as) fun K => obsZ fb fs ts K
    rw [ea, frL_eq] at e
    exact ⟨_, He.frG_in, e⟩
  keeps := fun _ _ _ ⟨K, hK, c⟩ k => ⟨K, PySem.W.Frag.In.keeps hK k, c⟩
theorem obsZG_eq {fb : PySem.W.Frag → Bool} {fs : List ((Str × Option Str) × He.FnW)} {ts : List He.Tab} {g : Addr → Option Obj} {s : Shared} (h : ∀ a, g a = s.heap.get? a) : obsZG fb fs ts g = (hookZ fb fs ts).obs s := by
  have e : g = s.heap.get? := funext h
  rw [e] <;> rfl
section
variable {fb : PySem.W.Frag → Bool} {fs : List ((Str × Option Str) × He.FnW)} {ts : List He.Tab} {w : World} {K : PySem.W.Frag}
theorem SaysZ.fact (c : SaysZ fb fs ts w K) : fb K = true := congrArg (fun z : AlZ => z.1) c
theorem SaysZ.fn (c : SaysZ fb fs ts w K) (i : Nat) {d : (Str × Option Str) × He.FnW} (h : fs[i]? = some d := by rfl) : He.fnW K d.1 = d.2 := by
  have e : fs.map (fun d => He.fnW K d.1) = fs.map fun d => d.2 := congrArg (fun z : AlZ => z.2.1) c
  have e2 : (fs.map fun d => He.fnW K d.1)[i]? = (fs.map fun d => d.2)[i]? := by rw [e]
  rw [List.getElem?_map, List.getElem?_map, h] at e2
  exact Option.some.inj e2
theorem SaysZ.tab (c : SaysZ fb fs ts w K) (i : Nat) {t : He.Tab} (h : ts[i]? = some t := by rfl) : ∃ es n, KDict K w (t.1 K) es n := by
  have e : ts.map (fun t => He.dicW K (t.1 K)) = ts.map fun t => some (He.keysIn w.params t.2) := congrArg (fun z : AlZ => z.2.2) c
  have e2 : (ts.map fun t => He.dicW K (t.1 K))[i]? = (ts.map fun t => some (He.keysIn w.params t.2))[i]? := by rw [e]
  rw [List.getElem?_map, List.getElem?_map, h] at e2
  exact He.dicW_ok (Option.some.inj e2)
end
/-! ### a def's object -/
def fnB (K : PySem.W.Frag) (p : Str × Option Str) (pr : Value → Value → Value → Bool) : Bool := match K.lookup (He.fAd K p) with
  | some ⟨_, _, .func fd, _⟩ => pr fd.defaults fd.kwdefaults fd.code
  | _ => false
theorem fn_at {K : PySem.W.Frag} {p : Str × Option Str} {x q : Str} {ar : Arguments} {bo : List Stmt} {sc : Scope} {pr : Value → Value → Value → Bool} (e : He.fnW K p = some (x, q, ar, .stmts bo, sc, mainGlobals, [], builtinsNs)) (c : fnB K p pr = true) :
    ∃ oc od dV kV dc pm an cd ct sl, K.lookup (He.fAd K p) = some ⟨oc, od, .func (PySem.W.fnOf x q ar bo sc dV kV dc pm an cd ct), sl⟩ ∧ pr dV kV cd = true := by
  unfold fnB at c
  unfold He.fnW at e
  cases hq : K.lookup (He.fAd K p) with
  | none => rw [hq] at c; cases c
  | some o =>
    obtain ⟨oc, od, dt, osl⟩ := o
    rw [hq] at c e
    cases dt with
    | func fd =>
      obtain ⟨n1, n2, n3, n4, n5, n6, n7, n8, n9, n10, n11, n12, n13, n14, n15⟩ := fd
      have e2 : (some (n1, n2, n3, n4, n5, n6, n7, n15) : He.FnW) = some (x, q, ar, .stmts bo, sc, mainGlobals, [], builtinsNs) := e
      simp only [Option.some.injEq, Prod.mk.injEq] at e2
      obtain ⟨h1, h2, h3, h4, h5, h6, h7, h8⟩ := e2
      subst h1 h2 h3 h4 h5 h6 h7 h8
      exact ⟨oc, od, n8, n9, n10, n11, n12, n13, n14, osl, rfl, c⟩
    | _ => cases c
def noneB : Value → Bool
  | .none => true
  | _ => false
theorem none_ok {v : Value} (h : noneB v = true) : v = .none := by cases v <;> first | rfl | cases h
theorem dfl_at {K : PySem.W.Frag} {dV : Value} {v : V} {vs : List V} (h : He.dflB K dV (v :: vs) = true) : ∃ T oc od us n sl, dV = .ref T ∧ K.lookup T = some ⟨oc, od, .seq (us : List Value).toArray n, sl⟩ ∧ Vals (v :: vs) us := by
  cases dV with
  | ref T =>
    have h1 : (match K.lookup T with
      | some ⟨_, _, .seq its _, _⟩ => He.relAll (v :: vs) its.toList
      | _ => false) = true := h
    cases q : K.lookup T with
    | none => rw [q] at h1; cases h1
    | some o =>
      obtain ⟨oc, od, dt, osl⟩ := o
      rw [q] at h1
      cases dt with
      | seq its n => exact ⟨T, oc, od, its.toList, n, osl, rfl, by rw [q] <;> simp, He.relAll_ok h1⟩
      | _ => cases h1
  | _ => cases h
theorem kwd_at {K : PySem.W.Frag} {kV : Value} {q : Str × V} {qs : List (Str × V)} (h : He.kwdB K kV (q :: qs) = true) : ∃ D, kV = .ref D ∧ ∀ z ∈ q :: qs, ∃ u, PySem.W.nsIn K D z.1 = some (some u) ∧ RelV z.2 u := by
  cases kV with
  | ref D =>
    refine ⟨D, rfl, fun z hz => ?_⟩
    have h1 : ((q :: qs).all fun q => (match PySem.W.nsIn K D q.1 with
      | some (some u) => He.relB q.2 u
      | _ => false)) = true := h
    have h2 := List.all_eq_true.mp h1 z hz
    cases e : PySem.W.nsIn K D z.1 with
    | none => rw [e] at h2; cases h2
    | some r =>
      rw [e] at h2
      cases r with
      | none => cases h2
      | some u => exact ⟨u, rfl, He.relB_ok h2⟩
  | _ => cases h
theorem vals_c {v : V} {vs : List V} {us : List Value} (h : Vals (v :: vs) us) : ∃ u r, us = u :: r ∧ RelV v u ∧ Vals vs r := by
  cases h with
  | cons a b => exact ⟨_, _, rfl, a, b⟩
theorem vals_n {us : List Value} (h : Vals [] us) : us = [] := by cases h; rfl
theorem all_get {l : List Bool} (h : l.all id = true) (i : Nat) {b : Bool} (e : l[i]? = some b := by rfl) : b = true := List.all_eq_true.mp h b (List.mem_of_getElem? e)
def clsB (o : Option PySem.W.CFound) (n : String) : Bool := match o with
  | some (.val (.builtin m)) => decide (m = n)
  | _ => false
theorem cls_ok {o : Option PySem.W.CFound} {n : String} (h : clsB o n = true) : o = some (.val (.builtin n)) := by
  unfold clsB at h
  split at h
  · rw [of_decide_eq_true h]
  · cases h
/-! ### a class of errors -/
def excZ (K : PySem.W.Frag) (C : Addr) (tl : List Value) (newId : String) : Bool := match K.lookup C with
  | some ⟨.type t, _, .cls cd, sl⟩ => decide (t = "type") && (match cd.mro, sl.toList with
    | .ref C' :: bm, [_, _, _, _, some (.builtin n), _] => decide (C' = C) && (decide (n = newId) && (!cd.hasDel && (cd.hasDict && decide (bm = tl))))
    | _, _ => false)
  | _ => false
theorem exc_at {K : PySem.W.Frag} {C : Addr} {tl : List Value} {newId : String} (h : excZ K C tl newId = true) :
    ∃ nm q N bs sn sub ab col dd k0 k1 k2 k3 k5, K.lookup C = some (excClassObj nm q C N bs tl true sn sub ab col dd k0 k1 k2 k3 k5 newId) := by
  unfold excZ at h
  cases hq : K.lookup C with
  | none => rw [hq] at h; cases h
  | some o =>
    obtain ⟨oc, od, dt, osl⟩ := o
    rw [hq] at h
    cases oc with
    | type t =>
      cases dt with
      | cls cd =>
        obtain ⟨h1, h2⟩ := He.ba h
        split at h2
        · rename_i C' bm s0 s1 s2 s3 n s5 em es
          obtain ⟨h3, h2⟩ := He.ba h2
          obtain ⟨h4, h2⟩ := He.ba h2
          obtain ⟨h5, h2⟩ := He.ba h2
          obtain ⟨h6, h7⟩ := He.ba h2
          have e1 : t = "type" := of_decide_eq_true h1
          have e3 : C' = C := of_decide_eq_true h3
          have e4 : n = newId := of_decide_eq_true h4
          have e7 : bm = tl := of_decide_eq_true h7
          obtain ⟨a1, a2, a3, a4, a5, a6, a7, a8, a9, a10, a11⟩ := cd
          have es2 : osl = #[s0, s1, s2, s3, some (.builtin n), s5] := by rw [← Array.toArray_toList (xs := osl), es]
          have h5' : a11 = false := by simpa using h5
          have em2 : a3 = .ref C' :: bm := em
          have h6' : a6 = true := h6
          subst e1 e3 e4 e7 es2 h5' em2 h6'
          exact ⟨_, _, _, _, _, _, _, _, _, _, _, _, _, _, rfl⟩
        · cases h2
      | _ => cases h
    | _ => cases dt <;> cases h
/-! ### the law's walk -/
theorem walk_h {l : PySem.W.OpenLaw} {n k : Nat} {q : Program} {loose : List Str} {XP : (Str → Option Value) → Heap → Prop} {YP : World → Heap → Prop} {d : DefRec} {sp : PySem.W.Frag → Sp} {x : Str}
    (hn : l.most = some n) (hn2 : n ≤ sizeLine) (hdf : d.params.defaults = []) (room : Room k callerA)
    (F : ∀ (w : World) (mg : Str → Option Value) (fa : Addr) (h : Heap), YP w h → h.Ns mainGlobals mg → mg d.name = some (.ref fa) →
      ∃ K : PySem.W.Frag, K.In h ∧ ∃ fd : FuncData, (∀ (s : Shared) (u : Value), BindsTo s fd ⟨[u], []⟩ [(x, u)]) ∧
        ∀ base : Heap, K.In base → base.Ns mainGlobals mg → FnG l.prog w K mg base k fa fd [x] (sp K))
    (want : ∀ (K : PySem.W.Frag) (H : Hp) (a : Addr) (ns : List Int), ns.length ≤ n → SqL K H a (ns.map V.int) → sp K [.ref a] H (fun v _ => v = .bl true) fun _ _ _ => False) :
    PySem.W.WalkO q loose XP YP l.row.toRowW d [] (fun f vs => PySem.call f vs) := by
  refine Att.attach_call hn hdf ?_
  intro w s₀ s₁ mg mb fa o pm cd doc a vs ns G Y ho hd hcd hmg obj hints short noGens
  obtain ⟨K, inK, fd, binds, FF⟩ := F w mg fa _ Y G.T.g hmg
  exact law_g inK G.T.g G.T.b G.T.builtins G.T.nolimit noGens obj hints (Nat.le_trans short hn2) room FF binds fun H hS => want _ H a ns short hS
end Z
/-! the urn; the mathematics of codes -/
namespace Z
open PySem L2
/-- an urn of which at most n draws were made -/
def Urn (H : Hp) (u : Addr) (n : Nat) : Prop := ∃ g c k : Int, H u = some (.lst [.int g, .int c, .int k]) ∧ 0 ≤ g ∧ 0 ≤ c ∧ c < 1152921504606846976 ∧ 0 ≤ k ∧ k ≤ n
theorem Urn.ex {H H' : Hp} {u : Addr} {n : Nat} (e : Ex H H') (h : Urn H u n) : Urn H' u n := by
  obtain ⟨g, c, k, hu, r⟩ := h
  exact ⟨g, c, k, e _ _ hu, r⟩
theorem Urn.but {H H' : Hp} {u l : Addr} {n : Nat} (e : But l H H') (ne : u ≠ l) (h : Urn H u n) : Urn H' u n := by
  obtain ⟨g, c, k, hu, r⟩ := h
  exact ⟨g, c, k, e _ _ ne hu, r⟩
theorem Urn.mono {H : Hp} {u : Addr} {n m : Nat} (h : Urn H u n) (l : n ≤ m) : Urn H u m := by
  obtain ⟨g, c, k, hu, h1, h2, h3, h4, h5⟩ := h
  exact ⟨g, c, k, hu, h1, h2, h3, h4, by omega⟩
theorem Urn.ne_new {H : Hp} {u p : Addr} {n : Nat} (hp : H p = none) (h : Urn H u n) : p ≠ u := by
  obtain ⟨g, c, k, hu, _⟩ := h
  exact Ne.symm (ne_of_none hu hp)
/-- bits as signs -/
def Bit (c : Nat) : Prop := c = 48 ∨ c = 49
def Bits (l : List Nat) : Prop := ∀ c ∈ l, Bit c
theorem bits_of {l : List Nat} (h : (l.all fun c => c == 48 || c == 49) = true) : Bits l := fun c hc => by
  have := List.all_eq_true.mp h c hc
  simpa [Bit] using this
theorem Bits.nil : Bits [] := fun _ h => nomatch h
theorem Bits.app {a b : List Nat} (h1 : Bits a) (h2 : Bits b) : Bits (a ++ b) := fun c h => (List.mem_append.mp h).elim (h1 c) (h2 c)
theorem Bits.one {c : Nat} (h : Bit c) : Bits [c] := fun d hd => by
  rw [List.mem_singleton.mp hd]; exact h
theorem Bits.rep {a : List Nat} (h : Bits a) (n : Nat) : Bits (rep a n) := by
  intro c hc
  unfold Z.rep at hc
  obtain ⟨l, hl, hcl⟩ := List.mem_flatten.mp hc
  rw [(List.mem_replicate.mp hl).2] at hcl
  exact h c hcl
theorem Bits.take {a : List Nat} (h : Bits a) (n : Nat) : Bits (a.take n) := fun c hc => h c (List.mem_of_mem_take hc)
theorem Bits.drop {a : List Nat} (h : Bits a) (n : Nat) : Bits (a.drop n) := fun c hc => h c (List.mem_of_mem_drop hc)
theorem Bits.cut {a : List Nat} (h : Bits a) (lo hi : Option Int) : Bits (cut a lo hi) := (h.drop _).take _
theorem Bits.lt {a : List Nat} (h : Bits a) : ∀ c ∈ a, c < 1000 := fun c hc => by
  rcases h c hc with z | z <;> omega
/-- where a slice's end lies -/
theorem cut_to (l : List Nat) (n : Int) (h : 0 ≤ n) : cut l none (some n) = l.take n.toNat := by
  unfold Z.cut
  have e : n = ((n.toNat : Nat) : Int) := by omega
  rw [HT.sIx_none, e, HT.sIx_nat, List.drop_zero, Nat.sub_zero]
  simp only [Int.toNat_natCast]
  rw [List.take_eq_take_iff]
  omega
theorem cut_from (l : List Nat) (n : Int) (h : 0 ≤ n) : cut l (some n) none = l.drop n.toNat := by
  unfold Z.cut
  have e : n = ((n.toNat : Nat) : Int) := by omega
  rw [HT.sIx_none, e, HT.sIx_nat]
  simp only [Int.toNat_natCast]
  by_cases g : n.toNat ≤ l.length
  · rw [Nat.min_eq_left g, List.take_of_length_le (by rw [List.length_drop]; omega)]
  · rw [Nat.min_eq_right (by omega), List.drop_eq_nil_of_le (Nat.le_refl _), List.drop_eq_nil_of_le (by omega)]
    simp
theorem cutV_to (l : List V) (n : Int) (h : 0 ≤ n) : cutV l none (some n) = l.take n.toNat := by
  unfold cutV
  have e : n = ((n.toNat : Nat) : Int) := by omega
  rw [HT.sIx_none, e, HT.sIx_nat, List.drop_zero, Nat.sub_zero]
  simp only [Int.toNat_natCast]
  rw [List.take_eq_take_iff]
  omega
theorem joinT_nil : ∀ ys : List (List Nat), joinT [] ys = ys.flatten
  | [] => rfl
  | [x] => by simp [joinT]
  | x :: y :: r => by
    show x ++ [] ++ joinT [] (y :: r) = _
    rw [joinT_nil (y :: r)]
    simp
end Z
/-! ### codes -/
namespace My
open PySem L2 Z
/-- a number's binary figures -/
def figs (n : Nat) : List Nat := if n = 0 then [] else figs (n / 2) ++ [48 + n % 2]
theorem figs_zero : figs 0 = [] := by unfold figs; simp
theorem figs_step {n : Nat} (h : 0 < n) : figs n = figs (n / 2) ++ [48 + n % 2] := by
  conv => lhs; unfold figs
  rw [if_neg (by omega)]
theorem figs_len : ∀ {k n : Nat}, n < 2 ^ k → (figs n).length ≤ k
  | 0, n, h => by
    have : n = 0 := by omega
    subst this
    rw [figs_zero]; simp
  | k + 1, n, h => by
    by_cases z : n = 0
    · subst z; rw [figs_zero]; simp
    · rw [figs_step (by omega), List.length_append]
      have := figs_len (k := k) (n := n / 2) (by omega)
      simp; omega
theorem figs_pos {n : Nat} (h : 0 < n) : 0 < (figs n).length := by
  rw [figs_step h]; simp
theorem figs_bits : ∀ {k n : Nat}, n < k → Bits (figs n)
  | 0, n, h => absurd h (Nat.not_lt_zero _)
  | k + 1, n, h => by
    by_cases z : n = 0
    · subst z; rw [figs_zero]; exact Bits.nil
    · rw [figs_step (by omega)]
      exact (figs_bits (k := k) (n := n / 2) (by omega)).app (Bits.one (by unfold Bit; omega))
/-- a number, written so that it ends by itself -/
def ncode (n : Nat) : List Nat := rep [48] ((figs n).length - 1) ++ figs n
theorem ncode_len {k n : Nat} (h : n < 2 ^ k) : (ncode n).length ≤ 2 * k := by
  unfold ncode
  have := figs_len h
  rw [List.length_append, rep_len]
  simp; omega
theorem ncode_bits (n : Nat) : Bits (ncode n) := (Bits.rep (Bits.one (.inl rfl)) _).app (figs_bits (Nat.lt_succ_self n))
/-- the last number is one more -/
def bump (a : List Nat) : List Nat := a.set (a.length - 1) (a.getD (a.length - 1) 0 + 1)
def rs (s : List Nat × List Nat) (c : Nat) : List Nat × List Nat := if [c] = s.2 then (bump s.1, [c]) else (s.1 ++ [1], [c])
/-- how many bits each run has, and the last sign -/
def rsAll (l : List Nat) : List Nat × List Nat := l.foldl rs ([], [])
def runs (l : List Nat) : List Nat := (rsAll l).1
theorem rsAll_snoc (l : List Nat) (c : Nat) : rsAll (l ++ [c]) = rs (rsAll l) c := by
  unfold rsAll; rw [List.foldl_append]; rfl
theorem rsAll_take {l : List Nat} {i c : Nat} (h : l[i]? = some c) : rsAll (l.take (i + 1)) = rs (rsAll (l.take i)) c := by
  rw [List.take_succ, h]
  exact rsAll_snoc _ _
theorem rs_two (s : List Nat × List Nat) (c : Nat) : (rs s c).2 = [c] := by
  unfold rs; split <;> rfl
theorem bump_len (a : List Nat) : (bump a).length = a.length := by unfold bump; rw [List.length_set]
theorem rsAll_last : ∀ (l : List Nat), (rsAll l).2 = l.drop (l.length - 1) := by
  intro l
  rcases List.eq_nil_or_concat l with rfl | ⟨a, c, rfl⟩
  · rfl
  · rw [List.concat_eq_append, rsAll_snoc, rs_two]; simp
theorem rsAll_len (l : List Nat) : ∀ (i : Nat), i ≤ l.length → (rsAll (l.take i)).1.length ≤ i ∧ (0 < i → 0 < (rsAll (l.take i)).1.length)
  | 0, _ => by simp [rsAll]
  | i + 1, h => by
    have ih := rsAll_len l i (by omega)
    have hc : l[i]? = some l[i] := List.getElem?_eq_getElem (by omega)
    rw [rsAll_take hc]
    unfold rs
    split
    · rename_i e
      have hi : 0 < i := by
        rcases Nat.eq_zero_or_pos i with z | z
        · subst z; simp [rsAll] at e
        · exact z
      simp only [bump_len]
      exact ⟨by omega, fun _ => ih.2 hi⟩
    · simp only [List.length_append, List.length_singleton]
      omega
theorem rsAll_le (l : List Nat) : ∀ (i : Nat), i ≤ l.length → (rsAll (l.take i)).1.sum = i ∧ ∀ n ∈ (rsAll (l.take i)).1, 1 ≤ n
  | 0, _ => by simp [rsAll]
  | i + 1, h => by
    have ih := rsAll_le l i (by omega)
    have hl := rsAll_len l i (by omega)
    have hc : l[i]? = some l[i] := List.getElem?_eq_getElem (by omega)
    rw [rsAll_take hc]
    unfold rs
    split
    · rename_i e
      have hi : 0 < i := by
        rcases Nat.eq_zero_or_pos i with z | z
        · subst z; simp [rsAll] at e
        · exact z
      have hp := hl.2 hi
      generalize (rsAll (l.take i)).1 = a at *
      obtain ⟨b, d, rfl⟩ : ∃ b d, a = b ++ [d] := by
        rcases List.eq_nil_or_concat a with rfl | ⟨b, d, rfl⟩
        · simp at hp
        · exact ⟨b, d, by rw [List.concat_eq_append]⟩
      have eb : bump (b ++ [d]) = b ++ [d + 1] := by
        unfold bump
        simp
      simp only [eb]
      constructor
      · have := ih.1
        simp at this ⊢
        omega
      · intro n hn
        rcases List.mem_append.mp hn with z | z
        · exact ih.2 n (List.mem_append_left _ z)
        · rw [List.mem_singleton.mp z]; omega
    · constructor
      · simp; exact ih.1
      · intro n hn
        rcases List.mem_append.mp hn with z | z
        · exact ih.2 n z
        · rw [List.mem_singleton.mp z]; exact Nat.le_refl _
theorem runs_sum (l : List Nat) : (runs l).sum = l.length := by
  have := (rsAll_le l l.length (Nat.le_refl _)).1
  rw [List.take_length] at this
  exact this
theorem runs_pos (l : List Nat) : ∀ n ∈ runs l, 1 ≤ n := by
  have := (rsAll_le l l.length (Nat.le_refl _)).2
  rw [List.take_length] at this
  exact this
theorem mem_le_sum : ∀ {l : List Nat} {n : Nat}, n ∈ l → n ≤ l.sum
  | a :: r, n, h => by
    rw [List.sum_cons]
    rcases List.mem_cons.mp h with z | z
    · omega
    · have := mem_le_sum z; omega
theorem len_le_sum : ∀ {l : List Nat}, (∀ n ∈ l, 1 ≤ n) → l.length ≤ l.sum
  | [], _ => by simp
  | a :: r, h => by
    have h1 := h a List.mem_cons_self
    have h2 := len_le_sum fun n hn => h n (List.mem_cons_of_mem _ hn)
    rw [List.sum_cons, List.length_cons]
    omega
theorem runs_le (l : List Nat) : ∀ n ∈ runs l, n ≤ l.length := fun n h => runs_sum l ▸ mem_le_sum h
theorem runs_len (l : List Nat) : (runs l).length ≤ l.length := runs_sum l ▸ len_le_sum (runs_pos l)
/-- the code by runs -/
def rcode (l : List Nat) : List Nat := 114 :: l.getD 0 48 :: ((runs l).map ncode).flatten
theorem flat_len {f : Nat → List Nat} {k : Nat} : ∀ {l : List Nat}, (∀ n ∈ l, (f n).length ≤ k) → ((l.map f).flatten).length ≤ l.length * k ∧ (((l.map f).map (·.length)).sum = ((l.map f).flatten).length)
  | [], _ => by simp
  | a :: r, h => by
    have h1 := h a List.mem_cons_self
    have h2 := flat_len fun n hn => h n (List.mem_cons_of_mem _ hn)
    simp only [List.map_cons, List.flatten_cons, List.length_append, List.length_cons, List.sum_cons, Nat.succ_mul]
    omega
theorem rcode_len {l : List Nat} (h : l.length ≤ 1000) : (rcode l).length ≤ 2 + 20 * l.length := by
  unfold rcode
  have hz : ∀ n ∈ runs l, (ncode n).length ≤ 20 := fun n hn => ncode_len (k := 10) (by have := runs_le l n hn; omega)
  have hf := (flat_len hz).1
  have := runs_len l
  have h2 : (runs l).length * 20 ≤ l.length * 20 := Nat.mul_le_mul_right _ this
  simp only [List.length_cons]
  omega
theorem rcode_lt {l : List Nat} (h : Bits l) : ∀ c ∈ rcode l, c < 1000 := by
  intro c hc
  unfold rcode at hc
  rcases List.mem_cons.mp hc with z | z
  · omega
  rcases List.mem_cons.mp z with z | z
  · rw [z, List.getD_eq_getElem?_getD]
    cases e : l[0]? with
    | none => simp
    | some d => exact h.lt d (List.mem_of_getElem? e)
  · obtain ⟨y, hy, hcy⟩ := List.mem_flatten.mp z
    obtain ⟨n, _, rfl⟩ := List.mem_map.mp hy
    exact (ncode_bits n).lt c hcy
end My
/-! heads of blocks -/
namespace My
open PySem L2 Z
/-- two a one, less one a sign -/
def dep (l : List Nat) : Int := 2 * (l.count 49 : Nat) - (l.length : Nat)
def deps (l : List Nat) : List Int := (List.range l.length).map fun i => dep (l.take (i + 1))
theorem deps_len (l : List Nat) : (deps l).length = l.length := by unfold deps; simp
theorem deps_at {l : List Nat} {i : Nat} (h : i < l.length) : (deps l)[i]? = some (dep (l.take (i + 1))) := by
  unfold deps
  rw [List.getElem?_map, List.getElem?_range h]
  rfl
theorem deps_take {l : List Nat} {i : Nat} (h : i < l.length) : (deps l).take (i + 1) = (deps l).take i ++ [dep (l.take (i + 1))] := by
  rw [List.take_succ, deps_at h]; rfl
theorem dep_take {l : List Nat} {i c : Nat} (h : l[i]? = some c) : dep (l.take (i + 1)) = dep (l.take i) + (if c = 49 then 1 else -1) := by
  have hi : i < l.length := (List.getElem?_eq_some_iff.mp h).1
  rw [List.take_succ, h]
  unfold dep
  simp only [Option.toList_some, List.count_append, List.length_append, List.length_singleton, List.count_singleton]
  by_cases e : c = 49
  · rw [if_pos e, e]; simp; omega
  · rw [if_neg e]
    have : (c == 49) = false := by simpa using e
    rw [this]; simp; omega
theorem dep_app (a b : List Nat) : dep (a ++ b) = dep a + dep b := by
  unfold dep
  rw [List.count_append, List.length_append]
  omega
theorem mem_deps {l : List Nat} {m : Int} : m ∈ deps l ↔ ∃ i, i < l.length ∧ m = dep (l.take (i + 1)) := by
  unfold deps
  rw [List.mem_map]
  constructor
  · rintro ⟨i, hi, rfl⟩
    exact ⟨i, List.mem_range.mp hi, rfl⟩
  · rintro ⟨i, hi, rfl⟩
    exact ⟨i, List.mem_range.mpr hi, rfl⟩
theorem mem_deps_app {a b : List Nat} {m : Int} : m ∈ deps (a ++ b) ↔ m ∈ deps a ∨ ∃ k ∈ deps b, m = dep a + k := by
  constructor
  · intro h
    obtain ⟨i, hi, rfl⟩ := mem_deps.mp h
    rw [List.length_append] at hi
    by_cases c : i < a.length
    · exact .inl (mem_deps.mpr ⟨i, c, by rw [List.take_append_of_le_length (by omega)]⟩)
    · refine .inr ⟨dep (b.take (i - a.length + 1)), mem_deps.mpr ⟨i - a.length, by omega, rfl⟩, ?_⟩
      rw [← dep_app, List.take_append, List.take_of_length_le (by omega)]
      have : i + 1 - a.length = i - a.length + 1 := by omega
      rw [this]
  · rintro (h | ⟨k, h, rfl⟩)
    · obtain ⟨i, hi, rfl⟩ := mem_deps.mp h
      exact mem_deps.mpr ⟨i, by rw [List.length_append]; omega, by rw [List.take_append_of_le_length (by omega)]⟩
    · obtain ⟨i, hi, rfl⟩ := mem_deps.mp h
      refine mem_deps.mpr ⟨a.length + i, by rw [List.length_append]; omega, ?_⟩
      have e2 : a.length + i + 1 - a.length = i + 1 := by omega
      have ea : a.take (a.length + i + 1) = a := List.take_of_length_le (by omega)
      rw [List.take_append, ea, e2, dep_app]
structure Least (m : Int) (l : List Nat) : Prop where
  mem : m ∈ deps l
  le : ∀ y ∈ deps l, m ≤ y
theorem Least.eq {m k : Int} {l : List Nat} (h : Least m l) (g : Least k l) : m = k := by
  have h1 := h.le _ g.mem
  have h2 := g.le _ h.mem
  omega
theorem Least.app {m k n : Int} {a b : List Nat} (h : Least m a) (g : Least k b) (f : Least n (a ++ b)) : n = if dep a + k < m then dep a + k else m := by
  have h1 := f.le _ (mem_deps_app.mpr (.inl h.mem))
  have h2 := f.le _ (mem_deps_app.mpr (.inr ⟨k, g.mem, rfl⟩))
  rcases mem_deps_app.mp f.mem with z | ⟨j, hj, rfl⟩
  · have := h.le _ z
    split <;> omega
  · have := g.le _ hj
    split <;> omega
theorem Least.bd {m : Int} {l : List Nat} (h : Least m l) : -(l.length : Int) ≤ m ∧ m ≤ l.length := by
  obtain ⟨i, hi, rfl⟩ := mem_deps.mp h.mem
  unfold dep
  have h1 : (l.take (i + 1)).count 49 ≤ (l.take (i + 1)).length := List.count_le_length
  rw [List.length_take] at h1 ⊢
  omega
/-- each bit the other one -/
def flip (c : Nat) : Nat := 97 - c
theorem Bits.flip {l : List Nat} (h : Bits l) : Bits (l.map flip) := by
  intro c hc
  obtain ⟨d, hd, rfl⟩ := List.mem_map.mp hc
  rcases h d hd with rfl | rfl
  · exact .inr rfl
  · exact .inl rfl
theorem count_flip : ∀ {l : List Nat}, Bits l → (l.map flip).count 49 + l.count 49 = l.length
  | [], _ => rfl
  | c :: r, h => by
    have ih := count_flip (l := r) fun d hd => h d (List.mem_cons_of_mem _ hd)
    rw [List.map_cons, List.count_cons, List.count_cons, List.length_cons]
    rcases h c List.mem_cons_self with rfl | rfl
    · simp [flip]; omega
    · simp [flip]; omega
theorem Bits.rev {l : List Nat} (h : Bits l) : Bits l.reverse := fun c hc => h c (List.mem_reverse.mp hc)
theorem flat_one {f : Nat → Nat} : ∀ l : List Nat, (l.map fun c => [f c]).flatten = l.map f
  | [] => rfl
  | c :: r => by rw [List.map_cons, List.flatten_cons, flat_one r]; rfl
/-- a block's head as data -/
def headD (l : List Nat) (m : Int) : PyData := .tuple [.int (l.length : Nat), .int (l.count 49 : Nat), .int m]
theorem headD_rp {l : List Nat} {m : Int} (h : Least m l) (hl : l.length ≤ 1000) : Rp (headD l m) 85 2 := by
  have h1 := h.bd
  have h2 : l.count 49 ≤ l.length := List.count_le_length
  exact .tup (RpAll.mem (n := 25) (k := 1) (.cons (.int (by omega) (by omega)) (Nat.le_refl _) (Nat.le_refl _) (.cons (.int (by omega) (by omega)) (Nat.le_refl _) (Nat.le_refl _) (.cons (.int (by omega) (by omega)) (Nat.le_refl _) (Nat.le_refl _) .nil))))
end My
/-! codes read -/
namespace My
open PySem L2 Z
theorem figs_bound : ∀ {k n : Nat}, n < k → 0 < n → 2 ^ ((figs n).length - 1) ≤ n ∧ n < 2 ^ (figs n).length
  | 0, n, h, _ => absurd h (Nat.not_lt_zero _)
  | k + 1, n, h, h0 => by
    by_cases z : n / 2 = 0
    · have e : n = 1 := by omega
      subst e
      rw [figs_step (by omega), show (1 : Nat) / 2 = 0 from rfl, figs_zero]
      simp
    · have ih := figs_bound (k := k) (n := n / 2) (by omega) (by omega)
      rw [figs_step h0, List.length_append]
      simp only [List.length_singleton, Nat.add_sub_cancel]
      have hp := figs_pos (n := n / 2) (by omega)
      have e1 : 2 ^ (figs (n / 2)).length = 2 * 2 ^ ((figs (n / 2)).length - 1) := by
        rw [← Nat.pow_succ']; congr 1; omega
      have e2 : 2 ^ ((figs (n / 2)).length + 1) = 2 * 2 ^ (figs (n / 2)).length := Nat.pow_succ'
      omega
theorem figs_at : ∀ {b n : Nat} (k : Nat), n < b → k < (figs n).length → (figs n)[k]? = some (48 + n / 2 ^ ((figs n).length - 1 - k) % 2)
  | 0, n, _, h, _ => absurd h (Nat.not_lt_zero _)
  | b + 1, n, k, h, hk => by
    by_cases z : n = 0
    · subst z; rw [figs_zero] at hk; simp at hk
    · rw [figs_step (by omega)] at hk ⊢
      rw [List.length_append] at hk ⊢
      simp only [List.length_singleton, Nat.add_sub_cancel] at hk ⊢
      by_cases c : k < (figs (n / 2)).length
      · rw [List.getElem?_append_left c, figs_at (b := b) k (by omega) c]
        have e : (figs (n / 2)).length - k = ((figs (n / 2)).length - 1 - k) + 1 := by omega
        rw [e, Nat.pow_succ', Nat.div_div_eq_div_mul]
      · have e : k = (figs (n / 2)).length := by omega
        subst e
        rw [List.getElem?_append_right (Nat.le_refl _)]
        simp
theorem cut_one {t : List Nat} {i c : Nat} (h : t[i]? = some c) : cut t (some (i : Int)) (some ((i : Int) + 1)) = [c] := by
  have hi : i < t.length := (List.getElem?_eq_some_iff.mp h).1
  unfold Z.cut
  have e : ((i : Int) + 1) = ((i + 1 : Nat) : Int) := by omega
  rw [e, HT.sIx_nat, HT.sIx_nat, Nat.min_eq_left (by omega), Nat.min_eq_left (by omega)]
  have e2 : i + 1 - i = 1 := by omega
  rw [e2, List.drop_eq_getElem_cons hi]
  have : t[i] = c := (List.getElem?_eq_some_iff.mp h).2
  rw [this]
  rfl
theorem rep_one (c n : Nat) : rep [c] n = List.replicate n c := by
  unfold rep
  induction n with
  | zero => rfl
  | succ n ih => rw [List.replicate_succ, List.flatten_cons, ih]; rfl
theorem ncode_len2 (n : Nat) : (ncode n).length = (figs n).length - 1 + (figs n).length := by
  unfold ncode
  rw [List.length_append, rep_one, List.length_replicate]
/-- the noughts ahead -/
theorem nc_nought {a r : List Nat} {n j : Nat} (h : j < (figs n).length - 1) : (a ++ (ncode n ++ r))[a.length + j]? = some 48 := by
  rw [List.getElem?_append_right (by omega), Nat.add_sub_cancel_left, List.getElem?_append_left (by rw [ncode_len2]; omega)]
  unfold ncode
  rw [rep_one, List.getElem?_append_left (by rw [List.length_replicate]; exact h), List.getElem?_replicate, if_pos h]
/-- the figures -/
theorem nc_fig {a r : List Nat} {n k : Nat} (h : k < (figs n).length) : (a ++ (ncode n ++ r))[a.length + ((figs n).length - 1 + k)]? = some (48 + n / 2 ^ ((figs n).length - 1 - k) % 2) := by
  rw [List.getElem?_append_right (by omega), Nat.add_sub_cancel_left, List.getElem?_append_left (by rw [ncode_len2]; omega)]
  unfold ncode
  rw [rep_one, List.getElem?_append_right (by rw [List.length_replicate]; omega), List.length_replicate, Nat.add_sub_cancel_left]
  exact figs_at k (Nat.lt_succ_self n) h
end My
/-! runs told out -/
namespace My
open PySem L2 Z
/-- runs told out, the sign turning each time -/
def tell (b : Nat) : List Nat → List Nat
  | [] => []
  | n :: r => List.replicate n b ++ tell (97 - b) r
/-- the sign after j turns -/
def turn (b : Nat) : Nat → Nat
  | 0 => b
  | j + 1 => turn (97 - b) j
theorem turn_succ : ∀ (b j : Nat), turn b (j + 1) = 97 - turn b j
  | b, 0 => rfl
  | b, j + 1 => turn_succ (97 - b) j
theorem turn_bit : ∀ {b : Nat} (j : Nat), Bit b → Bit (turn b j)
  | b, 0, h => h
  | b, j + 1, h => turn_bit (b := 97 - b) j (by unfold Bit at *; omega)
theorem tell_app : ∀ (b : Nat) (xs : List Nat) (k : Nat), tell b (xs ++ [k]) = tell b xs ++ List.replicate k (turn b xs.length)
  | b, [], k => by simp [tell, turn]
  | b, x :: xs, k => by
    show List.replicate x b ++ tell (97 - b) (xs ++ [k]) = (List.replicate x b ++ tell (97 - b) xs) ++ List.replicate k (turn (97 - b) xs.length)
    rw [tell_app (97 - b) xs k, List.append_assoc]
theorem tell_len : ∀ (b : Nat) (xs : List Nat), (tell b xs).length = xs.sum
  | b, [] => rfl
  | b, x :: xs => by
    show (List.replicate x b ++ tell (97 - b) xs).length = _
    rw [List.length_append, List.length_replicate, tell_len, List.sum_cons]
theorem tell_runs_aux (l : List Nat) (hb : Bits l) : ∀ i, i < l.length → tell (l.getD 0 48) (rsAll (l.take (i + 1))).1 = l.take (i + 1) ∧ 0 < (rsAll (l.take (i + 1))).1.length ∧
    (rsAll (l.take (i + 1))).2 = [turn (l.getD 0 48) ((rsAll (l.take (i + 1))).1.length - 1)]
  | 0, h => by
    have hc : l[0]? = some (l.getD 0 48) := by rw [List.getD_eq_getElem?_getD, List.getElem?_eq_getElem h]; rfl
    rw [rsAll_take hc, List.take_succ, hc]
    have e : rsAll (l.take 0) = ([], []) := rfl
    rw [e]
    unfold rs
    rw [if_neg (by simp)]
    simp [tell, turn]
  | i + 1, h => by
    obtain ⟨t1, t2, t3⟩ := tell_runs_aux l hb i (by omega)
    have hc : l[i + 1]? = some l[i + 1] := List.getElem?_eq_getElem h
    have hbc := hb _ (List.mem_of_getElem? hc)
    have hb0 : Bit (l.getD 0 48) := by
      rw [List.getD_eq_getElem?_getD, List.getElem?_eq_getElem (by omega : 0 < l.length)]
      exact hb _ (List.getElem_mem _)
    rw [rsAll_take hc]
    have et : l.take (i + 1 + 1) = l.take (i + 1) ++ [l[i + 1]] := by rw [List.take_succ, hc]; rfl
    rw [et]
    generalize l[i + 1] = c at *
    generalize rsAll (l.take (i + 1)) = s at *
    generalize l.getD 0 48 = b at *
    obtain ⟨xs, k, ex⟩ : ∃ xs k, s.1 = xs ++ [k] := by
      rcases List.eq_nil_or_concat s.1 with z | ⟨xs, k, z⟩
      · rw [z] at t2; simp at t2
      · exact ⟨xs, k, by rw [z, List.concat_eq_append]⟩
    have hb1 := turn_bit xs.length hb0
    unfold rs
    rw [ex] at t1 t3 ⊢
    simp only [List.length_append, List.length_singleton, Nat.add_sub_cancel] at t3
    split
    · rename_i e
      have eb : bump (xs ++ [k]) = xs ++ [k + 1] := by unfold bump; simp
      rw [t3] at e
      simp only [eb]
      refine ⟨?_, by simp, ?_⟩
      · rw [tell_app] at t1 ⊢
        rw [List.replicate_succ', ← List.append_assoc, t1, e]
      · simp only [List.length_append, List.length_singleton, Nat.add_sub_cancel]; exact e
    · rename_i e
      rw [t3] at e
      have e2 : c = 97 - turn b xs.length := by
        have : ¬ c = turn b xs.length := fun z => e (by rw [z])
        unfold Bit at hbc hb1
        omega
      refine ⟨?_, by simp, ?_⟩
      · rw [tell_app, t1]
        simp only [List.length_append, List.length_singleton, turn_succ, ← e2]
        rfl
      · simp only [List.length_append, List.length_singleton, Nat.add_sub_cancel, turn_succ, ← e2]
theorem tell_runs {l : List Nat} (hb : Bits l) (h : 0 < l.length) : tell (l.getD 0 48) (runs l) = l := by
  have := (tell_runs_aux l hb (l.length - 1) (by omega)).1
  have e : l.length - 1 + 1 = l.length := by omega
  rw [e, List.take_length] at this
  exact this
end My
namespace My
open PySem PySem.Spec PyProof.Rows L2 Z
/-! ### the shorter code -/
def scode (l : List Nat) : List Nat := if (112 :: l).length ≤ (rcode l).length then 112 :: l else rcode l
theorem scode_or (l : List Nat) : scode l = 112 :: l ∨ scode l = rcode l := by
  unfold scode
  split
  · exact .inl rfl
  · exact .inr rfl
theorem scode_len (l : List Nat) : (scode l).length ≤ l.length + 1 := by
  unfold scode
  split
  · simp
  · rename_i h
    simp only [List.length_cons] at h
    omega
theorem scode_lt {l : List Nat} (h : Bits l) : ∀ c ∈ scode l, c < 1000 := by
  rcases scode_or l with e | e
  · rw [e]
    intro c hc
    rcases List.mem_cons.mp hc with rfl | z
    · decide
    · exact Bits.lt h c z
  · rw [e]
    exact rcode_lt h
end My
namespace My
open PySem PySem.Spec PyProof.Rows L2 Z
/-! ### rows -/
abbrev rowF (sz : Nat) (a b : Addr) (op : Int) (c : Addr) : List (Str × V) := [("size", .int (sz : Nat)), ("head_rows", .ref a), ("code_rows", .ref b), ("opens", .int op), ("held_signs", .ref c)]
abbrev hdV (l : List Nat) (m : Int) : List V := [.int (l.length : Nat), .int (l.count 49 : Nat), .int m]
structure Heads (H : Hp) (ts : List Addr) (bks : List (List Nat)) : Prop where
  len : ts.length = bks.length
  at_ : ∀ (i : Nat) (t : Addr) (l : List Nat), ts[i]? = some t → bks[i]? = some l → ∃ m, H t = some (.tup (hdV l m)) ∧ Least m l
theorem Heads.keep {H H' : Hp} {ts : List Addr} {bks : List (List Nat)} (h : Heads H ts bks) (k : ∀ t xs, H t = some (.tup xs) → H' t = some (.tup xs)) : Heads H' ts bks :=
  ⟨h.len, fun i t l ht hl => by
    obtain ⟨m, e, lm⟩ := h.at_ i t l ht hl
    exact ⟨m, k _ _ e, lm⟩⟩
theorem Heads.get {H : Hp} {ts : List Addr} {bks : List (List Nat)} (h : Heads H ts bks) {i : Nat} {l : List Nat} (hl : bks[i]? = some l) : ∃ t m, ts[i]? = some t ∧ H t = some (.tup (hdV l m)) ∧ Least m l := by
  have hi : i < ts.length := by rw [h.len]; exact (List.getElem?_eq_some_iff.mp hl).1
  obtain ⟨m, e, lm⟩ := h.at_ i _ l (List.getElem?_eq_getElem hi) hl
  exact ⟨_, m, List.getElem?_eq_getElem hi, e, lm⟩
theorem Heads.nil (H : Hp) : Heads H [] [] := ⟨rfl, fun i t l h => nomatch h⟩
theorem Heads.app {H : Hp} {ts us : List Addr} {bs cs : List (List Nat)} (h : Heads H ts bs) (g : Heads H us cs) : Heads H (ts ++ us) (bs ++ cs) := by
  refine ⟨by rw [List.length_append, List.length_append, h.len, g.len], fun i t l ht hl => ?_⟩
  by_cases hi : i < ts.length
  · rw [List.getElem?_append_left hi] at ht
    rw [List.getElem?_append_left (by rw [← h.len]; exact hi)] at hl
    exact h.at_ i t l ht hl
  · rw [List.getElem?_append_right (by omega)] at ht
    rw [List.getElem?_append_right (by rw [← h.len]; omega), ← h.len] at hl
    exact g.at_ _ t l ht hl
theorem Heads.take {H : Hp} {ts : List Addr} {bs : List (List Nat)} (h : Heads H ts bs) (n : Nat) : Heads H (ts.take n) (bs.take n) := by
  refine ⟨by rw [List.length_take, List.length_take, h.len], fun i t l ht hl => ?_⟩
  rw [List.getElem?_take] at ht hl
  split at ht
  · rename_i q
    rw [if_pos q] at hl
    exact h.at_ i t l ht hl
  · cases ht
theorem Heads.drop {H : Hp} {ts : List Addr} {bs : List (List Nat)} (h : Heads H ts bs) (n : Nat) : Heads H (ts.drop n) (bs.drop n) := by
  refine ⟨by rw [List.length_drop, List.length_drop, h.len], fun i t l ht hl => ?_⟩
  rw [List.getElem?_drop] at ht hl
  exact h.at_ _ t l ht hl
/-- what a row's list of heads, codes and signs hold: bks its blocks, hn how many signs are held -/
structure RowAt (C : Addr) (H : Hp) (r : Addr) (fp : List Addr) (sz : Nat) (bks : List (List Nat)) (op : Int) (hn : Nat) : Prop where
  ex : ∃ (dx a b c : Addr) (ts : List Addr), fp = [r, a, b, c] ∧ H r = some (.ins C dx (rowF sz a b op c)) ∧ H a = some (.lst (ts.map V.ref)) ∧ Heads H ts bks ∧ H b = some (.lst (bks.map fun l => T (scode l))) ∧
    H c = some (.lst (List.replicate hn (V.int 0))) ∧ a ≠ b ∧ a ≠ c ∧ b ≠ c
  ok : ∀ l ∈ bks, Bits l ∧ 0 < l.length ∧ l.length ≤ sz
  s4 : 4 ≤ sz
  s64 : sz ≤ 64
  few : bks.flatten.length ≤ 1000
theorem RowAt.own {C : Addr} {H : Hp} {r : Addr} {fp : List Addr} {sz : Nat} {bks : List (List Nat)} {op : Int} {hn : Nat} (R : RowAt C H r fp sz bks op hn) : Own H fp := by
  obtain ⟨dx, a, b, c, ts, rfl, e1, e2, _, e3, e4, _⟩ := R.ex
  intro x hx
  simp only [List.mem_cons, List.not_mem_nil, or_false] at hx
  rcases hx with rfl | rfl | rfl | rfl
  · exact .inr ⟨_, _, _, e1⟩
  · exact .inl ⟨_, e2⟩
  · exact .inl ⟨_, e3⟩
  · exact .inl ⟨_, e4⟩
theorem RowAt.bs {C : Addr} {H H' : Hp} {r : Addr} {fp gp : List Addr} {sz : Nat} {bks : List (List Nat)} {op : Int} {hn : Nat} (R : RowAt C H r fp sz bks op hn) (k : Bs gp H H') (d : Dj fp gp) (w : Own H gp) : RowAt C H' r fp sz bks op hn := by
  obtain ⟨dx, a, b, c, ts, rfl, e1, e2, hd, e3, e4, n1, n2, n3⟩ := R.ex
  refine ⟨⟨dx, a, b, c, ts, rfl, k _ _ (d _ (by simp)) e1, k _ _ (d _ (by simp)) e2, hd.keep fun t xs e => k _ _ (w.tup e) e, k _ _ (d _ (by simp)) e3, k _ _ (d _ (by simp)) e4, n1, n2, n3⟩, R.ok, R.s4, R.s64, R.few⟩
theorem RowAt.exx {C : Addr} {H H' : Hp} {r : Addr} {fp : List Addr} {sz : Nat} {bks : List (List Nat)} {op : Int} {hn : Nat} (R : RowAt C H r fp sz bks op hn) (k : Ex H H') : RowAt C H' r fp sz bks op hn :=
  R.bs (gp := []) k.bs (fun _ _ h => nomatch h) (fun _ h => nomatch h)
theorem RowAt.mem {C : Addr} {H : Hp} {r : Addr} {fp : List Addr} {sz : Nat} {bks : List (List Nat)} {op : Int} {hn : Nat} (R : RowAt C H r fp sz bks op hn) : r ∈ fp := by
  obtain ⟨dx, a, b, c, ts, rfl, _⟩ := R.ex
  exact List.mem_cons_self
theorem len_flat_pos : ∀ {bks : List (List Nat)}, (∀ l ∈ bks, 0 < l.length) → bks.length ≤ bks.flatten.length
  | [], _ => by simp
  | l :: r, h => by
    have h1 := h l List.mem_cons_self
    have h2 := len_flat_pos (bks := r) fun x hx => h x (List.mem_cons_of_mem _ hx)
    rw [List.flatten_cons, List.length_append, List.length_cons]
    omega
theorem RowAt.few2 {C : Addr} {H : Hp} {r : Addr} {fp : List Addr} {sz : Nat} {bks : List (List Nat)} {op : Int} {hn : Nat} (R : RowAt C H r fp sz bks op hn) : bks.length ≤ 1000 :=
  Nat.le_trans (len_flat_pos fun l h => (R.ok l h).2.1) R.few
/-! ### bits in parts -/
def parts (sz : Nat) (l : List Nat) : List (List Nat) := (List.range ((l.length + sz - 1) / sz)).map fun i => (l.drop (i * sz)).take sz
theorem parts_take (sz : Nat) (l : List Nat) (k : Nat) : ((List.range k).map fun i => (l.drop (i * sz)).take sz).flatten = l.take (k * sz) := by
  induction k with
  | zero => simp
  | succ k ih => rw [List.range_succ, List.map_append, List.flatten_append, ih, Nat.succ_mul, List.take_add]; simp
theorem parts_flat {sz : Nat} (h : 0 < sz) (l : List Nat) : (parts sz l).flatten = l := by
  unfold parts
  rw [parts_take]
  refine List.take_of_length_le ?_
  have := Nat.div_add_mod (l.length + sz - 1) sz
  have := Nat.mod_lt (l.length + sz - 1) h
  rw [Nat.mul_comm]
  omega
theorem parts_at {sz : Nat} (h : 0 < sz) (l : List Nat) {i : Nat} (hi : i < (l.length + sz - 1) / sz) : (parts sz l)[i]? = some ((l.drop (i * sz)).take sz) ∧ i * sz < l.length := by
  constructor
  · unfold parts
    rw [List.getElem?_map, List.getElem?_range hi]
    rfl
  · have h1 : (i + 1) * sz ≤ l.length + sz - 1 := (Nat.le_div_iff_mul_le h).mp hi
    rw [Nat.succ_mul] at h1
    omega
theorem parts_mem {sz : Nat} (h : 0 < sz) {l x : List Nat} (hx : x ∈ parts sz l) : 0 < x.length ∧ x.length ≤ sz ∧ ∀ c ∈ x, c ∈ l := by
  unfold parts at hx
  obtain ⟨i, hi, rfl⟩ := List.mem_map.mp hx
  have := (parts_at h l (List.mem_range.mp hi)).2
  refine ⟨by rw [List.length_take, List.length_drop]; omega, by rw [List.length_take]; omega, fun c hc => List.mem_of_mem_drop (List.mem_of_mem_take hc)⟩
theorem parts_len (sz : Nat) (l : List Nat) : (parts sz l).length = (l.length + sz - 1) / sz := by unfold parts; simp
/-! ### the block at a place -/
structure Found (bks : List (List Nat)) (at_ n ahead : Nat) : Prop where
  le : n ≤ bks.length
  eq : ahead = (bks.take n).flatten.length
  lo : ahead ≤ at_
  hi : ∀ l, bks[n]? = some l → at_ < ahead + l.length
theorem take_flat_succ {bks : List (List Nat)} {n : Nat} {l : List Nat} (h : bks[n]? = some l) : (bks.take (n + 1)).flatten = (bks.take n).flatten ++ l := by
  rw [List.take_succ, h, List.flatten_append]
  simp
theorem flat_split {bks : List (List Nat)} {n : Nat} {l : List Nat} (h : bks[n]? = some l) : bks.flatten = (bks.take n).flatten ++ (l ++ (bks.drop (n + 1)).flatten) := by
  conv => lhs; rw [← List.take_append_drop n bks]
  have hn : n < bks.length := (List.getElem?_eq_some_iff.mp h).1
  have e := (List.getElem?_eq_some_iff.mp h).2
  rw [List.drop_eq_getElem_cons hn, e, List.flatten_append, List.flatten_cons]
theorem Found.end_ {bks : List (List Nat)} {a n h : Nat} (f : Found bks a n h) : n = bks.length → h = bks.flatten.length := fun e => by rw [f.eq, e, List.take_length]
end My
namespace My
open PySem PySem.Spec PyProof.Rows L2 Z
theorem cut_mid (l : List Nat) (a b : Int) (h0 : 0 ≤ a) (h1 : a ≤ b) : cut l (some a) (some b) = (l.drop a.toNat).take (b - a).toNat := by
  unfold cut HT.sIx
  simp only [if_neg (show ¬ a < 0 by omega), if_neg (show ¬ b < 0 by omega)]
  by_cases g : a.toNat ≤ l.length
  · rw [Nat.min_eq_left g, List.take_eq_take_iff, List.length_drop]
    omega
  · rw [Nat.min_eq_right (show l.length ≤ a.toNat by omega), List.drop_eq_nil_of_le (Nat.le_refl _), List.drop_eq_nil_of_le (show l.length ≤ a.toNat by omega)]
    simp
theorem atI_at {α : Type} {l : List α} {i : Nat} {x : α} (h : l[i]? = some x) : atI l (i : Int) = some x := atI_nat h
end My
namespace My
open PySem PySem.Spec PyProof.Rows L2 Z
theorem RowAt.opened {C : Addr} {H H' : Hp} {r : Addr} {fp : List Addr} {sz : Nat} {bks : List (List Nat)} {op op' : Int} {hn : Nat} {dx a b c : Addr} (R : RowAt C H r fp sz bks op hn) (e : H r = some (.ins C dx (rowF sz a b op c))) (q : H' r = some (.ins C dx (rowF sz a b op' c))) (k : But r H H') :
    RowAt C H' r fp sz bks op' hn := by
  obtain ⟨dx', a', b', c', ts, rfl, e1, e2, hd, e3, e4, n1, n2, n3⟩ := R.ex
  rw [e] at e1
  cases e1
  have nr : ∀ {x o}, H x = some (HO.lst o) → x ≠ r := fun {x o} h z => by
    rw [z, e] at h
    cases h
  refine ⟨⟨dx, a, b, c, ts, rfl, q, k _ _ (nr e2) e2, hd.keep fun t xs h => k _ _ (fun z => ?_) h, k _ _ (nr e3) e3, k _ _ (nr e4) e4, n1, n2, n3⟩, R.ok, R.s4, R.s64, R.few⟩
  rw [z, e] at h
  cases h
end My
namespace My
open PySem PySem.Spec PyProof.Rows L2 Z
/-- how many bits stand in the blocks that end at a place or ahead of it -/
def aheadB : List (List Nat) → Nat → Nat
  | [], _ => 0
  | l :: r, i => if l.length ≤ i then l.length + aheadB r (i - l.length) else 0
theorem found_ahead : ∀ {bks : List (List Nat)} {i n h : Nat}, Found bks i n h → h = aheadB bks i
  | [], i, n, h, f => by
    have := f.eq
    simp at this
    rw [this]; rfl
  | l :: r, i, n, h, f => by
    unfold aheadB
    cases n with
    | zero =>
      have h0 := f.eq
      rw [List.take_zero] at h0
      simp at h0
      have := f.hi l rfl
      rw [if_neg (by omega), h0]
    | succ n =>
      have h0 := f.eq
      rw [List.take_succ_cons, List.flatten_cons, List.length_append] at h0
      have h1 := f.lo
      have h2 := f.le
      rw [List.length_cons] at h2
      rw [if_pos (by omega), ← found_ahead (bks := r) (i := i - l.length) (n := n) (h := h - l.length) ⟨by omega, by omega, by omega, fun x hx => ?_⟩]
      · omega
      · have := f.hi x hx
        omega
def opA (bks : List (List Nat)) (i : Nat) : Int := if aheadB bks i < i then 1 else 0
theorem Found.opA {bks : List (List Nat)} {i n h : Nat} (f : Found bks i n h) : opA bks i = if h < i then 1 else 0 := by
  unfold My.opA
  rw [← found_ahead f]
/-- the block found bears the place -/
theorem Found.in_ {bks : List (List Nat)} {i n h : Nat} (f : Found bks i n h) (hi : i < bks.flatten.length) : ∃ l, bks[n]? = some l ∧ bks.flatten[i]? = l[i - h]? ∧ i - h < l.length ∧ h ≤ i := by
  have hn : n < bks.length := by
    rcases Nat.lt_or_ge n bks.length with z | z
    · exact z
    · have e : n = bks.length := Nat.le_antisymm f.le z
      have := f.end_ e
      have := f.lo
      omega
  have hl : bks[n]? = some bks[n] := List.getElem?_eq_getElem hn
  have hh := f.hi _ hl
  have lo := f.lo
  refine ⟨_, hl, ?_, by omega, lo⟩
  rw [flat_split hl, List.getElem?_append_right (by rw [← f.eq]; exact lo), ← f.eq, List.getElem?_append_left (by omega)]
theorem Found.take {bks : List (List Nat)} {i n h : Nat} (f : Found bks i n h) {l : List Nat} (hl : bks[n]? = some l) : bks.flatten.take i = (bks.take n).flatten ++ l.take (i - h) := by
  have hh := f.hi _ hl
  have lo := f.lo
  rw [flat_split hl, List.take_append, ← f.eq, List.take_of_length_le (by rw [← f.eq]; exact lo), List.take_append_of_le_length (by omega)]
theorem Found.take_eq {bks : List (List Nat)} {i n h : Nat} (f : Found bks i n h) (e : i ≤ h) : bks.flatten.take i = (bks.take n).flatten := by
  have lo := f.lo
  have e2 : i = h := by omega
  conv => lhs; rw [← List.take_append_drop n bks, List.flatten_append]
  rw [List.take_append_of_le_length (by rw [← f.eq]; omega), List.take_of_length_le (by rw [← f.eq]; omega)]
end My
namespace My
open PySem PySem.Spec PyProof.Rows L2 Z
theorem zmethR_ {C : Addr} {H : Hp} {r : Addr} {fp : List Addr} {sz : Nat} {bks : List (List Nat)} {op : Int} {hn : Nat} {m : Str} {t : TA} {q : V → List V → Hp → Prop} {σ : L2.St} (R : RowAt C H r fp sz bks op hn) (no : ∀ sz a b op c, (rowF sz a b op c).lookup m = none)
    (h : t σ H fun vs H2 => q (.ref r) vs H2) : zMeth C m t q σ (.ref r) H := by
  obtain ⟨dx, a, b, c, ts, rfl, e1, _⟩ := R.ex
  exact zmeth_ e1 (no _ _ _ _ _) h
theorem ownR_ {C : Addr} {H : Hp} {r : Addr} {fp : List Addr} {sz : Nat} {bks : List (List Nat)} {op : Int} {hn : Nat} {sp : Sp} {gV : List V → List V → List V} {P : VK → VK} {Q : VK} (R : RowAt C H r fp sz bks op hn) (h : zSp sp (gV [.ref r] []) H (P Q) (fun _ _ _ => False)) : rOwn1 C sp gV P [.ref r] H Q := by
  obtain ⟨dx, a, b, c, ts, rfl, e1, _⟩ := R.ex
  exact own1_ e1 h
end My
namespace My
theorem sum_counts : ∀ bks : List (List Nat), (bks.map fun l => ((l.count 49 : Nat) : Int)).sum = (bks.flatten.count 49 : Nat)
  | [] => rfl
  | l :: r => by rw [List.map_cons, List.sum_cons, sum_counts r, List.flatten_cons, List.count_append]; omega
end My
namespace My
open PySem L2 Z
/-- the places of a sign in a text -/
def spots (c : Nat) : List Nat → List Nat
  | [] => []
  | x :: r => (if x = c then [0] else []) ++ (spots c r).map (· + 1)
def spot (c : Nat) (l : List Nat) (j : Nat) : Option Nat := (spots c l)[j]?
theorem spots_len (c : Nat) : ∀ l : List Nat, (spots c l).length = l.count c
  | [] => rfl
  | x :: r => by
    rw [spots, List.length_append, List.length_map, spots_len c r, List.count_cons]
    by_cases h : x = c
    · rw [if_pos h, h]; simp; omega
    · rw [if_neg h]; simp [h]
theorem spots_app (c : Nat) : ∀ a b : List Nat, spots c (a ++ b) = spots c a ++ (spots c b).map (· + a.length)
  | [], b => by simp [spots]
  | x :: r, b => by
    rw [List.cons_append, spots, spots_app c r b, List.map_append, spots, List.map_map, List.append_assoc]
    congr 2
    first
      | done
      | (apply List.map_congr_left
         intro y _
         simp only [Function.comp_apply, List.length_cons]
         omega)
theorem spots_snoc (c x : Nat) (a : List Nat) : spots c (a ++ [x]) = spots c a ++ (if x = c then [a.length] else []) := by
  rw [spots_app]
  congr 1
  simp only [spots, List.map_nil, List.append_nil]
  by_cases h : x = c
  · rw [if_pos h, if_pos h]; simp
  · rw [if_neg h, if_neg h]; rfl
theorem spots_take {c x : Nat} {l : List Nat} {i : Nat} (h : l[i]? = some x) : spots c (l.take (i + 1)) = spots c (l.take i) ++ (if x = c then [i] else []) := by
  have hi : i < l.length := (List.getElem?_eq_some_iff.mp h).1
  have e : l.take (i + 1) = l.take i ++ [x] := by rw [List.take_succ, h]; rfl
  rw [e, spots_snoc, List.length_take, Nat.min_eq_left (by omega)]
end My
namespace My
open PySem L2 Z
theorem bits_count : ∀ {l : List Nat}, Bits l → l.count 48 + l.count 49 = l.length
  | [], _ => rfl
  | x :: r, h => by
    have ih := bits_count (l := r) fun c hc => h c (List.mem_cons_of_mem _ hc)
    rcases h x List.mem_cons_self with e | e
    · rw [e, List.count_cons_self, List.count_cons_of_ne (by decide), List.length_cons]; omega
    · rw [e, List.count_cons_self, List.count_cons_of_ne (by decide), List.length_cons]; omega
theorem spot_flat {bks : List (List Nat)} {c i j : Nat} {l : List Nat} (hl : bks[i]? = some l) {n : Nat} (h : spot c l j = some n) : spot c bks.flatten ((bks.take i).flatten.count c + j) = some ((bks.take i).flatten.length + n) := by
  unfold spot at h ⊢
  rw [flat_split hl, spots_app, spots_app]
  have hj : j < (spots c l).length := (List.getElem?_eq_some_iff.mp h).1
  rw [List.getElem?_append_right (by rw [spots_len]; omega), spots_len, List.getElem?_map, List.getElem?_append_left (by omega)]
  rw [show (bks.take i).flatten.count c + j - (bks.take i).flatten.count c = j by omega, h]
  simp
  omega
end My
namespace My
open PySem PySem.Spec PyProof.Rows L2 Z
theorem shown_bit {c : Nat} (h : c = 48 ∨ c = 49) : shownL (.int ((c : Int) - 48)) = [c] := by
  rcases h with rfl | rfl
  · unfold shownL; simp only [PyData.shown]; decide +kernel
  · unfold shownL; simp only [PyData.shown]; decide +kernel
theorem rp3 {a b c : Int} (h1 : -100000 < a) (h2 : a < 100000) (h3 : -100000 < b) (h4 : b < 100000) (h5 : -100000 < c) (h6 : c < 100000) : Rp (.list [.int a, .int b, .int c]) 85 2 := by
  refine .lst (n := 25) (k := 1) fun d hd => ?_
  simp only [List.mem_cons, List.not_mem_nil, or_false] at hd
  rcases hd with rfl | rfl | rfl
  · exact .int (by omega) (by omega)
  · exact .int (by omega) (by omega)
  · exact .int (by omega) (by omega)
end My
namespace My
open PySem PySem.Spec PyProof.Rows L2 Z
theorem dpa_nats {K : PySem.W.Frag} {H : Hp} : ∀ ns : List Nat, DpAll K H (ns.map fun n => V.int (n : Nat)) (ns.map fun n => PyData.int (n : Nat))
  | [] => .nil
  | n :: r => .cons (.int _) (dpa_nats r)
theorem dp_nats {K : PySem.W.Frag} {H : Hp} {a : Addr} {ns : List Nat} (h : H a = some (.lst (ns.map fun n => V.int (n : Nat)))) : Dp K H (.ref a) (.list (ns.map fun n => PyData.int (n : Nat))) := .lst (SqL.of h) (dpa_nats ns)
theorem rp_nats {ns : List Nat} (h : ∀ n ∈ ns, n ≤ 100000) : Rp (.list (ns.map fun n => PyData.int (n : Nat))) (ns.length * 27 + 4) 2 := by
  have := Rp.lst (ds := ns.map fun n => PyData.int (n : Nat)) (n := 25) (k := 1) fun d hd => by
    obtain ⟨n, hn, rfl⟩ := List.mem_map.mp hd
    have := h n hn
    exact .int (by omega) (by omega)
  rw [List.length_map] at this
  exact this
theorem spots_lt {c : Nat} : ∀ {l : List Nat} {n : Nat}, n ∈ spots c l → n < l.length
  | x :: r, n, h => by
    rw [spots] at h
    rcases List.mem_append.mp h with z | z
    · by_cases e : x = c
      · rw [if_pos e] at z
        rw [List.mem_singleton.mp z]; simp
      · rw [if_neg e] at z; cases z
    · obtain ⟨m, hm, rfl⟩ := List.mem_map.mp z
      have := spots_lt hm
      rw [List.length_cons]
      omega
end My
namespace My
open PySem PySem.Spec PyProof.Rows L2 Z
theorem _root_.Z.Urn.nf {H : Hp} {u : Addr} {n : Nat} {fp : List Addr} (hu : Urn H u n) (nf : ∀ y ∈ fp, H y = none) : u ∉ fp := fun m => Urn.ne_new (nf u m) hu rfl
theorem _root_.Z.Urn.own {H : Hp} {u : Addr} {n : Nat} (hu : Urn H u n) : Own H [u] := fun x m => by
  rw [List.mem_singleton.mp m]
  obtain ⟨_, _, _, e, _⟩ := hu
  exact .inl ⟨_, e⟩
theorem RowAt.but {C : Addr} {H H' : Hp} {r : Addr} {fp : List Addr} {sz : Nat} {bks : List (List Nat)} {op : Int} {hn : Nat} {u : Addr} (R : RowAt C H r fp sz bks op hn) (w : Own H [u]) (n : u ∉ fp) (k : But u H H') : RowAt C H' r fp sz bks op hn :=
  R.bs k.bs (fun x hx hm => by rw [List.mem_singleton.mp hm] at hx; exact n hx) w
theorem RowAt.ins {C : Addr} {H : Hp} {r : Addr} {fp : List Addr} {sz : Nat} {bks : List (List Nat)} {op : Int} {hn : Nat} (R : RowAt C H r fp sz bks op hn) : ∃ dx fs, H r = some (.ins C dx fs) := by
  obtain ⟨dx, a, b, c, ts, _, e, _⟩ := R.ex
  exact ⟨_, _, e⟩
theorem RowAt.own1 {C : Addr} {H : Hp} {r : Addr} {fp : List Addr} {sz : Nat} {bks : List (List Nat)} {op : Int} {hn : Nat} (R : RowAt C H r fp sz bks op hn) : Own H [r] := fun x m => by
  rw [List.mem_singleton.mp m]
  obtain ⟨dx, fs, e⟩ := R.ins
  exact .inr ⟨_, _, _, e⟩
theorem RowAt.nl {C : Addr} {H : Hp} {r : Addr} {fp : List Addr} {sz : Nat} {bks : List (List Nat)} {op : Int} {hn : Nat} (R : RowAt C H r fp sz bks op hn) {q : Addr} {xs : List V} (h : H q = some (.lst xs)) : q ≠ r := fun z => by
  obtain ⟨dx, fs, e⟩ := R.ins
  rw [z, e] at h
  cases h
theorem RowAt.nn {C : Addr} {H : Hp} {r : Addr} {fp : List Addr} {sz : Nat} {bks : List (List Nat)} {op : Int} {hn : Nat} (R : RowAt C H r fp sz bks op hn) {q : Addr} (h : H q = none) : q ∉ fp := R.own.new h
end My
namespace My
open PySem PySem.Spec PyProof.Rows L2 Z
/-! ### no two neighbours fit into one block -/
def TightAt (sz : Nat) (bks : List (List Nat)) (lo hi : Nat) : Prop := ∀ (i : Nat) (x y : List Nat), i < lo ∨ hi ≤ i → bks[i]? = some x → bks[i + 1]? = some y → sz < x.length + y.length
def Tight (sz : Nat) (bks : List (List Nat)) : Prop := ∀ (i : Nat) (x y : List Nat), bks[i]? = some x → bks[i + 1]? = some y → sz < x.length + y.length
theorem Tight.nil (sz : Nat) : Tight sz [] := fun i x y h => nomatch h
theorem tight_parts {sz : Nat} (h : 0 < sz) (l : List Nat) : Tight sz (parts sz l) := by
  intro i x y hx hy
  have hi : i + 1 < (l.length + sz - 1) / sz := by
    have := (List.getElem?_eq_some_iff.mp hy).1
    rwa [parts_len] at this
  obtain ⟨e1, l1⟩ := parts_at h l (i := i) (by omega)
  obtain ⟨e2, l2⟩ := parts_at h l hi
  rw [e1] at hx
  rw [e2] at hy
  cases hx
  cases hy
  rw [Nat.succ_mul] at l2
  rw [List.length_take, List.length_drop, List.length_take, List.length_drop, Nat.succ_mul]
  omega
theorem tight_start {sz : Nat} {bks P : List (List Nat)} (t : Tight sz bks) {n m : Nat} (hn : n ≤ bks.length) : TightAt sz (bks.take n ++ P ++ bks.drop m) (n - 1) (n + P.length) := by
  intro i x y hi hx hy
  have ln : (bks.take n).length = n := by rw [List.length_take]; omega
  rcases hi with hi | hi
  · rw [List.append_assoc, List.getElem?_append_left (by omega), List.getElem?_take_of_lt (by omega)] at hx
    rw [List.append_assoc, List.getElem?_append_left (by omega), List.getElem?_take_of_lt (by omega)] at hy
    exact t i x y hx hy
  · have lP : (bks.take n ++ P).length = n + P.length := by rw [List.length_append, ln]
    rw [List.getElem?_append_right (by omega), List.getElem?_drop, lP] at hx hy
    refine t _ x y hx ?_
    rw [← hy]
    congr 1
    omega
theorem merge_at {B : List (List Nat)} {z : List Nat} {k i : Nat} (hk : k + 1 < B.length) : (B.take k ++ [z] ++ B.drop (k + 2))[i]? = if i < k then B[i]? else if i = k then some z else B[i + 1]? := by
  have lk : (B.take k).length = k := by rw [List.length_take]; omega
  by_cases h1 : i < k
  · rw [if_pos h1, List.append_assoc, List.getElem?_append_left (by omega), List.getElem?_take_of_lt h1]
  · rw [if_neg h1]
    by_cases h2 : i = k
    · rw [if_pos h2, h2, List.append_assoc, List.getElem?_append_right (by omega), lk]
      simp
    · rw [if_neg h2, List.getElem?_append_right (by rw [List.length_append, lk, List.length_singleton]; omega), List.getElem?_drop, List.length_append, lk, List.length_singleton]
      congr 1
      omega
theorem tight_merge {sz : Nat} {B : List (List Nat)} {k e : Nat} {x y : List Nat} (t : TightAt sz B k e) (hk : k < e) (hx : B[k]? = some x) (hy : B[k + 1]? = some y) : TightAt sz (B.take k ++ [x ++ y] ++ B.drop (k + 2)) (k - 1) (e - 1) := by
  have hkl : k + 1 < B.length := (List.getElem?_eq_some_iff.mp hy).1
  intro i a b hi ha hb
  rw [merge_at hkl] at ha hb
  rcases hi with hi | hi
  · rw [if_pos (by omega)] at ha
    rw [if_pos (by omega)] at hb
    exact t i a b (.inl (by omega)) ha hb
  · rw [if_neg (by omega)] at ha
    rw [if_neg (by omega), if_neg (by omega)] at hb
    by_cases h2 : i = k
    · rw [if_pos h2] at ha
      cases ha
      rw [h2] at hb
      have := t (k + 1) y b (.inr (by omega)) hy hb
      rw [List.length_append]
      omega
    · rw [if_neg h2] at ha
      exact t (i + 1) a b (.inr (by omega)) ha hb
theorem tight_step {sz : Nat} {B : List (List Nat)} {k e : Nat} {x y : List Nat} (t : TightAt sz B k e) (hx : B[k]? = some x) (hy : B[k + 1]? = some y) (h : sz < x.length + y.length) : TightAt sz B (k + 1) e := by
  intro i a b hi ha hb
  by_cases q : i = k
  · subst q
    rw [hx] at ha
    rw [hy] at hb
    cases ha
    cases hb
    exact h
  · exact t i a b (by omega) ha hb
theorem tight_end {sz : Nat} {B : List (List Nat)} {k e : Nat} (t : TightAt sz B k e) (h : e ≤ k ∨ B.length ≤ k + 1) : Tight sz B := by
  intro i a b ha hb
  have := (List.getElem?_eq_some_iff.mp hb).1
  exact t i a b (by omega) ha hb
theorem parts_one {sz : Nat} {l : List Nat} (h0 : 0 < l.length) (h1 : l.length ≤ sz) : parts sz l = [l] := by
  have e : (l.length + sz - 1) / sz = 1 := Nat.div_eq_of_lt_le (by omega) (by omega)
  unfold parts
  rw [e, List.range_one, List.map_singleton, Nat.zero_mul, List.drop_zero, List.take_of_length_le h1]
theorem parts_nil (sz : Nat) : parts sz [] = [] := by
  by_cases h : sz = 0
  · subst h; rfl
  · unfold parts
    rw [List.length_nil, Nat.zero_add, Nat.div_eq_of_lt (by omega)]
    rfl
theorem merge_flat {B : List (List Nat)} {k : Nat} {x y : List Nat} (hx : B[k]? = some x) (hy : B[k + 1]? = some y) : (B.take k ++ [x ++ y] ++ B.drop (k + 2)).flatten = B.flatten := by
  have h1 := flat_split hx
  have h2 : k + 1 < B.length := (List.getElem?_eq_some_iff.mp hy).1
  have e2 := (List.getElem?_eq_some_iff.mp hy).2
  rw [h1, List.drop_eq_getElem_cons h2, e2]
  simp
end My
namespace My
open PySem PySem.Spec PyProof.Rows L2 Z
theorem _root_.Z.Grow.old {H H' : Hp} {f f' : List Addr} (g : Grow H' f f') (b : Bs f H H') : Grow H f f' := fun x hx => by
  rcases g x hx with z | z
  · exact .inl z
  · by_cases h : x ∈ f
    · exact .inl h
    · right
      cases q : H x with
      | none => rfl
      | some o => rw [b _ _ h q] at z; cases z
theorem _root_.Z.Grow.trans {H : Hp} {f g k : List Addr} (a : Grow H f g) (b : Grow H g k) : Grow H f k := fun x hx => by
  rcases b x hx with z | z
  · exact a x z
  · exact .inr z
/-- one change behind another, of what has grown -/
theorem _root_.Z.Bs.grow {H H1 H2 : Hp} {f g : List Addr} (b : Bs f H H1) (gr : Grow H f g) (c : Bs g H1 H2) : Bs f H H2 := c.old b gr
end My
namespace My
open PySem PySem.Spec PyProof.Rows L2 Z
section
variable {K : PySem.W.Frag} {C : Addr} {H : Hp} {r r2 : Addr} {fp fp2 : List Addr} {sz sz2 : Nat} {bks bks2 : List (List Nat)} {op op2 : Int} {hn hn2 : Nat} {sp : Sp} {gV : List V → List V → List V} {Q : VK}
theorem eqR_ (R : RowAt C H r fp sz bks op hn) (R2 : RowAt C H r2 fp2 sz2 bks2 op2 hn2) (h : zSp sp (gV [.ref r, .ref r2] []) H (fun v H' => ∃ c, v = .bl c ∧ Q v H') (fun _ _ _ => False)) : rEqO C sp gV (.ref r) (.ref r2) H Q := by
  obtain ⟨dx, fs, e⟩ := R.ins
  obtain ⟨dx2, fs2, e2⟩ := R2.ins
  exact eqO_ e e2 h
theorem neR_ (R : RowAt C H r fp sz bks op hn) (R2 : RowAt C H r2 fp2 sz2 bks2 op2 hn2) (h : zSp sp (gV [.ref r, .ref r2] []) H (fun v H' => ∃ c, v = .bl c ∧ Q (.bl (!c)) H') (fun _ _ _ => False)) : rNeO C sp gV (.ref r) (.ref r2) H Q := by
  obtain ⟨dx, fs, e⟩ := R.ins
  obtain ⟨dx2, fs2, e2⟩ := R2.ins
  exact neO_ e e2 h
theorem isR_ (R : RowAt C H r fp sz bks op hn) (c : Cls K C) (o : OwnC K C) (h : Q (.bl true) H) : rIsZ K [.ref r, .ref C] H Q := by
  obtain ⟨dx, fs, e⟩ := R.ins
  exact isO_ e c o h
theorem sizeR_ (R : RowAt C H r fp sz bks op hn) (c : Cls K C) (n : NoAttr K C "size") (h : Q (.int (sz : Nat)) H) : zFld K "size" Q (.ref r) H := by
  obtain ⟨dx, a, b, cc, ts, _, e, _⟩ := R.ex
  exact zfld_ e c n rfl h
end
end My
namespace My
open PySem PySem.Spec PyProof.Rows L2 Z
theorem put_mid {bks : List (List Nat)} {i A n : Nat} {x l : List Nat} (hx : bks[i]? = some x) (hA : A = (bks.take i).flatten.length) (h0 : A ≤ n) (h1 : n ≤ A + x.length) :
    (bks.take i).flatten ++ (x.take (n - A) ++ l ++ x.drop (n - A)) ++ (bks.drop (i + 1)).flatten = bks.flatten.take n ++ l ++ bks.flatten.drop n := by
  have e1 : bks.flatten.take n = (bks.take i).flatten ++ x.take (n - A) := by
    rw [flat_split hx, List.take_append, ← hA, List.take_of_length_le (by omega), List.take_append_of_le_length (by omega)]
  have e2 : bks.flatten.drop n = x.drop (n - A) ++ (bks.drop (i + 1)).flatten := by
    rw [flat_split hx, List.drop_append, ← hA, List.drop_of_length_le (by omega), List.drop_append_of_le_length (by omega)]
    rfl
  rw [e1, e2]
  simp only [List.append_assoc]
theorem Found.drop {bks : List (List Nat)} {i n h : Nat} (f : Found bks i n h) {l : List Nat} (hl : bks[n]? = some l) : bks.flatten.drop i = l.drop (i - h) ++ (bks.drop (n + 1)).flatten := by
  have hh := f.hi _ hl
  have lo := f.lo
  rw [flat_split hl, List.drop_append, ← f.eq, List.drop_of_length_le (by rw [← f.eq]; exact lo), List.drop_append_of_le_length (by omega)]
  rfl
theorem Found.drop_eq {bks : List (List Nat)} {i n h : Nat} (f : Found bks i n h) (e : i ≤ h) : bks.flatten.drop i = (bks.drop n).flatten := by
  have lo := f.lo
  have ei : i = (bks.take n).flatten.length := by rw [← f.eq]; omega
  conv => lhs; rw [← List.take_append_drop n bks, List.flatten_append, ei]
  rw [List.drop_left]
theorem Found.mono {bks : List (List Nat)} {a n h b m g : Nat} (f : Found bks a n h) (f2 : Found bks b m g) (ab : a ≤ b) : n ≤ m := by
  rcases Nat.lt_or_ge m n with q | q
  · have hm : m < bks.length := Nat.lt_of_lt_of_le q f.le
    have hx : bks[m]? = some bks[m] := List.getElem?_eq_getElem hm
    have h1 := f2.hi _ hx
    have h2 : (bks.take (m + 1)).flatten.length ≤ (bks.take n).flatten.length := by
      have e : bks.take n = bks.take (m + 1) ++ (bks.take n).drop (m + 1) := by
        conv => lhs; rw [← List.take_append_drop (m + 1) (bks.take n)]
        rw [List.take_take, Nat.min_eq_left (by omega)]
      rw [e, List.flatten_append, List.length_append]
      omega
    rw [take_flat_succ hx, List.length_append, ← f2.eq, ← f.eq] at h2
    have := f.lo
    omega
  · exact q
theorem Found.lt_len {bks : List (List Nat)} {a n h : Nat} (f : Found bks a n h) (ha : a ≤ bks.flatten.length) (q : h < a) : n < bks.length := by
  rcases Nat.lt_or_ge n bks.length with z | z
  · exact z
  · have := f.end_ (Nat.le_antisymm f.le z)
    omega
end My
namespace My
open PySem L2 Z
theorem figs64 {sz : Nat} (h0 : 0 < sz) (h : sz ≤ 64) : (figs sz).length ≤ 7 := by
  have hb := figs_bound (Nat.lt_succ_self sz) h0
  rcases Nat.lt_or_ge (figs sz).length 8 with q | q
  · omega
  · have : 2 ^ 7 ≤ 2 ^ ((figs sz).length - 1) := Nat.pow_le_pow_right (by omega) (by omega)
    have := hb.1
    omega
theorem sum_natcast : ∀ ns : List Nat, (ns.map fun n => ((n : Nat) : Int)).sum = (ns.sum : Nat)
  | [] => rfl
  | n :: r => by rw [List.map_cons, List.sum_cons, List.sum_cons, sum_natcast r]; omega
end My
namespace My
open PySem L2 Z
theorem turn_mid {bks : List (List Nat)} {i A n : Nat} {x l : List Nat} (hx : bks[i]? = some x) (hA : A = (bks.take i).flatten.length) (h0 : A ≤ n) (h1 : n < A + x.length) :
    (bks.take i).flatten ++ (x.take (n - A) ++ l ++ x.drop (n - A + 1)) ++ (bks.drop (i + 1)).flatten = bks.flatten.take n ++ l ++ bks.flatten.drop (n + 1) := by
  have e1 : bks.flatten.take n = (bks.take i).flatten ++ x.take (n - A) := by
    rw [flat_split hx, List.take_append, ← hA, List.take_of_length_le (by omega), List.take_append_of_le_length (by omega)]
  have e2 : bks.flatten.drop (n + 1) = x.drop (n - A + 1) ++ (bks.drop (i + 1)).flatten := by
    rw [flat_split hx, List.drop_append, ← hA, List.drop_of_length_le (by omega), List.drop_append_of_le_length (by omega)]
    rw [show n + 1 - A = n - A + 1 by omega]
    rfl
  rw [e1, e2]
  simp only [List.append_assoc]
end My
namespace My
open PySem L2 Z
theorem room_sum : ∀ bks : List (List Nat), (bks.map fun l => (scode l).length).sum ≤ bks.flatten.length + bks.length
  | [] => Nat.le_refl _
  | l :: r => by
    have ih := room_sum r
    have h := scode_len l
    rw [List.map_cons, List.sum_cons, List.flatten_cons, List.length_append, List.length_cons]
    omega
end My
namespace My
open PySem PySem.Spec PyProof.Rows L2 Z
theorem _root_.Z.Urn.bs {H H' : Hp} {u : Addr} {n : Nat} {fp : List Addr} (hu : Urn H u n) (nu : u ∉ fp) (b : Bs fp H H') : Urn H' u n := by
  obtain ⟨g, c, k, e, r⟩ := hu
  exact ⟨g, c, k, b _ _ nu e, r⟩
theorem _root_.Z.Urn.ngrow {H : Hp} {u : Addr} {n : Nat} {fp fp' : List Addr} (hu : Urn H u n) (nu : u ∉ fp) (g : Grow H fp fp') : u ∉ fp' := fun m => by
  rcases g u m with z | z
  · exact nu z
  · exact Urn.ne_new z hu rfl
theorem _root_.Z.But.bsu {H H' : Hp} {u : Addr} {fp : List Addr} (b : But u H H') : Bs (u :: fp) H H' := b.bs.mono fun x hx => by rw [List.mem_singleton.mp hx]; exact List.mem_cons_self
theorem _root_.Z.Bs.bsu {H H' : Hp} {u : Addr} {fp : List Addr} (b : Bs fp H H') : Bs (u :: fp) H H' := b.mono fun x hx => List.mem_cons_of_mem _ hx
/-- grown since an older heap -/
theorem _root_.Z.Grow.back {H H' : Hp} {u : Addr} {n : Nat} {f f' : List Addr} (g : Grow H' f f') (b : Bs (u :: f) H H') (hu : Urn H' u n) (nu : u ∉ f) : Grow H f f' := fun x hx => by
  rcases g x hx with z | z
  · exact .inl z
  · by_cases h : x ∈ f
    · exact .inl h
    · right
      cases q : H x with
      | none => rfl
      | some o =>
        have xu : x ≠ u := fun e => Urn.ne_new z hu e
        rw [b _ _ (fun m => by
          rcases List.mem_cons.mp m with e | e
          · exact xu e
          · exact h e) q] at z
        cases z
end My
namespace My
open PySem PySem.Spec PyProof.Rows L2 Z
theorem tight_len (sz : Nat) : ∀ (k : Nat) (bks : List (List Nat)), bks.length ≤ k → Tight sz bks → bks.length / 2 * (sz + 1) ≤ bks.flatten.length
  | _, [], _, _ => by simp
  | _, [a], _, _ => by simp
  | 0, a :: b :: r, h, _ => absurd h (by simp)
  | k + 1, a :: b :: r, h, t => by
    have ih := tight_len sz k r (by simp at h; omega) fun i x y hx hy => t (i + 2) x y hx hy
    have h1 := t 0 a b rfl rfl
    have e : (a :: b :: r).length / 2 = r.length / 2 + 1 := by simp only [List.length_cons]; omega
    rw [e, Nat.succ_mul, List.flatten_cons, List.flatten_cons, List.length_append, List.length_append]
    omega
theorem tight_most {sz : Nat} {bks : List (List Nat)} (t : Tight sz bks) : bks.length ≤ 2 * bks.flatten.length / (sz + 1) + 1 := by
  have h := tight_len sz _ bks (Nat.le_refl _) t
  have h2 : 2 * (bks.length / 2) ≤ 2 * bks.flatten.length / (sz + 1) := by
    rw [Nat.le_div_iff_mul_le (by omega), Nat.mul_assoc]
    exact Nat.mul_le_mul_left 2 h
  omega
theorem len_most {sz : Nat} : ∀ {bks : List (List Nat)}, (∀ l ∈ bks, l.length ≤ sz) → bks.flatten.length ≤ bks.length * sz
  | [], _ => by simp
  | l :: r, h => by
    have ih := len_most (bks := r) fun x hx => h x (List.mem_cons_of_mem _ hx)
    have := h l List.mem_cons_self
    rw [List.flatten_cons, List.length_append, List.length_cons, Nat.succ_mul]
    omega
theorem room_most (sz : Nat) (bks : List (List Nat)) : 3 * (figs sz).length * bks.length + (bks.map fun l => (scode l).length).sum ≤ bks.flatten.length + bks.length * (1 + 3 * (figs sz).length) := by
  have h := room_sum bks
  rw [Nat.mul_add, Nat.mul_one, Nat.mul_comm bks.length]
  omega
theorem tight_mostI {sz : Nat} {bks : List (List Nat)} (t : Tight sz bks) : (bks.length : Int) ≤ 2 * (bks.flatten.length : Int) / ((sz : Int) + 1) + 1 := by
  have h := tight_most t
  have e : 2 * (bks.flatten.length : Int) / ((sz : Int) + 1) = ((2 * bks.flatten.length / (sz + 1) : Nat) : Int) := by
    rw [Int.natCast_ediv]
    rfl
  rw [e]
  omega
theorem len_mostI {sz : Nat} {bks : List (List Nat)} (h : ∀ l ∈ bks, l.length ≤ sz) : (bks.flatten.length : Int) ≤ (bks.length : Int) * (sz : Int) := by
  have := len_most h
  rw [← Int.natCast_mul]
  omega
end My
namespace My
open PySem L2 Z
theorem piece_low {t : List Nat} {a lo hi : Nat} (h1 : a ≤ lo) (h2 : lo ≤ hi) (h3 : hi ≤ t.length) : (t.drop a).take (lo - a) ++ (t.take hi).drop lo = (t.take hi).drop a := by
  have e : (t.drop a).take (lo - a) = ((t.take hi).drop a).take (lo - a) := by
    rw [List.drop_take, List.take_take, Nat.min_eq_left (by omega)]
  have e2 : (t.take hi).drop lo = ((t.take hi).drop a).drop (lo - a) := by
    rw [List.drop_drop]
    congr 1
    omega
  rw [e, e2, List.take_append_drop]
theorem piece_high {t : List Nat} {lo hi d : Nat} (h2 : lo ≤ hi) (h3 : hi ≤ t.length) : (t.take hi).drop lo ++ (t.drop hi).take d = (t.take (min t.length (hi + d))).drop lo := by
  have e : t.take (min t.length (hi + d)) = t.take hi ++ (t.drop hi).take d := by
    rw [← List.take_add, List.take_eq_take_iff]
    omega
  rw [e, List.drop_append_of_le_length (by rw [List.length_take]; omega)]
end My
namespace My
open PySem PySem.Spec PyProof.Rows L2 Z
/-- a change of a row that has grown, behind older changes -/
theorem _root_.Z.Grow.on {H H' : Hp} {u : Addr} {n : Nat} {f g k : List Addr} (a : Grow H f g) (b : Grow H' g k) (c : Bs (u :: f) H H') (hu : Urn H' u n) : Grow H f k := fun x hx => by
  rcases b x hx with z | z
  · exact a x z
  · by_cases h : x ∈ f
    · exact .inl h
    · right
      cases e : H x with
      | none => rfl
      | some o =>
        have xu : x ≠ u := fun w => Urn.ne_new z hu w
        rw [c _ _ (fun mm => by
          rcases List.mem_cons.mp mm with w | w
          · exact xu w
          · exact h w) e] at z
        cases z
theorem _root_.Z.Bs.on {H H' H2 : Hp} {u : Addr} {f g : List Addr} (c : Bs (u :: f) H H') (a : Grow H f g) (b : Bs g H' H2) : Bs (u :: f) H H2 := b.bsu.old c fun x hx => by
  rcases List.mem_cons.mp hx with w | w
  · exact .inl (by rw [w]; exact List.mem_cons_self)
  · rcases a x w with z | z
    · exact .inl (List.mem_cons_of_mem _ z)
    · exact .inr z
end My
namespace My
open PySem PySem.Spec PyProof.Rows L2 Z
/-! the urn as a part of the heap -/
def AUrn (u : Addr) (n : Nat) : Asn := fun h => Urn h u n
theorem _root_.Z.S.urn {u : Addr} {n : Nat} {L : List Asn} {H : Hp} (s : S (AUrn u n :: L) H) : Urn H u n ∧ ∀ H' m, Urn H' u m → But u H H' → S (AUrn u m :: L) H' := by
  obtain ⟨h, x, e⟩ := s.of .head
  have x2 : Urn h u n := x
  refine ⟨x2.ex e, fun H' m hu b => ?_⟩
  refine s.upd (fp := [u]) (fp' := [u]) (fun k y ek z hz => ?_) b.bs (fun z hz => .inl hz) ?_
  · rw [List.mem_singleton.mp hz]
    have y2 : Urn k u n := y
    obtain ⟨_, _, _, q, _⟩ := y2
    exact ⟨_, q, rfl⟩
  · obtain ⟨g, c, k, q, r⟩ := hu
    exact ⟨g, c, k, restr_at (.inl List.mem_cons_self) q, r⟩
theorem _root_.Z.S.newUrn {u : Addr} {n : Nat} {L : List Asn} {H H' : Hp} (s : S L H) (nu : H u = none) (e : Ex H H') (hu : Urn H' u n) : S (AUrn u n :: L) H' := by
  refine s.newp (fp' := [u]) e (fun x hx => by rw [List.mem_singleton.mp hx]; exact nu) ?_
  obtain ⟨g, c, k, q, r⟩ := hu
  exact ⟨g, c, k, restr_at (.inl List.mem_cons_self) q, r⟩
end My
namespace Z
open PySem PySem.Spec PyProof.Rows L2
theorem cut_len (l : List Nat) (lo hi : Option Int) : (cut l lo hi).length ≤ l.length := by
  unfold cut
  rw [List.length_take, List.length_drop]
  omega
theorem cut_mem {l : List Nat} {lo hi : Option Int} {c : Nat} (h : c ∈ cut l lo hi) : c ∈ l := by
  unfold cut at h
  exact List.mem_of_mem_drop (List.mem_of_mem_take h)
section
variable {K : PySem.W.Frag} {H : Hp} {Q : VK}
theorem reprT_ {l : List Nat} (hb : ∀ c ∈ l, c < 1000) (hl : l.length ≤ 1000000) (h : Q (T (shownL (Dt l))) H) : rRepr K [T l] H Q :=
  repr_ (d := Dt l) (Dp.str _) (.more (.str hb) (Nat.le_refl _) (by omega)) (by omega) h
theorem reprB_ {l : List Nat} (hb : Bits l) (hl : l.length ≤ 1000000) (h : Q (T (shownL (Dt l))) H) : rRepr K [T l] H Q := reprT_ hb.lt hl h
theorem reprI_ {i : Int} (h0 : -1000000000000000000 ≤ i) (h1 : i ≤ 1000000000000000000) (h : Q (T (shownL (.int i))) H) : rRepr K [.int i] H Q :=
  repr_ (d := .int i) (Dp.int _) (.more (.int (by omega) (by omega)) (Nat.le_refl _) (by omega)) (by omega) h
theorem ret_tt {R : V → Hp → Prop} {q : Prop} [Decidable q] (hq : q) (h : R (.bl true) H) : R (.bl (decide q)) H := by
  rw [decide_eq_true hq]; exact h
theorem ret_ff {R : V → Hp → Prop} {q : Prop} [Decidable q] (hq : ¬ q) (h : R (.bl false) H) : R (.bl (decide q)) H := by
  rw [decide_eq_false hq]; exact h
end
end Z
namespace My
open PySem PySem.Spec PyProof.Rows L2 Z
/-! ### rows as parts of the heap -/
theorem RowAt.restr {C : Addr} {H : Hp} {r : Addr} {fp : List Addr} {sz : Nat} {bks : List (List Nat)} {op : Int} {hn : Nat} (R : RowAt C H r fp sz bks op hn) : RowAt C (restr fp H) r fp sz bks op hn := by
  obtain ⟨dx, a, b, c, ts, rfl, e1, e2, hd, e3, e4, n⟩ := R.ex
  exact ⟨⟨dx, a, b, c, ts, rfl, restr_at (.inl (by simp)) e1, restr_at (.inl (by simp)) e2, hd.keep fun t xs e => restr_at (.inr rfl) e, restr_at (.inl (by simp)) e3, restr_at (.inl (by simp)) e4, n⟩, R.ok, R.s4, R.s64, R.few⟩
theorem RowAt.mus {C : Addr} {H : Hp} {r : Addr} {fp : List Addr} {sz : Nat} {bks : List (List Nat)} {op : Int} {hn : Nat} (R : RowAt C H r fp sz bks op hn) : ∀ x ∈ fp, ∃ o, H x = some o ∧ mu o = true := fun x hx => by
  rcases R.own x hx with ⟨xs, e⟩ | ⟨C', d, fs, e⟩
  · exact ⟨_, e, rfl⟩
  · exact ⟨_, e, rfl⟩
theorem RowAt.same {C : Addr} {H h : Hp} {r : Addr} {fp gp : List Addr} {sz sz' : Nat} {bks bks' : List (List Nat)} {op op' : Int} {hn hn' : Nat} (R : RowAt C H r fp sz bks op hn) (R' : RowAt C h r gp sz' bks' op' hn') (e : Ex h H) : fp = gp := by
  obtain ⟨dx, a, b, c, ts, rfl, e1, _⟩ := R.ex
  obtain ⟨dx', a', b', c', ts', rfl, e1', _⟩ := R'.ex
  have := e _ _ e1'
  rw [e1] at this
  have q := HO.ins.inj (Option.some.inj this)
  have q3 := q.2.2
  simp only [rowF, List.cons.injEq, Prod.mk.injEq, V.ref.injEq, true_and, and_true] at q3
  obtain ⟨_, h1, h2, _, h3⟩ := q3
  rw [h1, h2, h3]
/-- a row with its blocks -/
def ARowB (C r : Addr) (sz : Nat) (bks : List (List Nat)) (op : Int) : Asn := fun h => (∃ fp, RowAt C h r fp sz bks op bks.flatten.length) ∧ Tight sz bks
/-- a row by its bits -/
def ARow (C r : Addr) (sz : Nat) (l : List Nat) : Asn := fun h => ∃ bks op, ARowB C r sz bks op h ∧ bks.flatten = l
theorem _root_.Z.S.row {C r : Addr} {sz : Nat} {l : List Nat} {L : List Asn} {H : Hp} (s : S (ARow C r sz l :: L) H) : ∃ bks op, bks.flatten = l ∧ S (ARowB C r sz bks op :: L) H := by
  obtain ⟨h, g, ⟨bks, op, a, e⟩, b, c, d, f⟩ := s
  exact ⟨bks, op, e, h, g, a, b, c, d, f⟩
theorem _root_.Z.S.unrow {C r : Addr} {sz : Nat} {bks : List (List Nat)} {op : Int} {L : List Asn} {H : Hp} (s : S (ARowB C r sz bks op :: L) H) : S (ARow C r sz bks.flatten :: L) H := s.imp fun h x => ⟨bks, op, x, rfl⟩
theorem _root_.Z.S.rowB {C r : Addr} {sz : Nat} {bks : List (List Nat)} {op : Int} {L : List Asn} {H : Hp} (s : S (ARowB C r sz bks op :: L) H) : ∃ fp, RowAt C H r fp sz bks op bks.flatten.length ∧ Tight sz bks ∧
    ∀ H' fp' bks' op', RowAt C H' r fp' sz bks' op' bks'.flatten.length → Tight sz bks' → Bs fp H H' → Grow H fp fp' → S (ARowB C r sz bks' op' :: L) H' := by
  obtain ⟨h, x, e⟩ := s.of .head
  obtain ⟨⟨fp, R⟩, t⟩ := x
  have RH := R.exx e
  refine ⟨fp, RH, t, fun H' fp' bks' op' R' t' b gr => ?_⟩
  refine s.upd (fp := fp) (fp' := fp') (fun k y ek z hz => ?_) b gr ⟨⟨fp', R'.restr⟩, t'⟩
  obtain ⟨⟨gp, Rk⟩, _⟩ := y
  rw [RH.same Rk ek] at hz
  exact Rk.mus z hz
theorem _root_.Z.S.newRow {C r : Addr} {sz : Nat} {bks : List (List Nat)} {op : Int} {fp : List Addr} {L : List Asn} {H H' : Hp} (s : S L H) (R : RowAt C H' r fp sz bks op bks.flatten.length) (t : Tight sz bks) (nf : ∀ y ∈ fp, H y = none) (e : Ex H H') : S (ARowB C r sz bks op :: L) H' :=
  s.newp (fp' := fp) e nf ⟨⟨fp, R.restr⟩, t⟩
theorem _root_.Z.S.opened {C r : Addr} {sz : Nat} {bks : List (List Nat)} {op op' : Int} {fp : List Addr} {L : List Asn} {H H' : Hp} (s : S (ARowB C r sz bks op :: L) H) (R : RowAt C H r fp sz bks op bks.flatten.length) (R' : RowAt C H' r fp sz bks op' bks.flatten.length) (b : But r H H') : S (ARowB C r sz bks op' :: L) H' := by
  obtain ⟨gp, G, t, k⟩ := s.rowB
  have e := R.same G (Ex.refl H)
  subst e
  exact k H' fp bks op' R' t (b.bs.mono fun x hx => by rw [List.mem_singleton.mp hx]; exact R.mem) (Grow.refl _ _)
/-- what is known of a row that stands somewhere -/
theorem _root_.Z.S.rowAt {C r : Addr} {sz : Nat} {bks : List (List Nat)} {op : Int} {L M : List Asn} {H : Hp} (s : S L H) (p : Pick (ARowB C r sz bks op) L M) : ∃ fp, RowAt C H r fp sz bks op bks.flatten.length ∧ Tight sz bks := by
  obtain ⟨fp, R, t, _⟩ := (s.pick p).rowB
  exact ⟨fp, R, t⟩
theorem ARow.bits {C r : Addr} {sz : Nat} {l : List Nat} {h : Hp} (x : ARow C r sz l h) : Bits l ∧ l.length ≤ 1000 ∧ 4 ≤ sz ∧ sz ≤ 64 := by
  obtain ⟨bks, op, ⟨⟨fp, R⟩, t⟩, rfl⟩ := x
  refine ⟨fun c hc => ?_, R.few, R.s4, R.s64⟩
  obtain ⟨y, hy, hc⟩ := List.mem_flatten.mp hc
  exact (R.ok y hy).1 c hc
theorem _root_.Z.S.rowBits {C r : Addr} {sz : Nat} {l : List Nat} {L M : List Asn} {H : Hp} (s : S L H) (p : Pick (ARow C r sz l) L M) : Bits l ∧ l.length ≤ 1000 ∧ 4 ≤ sz ∧ sz ≤ 64 := by
  obtain ⟨h, x, _⟩ := s.of p
  exact x.bits
/-- heads are known wherever they stand -/
def AHeads (ts : List Addr) (bks : List (List Nat)) : Asn := fun h => Heads h ts bks
theorem _root_.Z.S.heads {ts : List Addr} {bks : List (List Nat)} {L : List Asn} {H : Hp} (s : S L H) (hd : Heads H ts bks) : S (AHeads ts bks :: L) H :=
  s.newp (fp' := []) (Ex.refl H) (fun x hx => nomatch hx) (hd.keep fun t xs e => restr_at (.inr rfl) e)
theorem _root_.Z.S.headsAt {ts : List Addr} {bks : List (List Nat)} {L M : List Asn} {H : Hp} (s : S L H) (p : Pick (AHeads ts bks) L M) : Heads H ts bks := by
  obtain ⟨h, x, e⟩ := s.of p
  have x2 : Heads h ts bks := x
  exact x2.keep fun t xs q => e _ _ q
end My
namespace My
open PySem PySem.Spec PyProof.Rows L2 Z
theorem _root_.Z.S.rowPick {C r : Addr} {sz : Nat} {l : List Nat} {L M : List Asn} {H : Hp} (s : S L H) (p : Pick (ARow C r sz l) L M) : ∃ fp bks op, RowAt C H r fp sz bks op bks.flatten.length ∧ Tight sz bks ∧ bks.flatten = l ∧
    ∀ H' fp' bks' op', RowAt C H' r fp' sz bks' op' bks'.flatten.length → Tight sz bks' → Bs fp H H' → Grow H fp fp' → S (ARow C r sz bks'.flatten :: M) H' := by
  obtain ⟨bks, op, e, s2⟩ := (s.pick p).row
  obtain ⟨fp, R, t, k⟩ := s2.rowB
  exact ⟨fp, bks, op, R, t, e, fun H' fp' bks' op' R' t' b g => (k H' fp' bks' op' R' t' b g).unrow⟩
theorem _root_.Z.S.rowTurn {C r : Addr} {sz : Nat} {l : List Nat} {L M : List Asn} {H : Hp} (s : S L H) (p : Pick (ARow C r sz l) L M) : ∃ fp bks op, RowAt C H r fp sz bks op bks.flatten.length ∧ bks.flatten = l ∧
    ∀ H' op', RowAt C H' r fp sz bks op' bks.flatten.length → But r H H' → S (ARow C r sz l :: M) H' := by
  obtain ⟨fp, bks, op, R, t, e, k⟩ := s.rowPick p
  exact ⟨fp, bks, op, R, e, fun H' op' R' b => e ▸ k H' fp bks op' R' t (b.bs.mono fun x hx => by rw [List.mem_singleton.mp hx]; exact R.mem) (Grow.refl _ _)⟩
def exB (Q : VK) : VK := fun v H => ∃ c, v = .bl c ∧ Q v H
def exN (Q : VK) : VK := fun v H => ∃ c, v = .bl c ∧ Q (.bl (!c)) H
theorem exB_ {Q : VK} {b : Bool} {H : Hp} (h : Q (.bl b) H) : exB Q (.bl b) H := ⟨b, rfl, h⟩
theorem exN_ {Q : VK} {b : Bool} {H : Hp} (h : Q (.bl (!b)) H) : exN Q (.bl b) H := ⟨b, rfl, h⟩
theorem exN_d {Q : VK} {q : Prop} [Decidable q] {H : Hp} (h : Q (.bl (!decide q)) H) : exN Q (.bl (decide q)) H := ⟨_, rfl, h⟩
section
variable {K : PySem.W.Frag} {C r r2 : Addr} {sz sz2 : Nat} {l l2 : List Nat} {L M N : List Asn} {H : Hp} {m : Str} {t : TA} {q : V → List V → Hp → Prop} {σ : L2.St} {sp : Sp} {gV : List V → List V → List V} {P : VK → VK} {Q : VK} {bks : List (List Nat)} {op : Int}
theorem zmethS_ (s : S L H) (p : Pick (ARow C r sz l) L M) (no : ∀ sz a b op c, (rowF sz a b op c).lookup m = none) (h : t σ H fun vs H2 => q (.ref r) vs H2) : zMeth C m t q σ (.ref r) H := by
  obtain ⟨fp, bks, op, R, _⟩ := s.rowPick p
  exact zmethR_ R no h
theorem zmethSB_ (s : S L H) (p : Pick (ARowB C r sz bks op) L M) (no : ∀ sz a b op c, (rowF sz a b op c).lookup m = none) (h : t σ H fun vs H2 => q (.ref r) vs H2) : zMeth C m t q σ (.ref r) H := by
  obtain ⟨fp, R, _⟩ := s.rowAt p
  exact zmethR_ R no h
theorem ownS_ (s : S L H) (p : Pick (ARow C r sz l) L M) (h : zSp sp (gV [.ref r] []) H (P Q) (fun _ _ _ => False)) : rOwn1 C sp gV P [.ref r] H Q := by
  obtain ⟨fp, bks, op, R, _⟩ := s.rowPick p
  exact ownR_ R h
theorem ownSB_ (s : S L H) (p : Pick (ARowB C r sz bks op) L M) (h : zSp sp (gV [.ref r] []) H (P Q) (fun _ _ _ => False)) : rOwn1 C sp gV P [.ref r] H Q := by
  obtain ⟨fp, R, _⟩ := s.rowAt p
  exact ownR_ R h
theorem eqS_ (s : S L H) (p : Pick (ARow C r sz l) L M) (p2 : Pick (ARow C r2 sz2 l2) L N) (h : zSp sp (gV [.ref r, .ref r2] []) H (exB Q) (fun _ _ _ => False)) : rEqO C sp gV (.ref r) (.ref r2) H Q := by
  obtain ⟨fp, bks, op, R, _⟩ := s.rowPick p
  obtain ⟨fp, bks, op, R2, _⟩ := s.rowPick p2
  exact eqR_ R R2 h
theorem neqS_ (s : S L H) (p : Pick (ARow C r sz l) L M) (p2 : Pick (ARow C r2 sz2 l2) L N) (h : zSp sp (gV [.ref r, .ref r2] []) H (exN Q) (fun _ _ _ => False)) : rNeO C sp gV (.ref r) (.ref r2) H Q := by
  obtain ⟨fp, bks, op, R, _⟩ := s.rowPick p
  obtain ⟨fp, bks, op, R2, _⟩ := s.rowPick p2
  exact neR_ R R2 h
theorem isS_ (s : S L H) (p : Pick (ARow C r sz l) L M) (c : Cls K C) (o : OwnC K C) (h : Q (.bl true) H) : rIsZ K [.ref r, .ref C] H Q := by
  obtain ⟨fp, bks, op, R, _⟩ := s.rowPick p
  exact isR_ R c o h
theorem sizeS_ (s : S L H) (p : Pick (ARow C r sz l) L M) (c : Cls K C) (n : NoAttr K C "size") (h : Q (.int (sz : Nat)) H) : zFld K "size" Q (.ref r) H := by
  obtain ⟨fp, bks, op, R, _⟩ := s.rowPick p
  exact sizeR_ R c n h
end
/-- the sign at a place -/
theorem atI_get {l : List Nat} {i : Int} {c : Nat} (h0 : 0 ≤ i) (h : atI l i = some c) : l[i.toNat]? = some c := by
  by_cases q : i < (l.length : Nat)
  · have e : l[i.toNat]? = some l[i.toNat] := List.getElem?_eq_getElem (by omega)
    have e2 : atI l ((i.toNat : Nat) : Int) = some l[i.toNat] := atI_nat e
    rw [show ((i.toNat : Nat) : Int) = i by omega, h] at e2
    rw [e2]
    exact e
  · have e : atI l i = none := by
      unfold atI ixN
      rw [if_pos h0, if_neg q]
      rfl
    rw [e] at h
    cases h
theorem take_nat (l : List Nat) (i : Int) (h : 0 ≤ i) : l.take i.toNat = cut l none (some i) := (cut_to l i h).symm
end My
namespace My
open PySem PySem.Spec PyProof.Rows L2 Z
theorem _root_.Z.S.urn_out {u : Addr} {n : Nat} {C r : Addr} {sz sz' : Nat} {l : List Nat} {L M N : List Asn} {H : Hp} (s : S L H) (p : Pick (AUrn u n) L M) (q : Pick (ARow C r sz l) M N) {fp : List Addr} {bks : List (List Nat)} {op : Int} {hn : Nat} (R : RowAt C H r fp sz' bks op hn) : u ∉ fp := fun m => by
  obtain ⟨h, g, x, ⟨bks', op', ⟨⟨fp', R'⟩, t⟩, e⟩, c, d, f⟩ := s.apart p q
  have x2 : Urn h u n := x
  obtain ⟨_, _, _, hu, _⟩ := x2
  rw [R.same R' d] at m
  obtain ⟨o, ho, hm⟩ := R'.mus u m
  rw [f _ _ hu rfl] at ho
  cases ho
end My
namespace My
open PySem PySem.Spec PyProof.Rows L2 Z
theorem bit_at {l : List Nat} {i : Int} (hb : Bits l) (h0 : 0 ≤ i) (h1 : i < (l.length : Nat)) : ∃ c, atI l i = some c ∧ (c = 48 ∨ c = 49) := by
  have hc : l[i.toNat]? = some l[i.toNat] := List.getElem?_eq_getElem (by omega)
  refine ⟨_, ?_, hb _ (List.mem_of_getElem? hc)⟩
  have := atI_nat hc
  rwa [Int.toNat_of_nonneg h0] at this
theorem intL_flip {c : Nat} (h : c = 48 ∨ c = 49) : intL (1 - ((c : Int) - 48)) = [97 - c] := by
  rcases h with rfl | rfl
  · rw [show (1 - (((48 : Nat) : Int) - 48)) = ((1 : Nat) : Int) by omega, intL_bit (by omega)]
  · rw [show (1 - (((49 : Nat) : Int) - 48)) = ((0 : Nat) : Int) by omega, intL_bit (by omega)]
theorem cut_bits {l : List Nat} {a b : Option Int} (h : Bits l) : Bits (cut l a b) := fun c hc => h c (cut_mem hc)
theorem cut_short {l : List Nat} {n : Int} {m : Nat} (h0 : 0 ≤ n) (h : n ≤ (m : Nat)) : (cut l none (some n)).length ≤ m := by
  rw [cut_to _ _ h0, List.length_take]
  omega
theorem cut_len_to {l : List Nat} {n : Int} (h0 : 0 ≤ n) (h : n ≤ (l.length : Nat)) : ((cut l none (some n)).length : Int) = n := by
  rw [cut_to _ _ h0, List.length_take]
  omega
theorem bits_rep1 {c : Nat} (h : Bit c) (n : Nat) : Bits (rep [c] n) := Bits.rep (fun d hd => by rw [List.mem_singleton.mp hd]; exact h) n
theorem bits_rep2 {c d : Nat} (h1 : Bit c) (h2 : Bit d) (n : Nat) : Bits (rep [c, d] n) := Bits.rep (fun e he => by
  rcases List.mem_cons.mp he with z | z
  · rw [z]; exact h1
  · rw [List.mem_singleton.mp z]; exact h2) n
end My
/-! O, part Q: own == and != of an instance and anything else -/
namespace Z
open PySem PySem.Spec PyProof.Rows L2 Builtin
/-- what may stand beside an own instance -/
inductive Oth (K : PySem.W.Frag) (C : Addr) (H : Hp) : V → Prop
  | non : Oth K C H .non
  | bl (b : Bool) : Oth K C H (.bl b)
  | int (i : Int) : Oth K C H (.int i)
  | str (x : Str) : Oth K C H (.str x)
  | lst {a : Addr} {xs : List V} (e : H a = some (.lst xs)) : Oth K C H (.ref a)
  | tup {a : Addr} {xs : List V} (e : H a = some (.tup xs)) : Oth K C H (.ref a)
  | own {a dx : Addr} {fs : List (Str × V)} (e : H a = some (.ins C dx fs)) : Oth K C H (.ref a)
  | ins {a D dx : Addr} {fs : List (Str × V)} (e : H a = some (.ins D dx fs)) (h : PySem.W.subIn K (.ref D) (.ref C) = some false) : Oth K C H (.ref a)
theorem Oth.look {X : Cx} {pins : List (Addr × Obj)} {σ : L2.St} {H : Hp} {s : Shared} {C : Addr} {y : V} {u : Value} (I : Inv X pins σ H s) (o : OwnC X.K C) (h : Oth X.K C H y) (r : RelV y u) :
    ∃ tb, PySem.W.Looks (model X.prog X.w) s.heap (typeOf u) tb ∧ PySem.W.notFirst X.K C tb = true := by
  have nf : ∀ {t : String}, PySem.W.subIn X.K (.type t) (.ref C) = some false → PySem.W.notFirst X.K C (.type t) = true := fun {t} e => by
    unfold PySem.W.notFirst
    rw [e]; simp
  cases h with
  | non => cases r; exact ⟨_, .now, nf o.s6⟩
  | bl b => cases r; exact ⟨_, .now, nf o.s3⟩
  | int i => obtain ⟨t, rfl⟩ := r; exact ⟨_, .now, nf o.s2⟩
  | str x => obtain ⟨t, rfl⟩ := r; exact ⟨_, .now, nf o.s1⟩
  | lst e =>
    cases r
    obtain ⟨z, its, k, r, e2⟩ := I.hok _ _ e
    exact ⟨_, (PySem.W.Looks.ld e2).andThen .now, nf o.s4⟩
  | tup e =>
    cases r
    obtain ⟨its, r, ⟨ob, ho, hc, n, hd⟩, z⟩ := I.tuple (SqT.of e)
    refine ⟨.type "tuple", ?_, nf o.s5⟩
    have := (PySem.W.Looks.ld (M := model X.prog X.w) (part := some headPart) ho).andThen (f := fun o => pure o.cls) (b := ob.cls) .now
    rw [hc] at this
    exact this
  | own e =>
    cases r
    obtain ⟨ox, od, J⟩ := own_inst I e
    exact ⟨_, J.type, by unfold PySem.W.notFirst; simp⟩
  | ins e h =>
    cases r
    obtain ⟨ox, od, J⟩ := own_inst I e
    exact ⟨_, J.type, by unfold PySem.W.notFirst; rw [h]; simp⟩
section
variable {X : Cx} {k : Nat} {C : Addr} {gV : List V → List V → List V} {sp : Sp}
def rEqX (K : PySem.W.Frag) (C : Addr) (sp : Sp) (gV : List V → List V → List V) : R2 := fun x y H Q => ∃ a dx fs, x = .ref a ∧ H a = some (.ins C dx fs) ∧ Oth K C H y ∧ sp (gV [x, y] []) H (fun v H' => ∃ c, v = .bl c ∧ Q v H') (fun _ _ _ => False)
theorem z_eqX (M : MthK X.prog X.w X.K X.mg X.base k C "__eq__" 2 [] gV sp) (room : Room (k + 3) X.A) (noG : X.A.guards = some []) (oc : OwnC X.K C) : OpR X (compareOp .Eq) (rEqX X.K C sp gV) := by
  intro pins s σ H x y v u Q I rx ry h
  obtain ⟨a, dx, fs, rfl, ea, oy, q⟩ := h
  cases rx
  obtain ⟨ox, od, J⟩ := own_inst I ea
  obtain ⟨tb, hb, hn⟩ := oy.look I oc ry
  obtain ⟨mm, fr⟩ := I.fr
  obtain ⟨f, hf, fn, go⟩ := run_own (E := X.xe) (A := X.A) M (room.mono (by omega)) noG rfl I (us := [.ref a, u]) (vs := [.ref a, y]) (.cons rfl (.cons ry .nil)) rfl q
  refine PySem.W.cmp_K (op := .Eq) (tb := tb) room.units0 fr I.ok.mod.kin J hb hn hf fn (wpAny_mono go ?_ fun _ _ z => z)
  rintro v s' ⟨z, H', I', rz, c, rfl, q'⟩
  cases rz
  exact ⟨V.bl c, H', I', rfl, q'⟩
end
section
variable {prog : Program} {w : World} {A : Around} {E : Value → Shared → Prop} {s : Shared} {K : PySem.W.Frag} {x C f : Addr} {y tb : Value} {ox : Obj} {od : Option Obj}
theorem own_neX {Q : Value → Shared → Prop} (hu : A.units < cLine) (hu1 : A.in1.units < cLine) (X : K.In s.heap) (I : PySem.W.InstAt s.heap x ox C od) (hb : PySem.W.Looks (model prog w) s.heap (typeOf y) tb) (hn : PySem.W.notFirst K C tb = true)
    (ne : PySem.W.findIn K (.ref C) "__ne__" = some (some (.builtin "object.__ne__"))) (eqf : PySem.W.findIn K (.ref C) "__eq__" = some (some (.ref f))) (hf : PySem.W.isFn K (.ref f) = true) (mo : PySem.W.subIn K (.ref C) (.type "object") = some true)
    (h : wpAny (model prog w) A.in1 (call (.ref f) [.ref x, y]) (fun v s' => ∃ b, v = .bool b ∧ Q (.bool (!b)) s') E s) : wpAny (model prog w) A (richCompare .NotEq (.ref x) y) Q E s := by
  have body : wpAny (model prog w) A (call (.builtin "object.__ne__") [.ref x, y]) (fun v s' => ∃ b, v = .bool b ∧ Q (.bool b) s') E s := by
    refine wpAny_call (codeAny_call_builtin PySem.F.cmp_object.ne.plain PySem.F.cmpEntry_ne ?_)
    have hc : ∀ {A' : Around} {E' : Value → Shared → Prop} {Q' : Unit → Shared → Prop}, Q' () s → wpAny (model prog w) A' (checkBuiltinCall "object.__ne__" ⟨[.ref x, y], []⟩) Q' E' s := fun {A' E' Q'} hq => by
      have ha := PySem.F.cmpArgs_ne (.ref x) y
      simp only [checkBuiltinCall, PySem.F.cmpKind_ne, PySem.F.cmpSplit_ne]
      refine wpAny_bind ?_
      unfold isInstance
      refine wpAny_bind (I.type.here ((PySem.W.looks_subIn X mo).here ?_))
      cases hsig : Manifest.signature? "object.__ne__" with
      | none => exact wpAny_pure hq
      | some sig =>
        simp only [argsOk, hsig] at ha
        have h2 : Bind.checkArgs "object.__ne__" sig ⟨[.ref x, y], []⟩ = pure () := ha
        show wpAny _ A' (Bind.checkArgs "object.__ne__" sig ⟨[.ref x, y], []⟩) Q' E' _
        rw [h2]; exact wpAny_pure hq
    refine hc ?_
    unfold Builtin.«object.__ne__»
    refine wpAny_bind (m := slotArgs _ _ _) (wpAny_pure ?_)
    refine wpAny_bind (m := cRoomFor _ _) (wpAny_cRoomFor hu1 ?_)
    refine wpAny_bind (m := callSpecialIfBound? _ _ _) (PySem.W.ifBound_K X I eqf hf (wpAny_mono h (fun v s' hv => ?_) fun _ _ e => e))
    obtain ⟨b, rfl, q⟩ := hv
    refine wpAny_bind (m := truthy _) (wpAny_pure ?_)
    exact wpAny_pure ⟨_, rfl, q⟩
  have one : wpAny (model prog w) A (tryCompare (.ref x) "__ne__" y) (fun r s' => ∃ v, r = some v ∧ Q v s') E s := by
    unfold tryCompare
    simp only [callSpecialIfBound?, bindSpecialIfBound?]
    refine wpAny_bind (wpAny_holding (wpAny_bind (wpAny_bind (wpAny_bind (I.type.here ((PySem.W.looks_findIn X ne).here ?_))))))
    simp only [PySem.F.cmp_object.ne.bind]
    refine wpAny_bind (wpAny_askSetting (wpAny_ite ?_))
    have fin : ∀ {Q' : Option Value → Shared → Prop}, (∀ b s', Q (.bool b) s' → Q' (some (.bool b)) s') → wpAny (model prog w) A (call (.builtin "object.__ne__") ([.ref x] ++ [y]) >>= fun v => pure (some v)) Q' E s := fun {Q'} k => wpAny_bind (wpAny_mono body (fun v s' hv => by
      obtain ⟨b, rfl, q⟩ := hv
      exact wpAny_pure (k b s' q)) fun _ _ h' => h')
    split
    · refine wpAny_bind (wpAny_pure (wpAny_pure ?_))
      exact fin fun b s' q => wpAny_pure ⟨_, rfl, q⟩
    · refine wpAny_tryCatch (wpAny_bind (wpAny_pure (wpAny_pure ?_)))
      exact fin fun b s' q => wpAny_pure ⟨_, rfl, q⟩
  have fin2 : wpAny (model prog w) A (tryCompare (.ref x) "__ne__" y) (fun r s' => ∃ v, r = some v ∧ Q v s') E s := one
  unfold richCompare
  simp only [oneThing_ref]
  refine wpAny_holding (wpAny_bind (wpAny_cRoomFor hu ?_))
  refine wpAny_bind (I.type.here (wpAny_bind (hb.here ?_)))
  split
  · rename_i q
    have e : PySem.W.subIn K tb (.ref C) = some false := by
      rcases Bool.or_eq_true_iff.mp hn with e | e
      · rw [beq_iff_eq.mp e] at q; simp at q
      · exact beq_iff_eq.mp e
    refine wpAny_bind ((PySem.W.looks_subIn X e).here ?_)
    simp only [Bool.false_eq_true, if_false]
    refine wpAny_bind (wpAny_mono one (fun r s' z => ?_) fun _ _ e => e)
    obtain ⟨v, rfl, hq⟩ := z
    exact wpAny_pure hq
  · refine wpAny_bind (wpAny_pure ?_)
    simp only [Bool.false_eq_true, if_false]
    refine wpAny_bind (wpAny_mono one (fun r s' z => ?_) fun _ _ e => e)
    obtain ⟨v, rfl, hq⟩ := z
    exact wpAny_pure hq
end
section
variable {X : Cx} {k : Nat} {C : Addr} {gV : List V → List V → List V} {sp : Sp}
def rNeX (K : PySem.W.Frag) (C : Addr) (sp : Sp) (gV : List V → List V → List V) : R2 := fun x y H Q => ∃ a dx fs, x = .ref a ∧ H a = some (.ins C dx fs) ∧ Oth K C H y ∧ sp (gV [x, y] []) H (fun v H' => ∃ c, v = .bl c ∧ Q (.bl (!c)) H') (fun _ _ _ => False)
theorem z_neX (M : MthK X.prog X.w X.K X.mg X.base k C "__eq__" 2 [] gV sp) (room : Room (k + 3) X.A) (noG : X.A.guards = some []) (oc : OwnC X.K C) : OpR X (compareOp .NotEq) (rNeX X.K C sp gV) := by
  intro pins s σ H x y v u Q I rx ry h
  obtain ⟨a, dx, fs, rfl, ea, oy, q⟩ := h
  cases rx
  obtain ⟨ox, od, J⟩ := own_inst I ea
  obtain ⟨tb, hb, hn⟩ := oy.look I oc ry
  obtain ⟨f, hf, fn, go⟩ := run_own (E := X.xe) (A := X.A.in1) M ((room_in1 room).mono (by omega)) noG rfl I (us := [.ref a, u]) (vs := [.ref a, y]) (.cons rfl (.cons ry .nil)) rfl q
  refine own_neX room.units0 (room_in1 room).units0 I.kIn J hb hn oc.ne hf fn oc.ob (wpAny_mono go ?_ fun _ _ z => z)
  rintro v s' ⟨z, H', I', rz, c, rfl, q'⟩
  cases rz
  exact ⟨c, rfl, V.bl (!c), H', I', rfl, q'⟩
end
end Z
namespace Z
open PySem PySem.Spec PyProof.Rows L2 Builtin PySem.SeqAt
open AutoSeq1 (wpAny_loadPart')
open MeetsSeq MeetsSeq2 MeetsSeq3 SeqRoads2
section
variable {prog : Program} {w : World} {A : Around} {R : Result → Shared → Prop}
/-- at each turn the list is read anew: N items, the i-th one compared -/
def ConI (prog : Program) (w : World) (A : Around) (R : Result → Shared → Prop) (l : Addr) (x : Value) (N : Nat) (I : Nat → Shared → Prop) : Prop :=
  ∀ i s, I i s → ∃ (items : Array Value) (n : Nat), s.heap.get? l = some { cls := .type "list", data := .seq items n } ∧ items.size = N ∧
    ∀ (h1 : i < items.size), wpAny (model prog w) A.in1 (eqBool items[i] x) (fun r s' => if r = true then R (.ok (.ret (.bool true))) s' else I (i + 1) s') (fun e s' => R (.error e) s') s
theorem contains_loopG (l : Addr) (x : Value) (N : Nat) (I : Nat → Shared → Prop) (hl : ConI prog w A R l x N I) (fin : ∀ s, I N s → R (.ok (.ret (.bool false))) s) (k : Nat) :
    ∀ i : Nat, N - i = k → i ≤ N → ∀ s, I i s →
      wpAny (model prog w) A.in1 (Builtin.«list.__contains__.loop» ⟨[.ref l, x, rawInt i], []⟩) (GQ.FinOf prog w A R) (fun e s' => R (.error e) s') s := by
  induction k with
  | zero =>
    intro i hk hi s h
    obtain ⟨items, n, hl1, hs1, _⟩ := hl _ _ h
    have hi' : i = N := by omega
    have hR : R (.ok (.ret (.bool false))) s := fin s (hi' ▸ h)
    obtain ⟨hp, g, d, tk, os⟩ := s
    wp_walk using wpAny_loadPart' hl1
    have hi1 : items[((i : Nat) : Int).toNat]? = none := by simp; omega
    rw [hi1]
    wp_walk
    exact hR
  | succ k ih =>
    intro i hk hi s h
    obtain ⟨items, n, hl1, hs1, turn⟩ := hl _ _ h
    have hlt : i < items.size := by omega
    have ht := turn hlt
    obtain ⟨hp, g, d, tk, os⟩ := s
    wp_walk using wpAny_loadPart' hl1
    have hi1 : items[((i : Nat) : Int).toNat]? = some items[i] := by simp [hlt]
    have hc : ((i : Int) + 1) = ((i + 1 : Nat) : Int) := by omega
    rw [hi1]
    refine wpAny_bind (wpAny_mono ht (fun r s2 h2 => ?_) fun _ _ x => x)
    cases r with
    | true =>
      rw [if_pos rfl] at h2
      obtain ⟨hp2, g2, d2, tk2, os2⟩ := s2
      wp_walk
      exact h2
    | false =>
      rw [if_neg (by decide)] at h2
      have hrec := ih (i + 1) (by omega) (by omega) s2 h2
      obtain ⟨hp2, g2, d2, tk2, os2⟩ := s2
      wp_walk
      rw [hc]
      exact ⟨plainId_quiet plain_contains_loop _, codeAny_builtin entry_contains_loop (by
        rw [Around.under_plainId plain_contains_loop _]
        exact hrec)⟩
theorem list_containsG (l : Addr) (x : Value) (N : Nat) (I : Nat → Shared → Prop) (hl : ConI prog w A R l x N I) (fin : ∀ s, I N s → R (.ok (.ret (.bool false))) s) {s : Shared} (h : I 0 s) :
    wpAny (model prog w) A.in1 (Builtin.«list.__contains__» ⟨[.ref l, x], []⟩) (GQ.FinOf prog w A R) (fun e s' => R (.error e) s') s := by
  obtain ⟨items, n, hl1, hs1, _⟩ := hl _ _ h
  have hrec := contains_loopG (A := A) (R := R) l x N I hl fin _ 0 rfl (Nat.zero_le _) s h
  obtain ⟨hp, g, d, tk, os⟩ := s
  wp_walk using wpAny_loadPart' hl1
  exact ⟨plainId_quiet plain_contains_loop _, codeAny_builtin entry_contains_loop (by
    rw [Around.under_plainId plain_contains_loop _]
    exact hrec)⟩
end
section
variable {prog : Program} {w : World} {A : Around} {E : Value → Shared → Prop} {s : Shared}
theorem contains_G {l : Addr} {x : Value} {N : Nat} {Q : Bool → Shared → Prop} (I : Nat → Shared → Prop) (hl : ConI prog w A (wants (fun v s' => ∃ b, v = .bool b ∧ Q b s') E) l x N I) (fin : ∀ s, I N s → Q false s) (h : I 0 s) :
    wpAny (model prog w) A (contains (.ref l) x) Q E s := by
  obtain ⟨items, n, hl1, hs1, _⟩ := hl _ _ h
  refine wpAny_contains_slot ⟨_, hl1, rfl⟩ PySem.F.slot_list_contains (wpAny_mono (GQ.call_here PySem.F.slot_list_contains ⟨_, hl1, rfl⟩ PySem.F.entry_list_contains (PySem.F.args_list_contains_2 _ _) (Q := fun v s' => ∃ b, v = .bool b ∧ Q b s') (list_containsG (R := wants (fun v s' => ∃ b, v = .bool b ∧ Q b s') E) l x N I hl (fun s q => ⟨false, rfl, fin s q⟩) h)) (fun v s' hv => ?_) fun _ _ e => e)
  obtain ⟨b, rfl, hq⟩ := hv
  exact wpAny_truthy_bool hq
variable {K : PySem.W.Frag} {x C f : Addr} {ox : Obj} {od : Option Obj}
/-- None == x, x an own instance: x's own == is asked -/
theorem rc_none {Q : Value → Shared → Prop} (hu : A.units < cLine) (X : K.In s.heap) (I : PySem.W.InstAt s.heap x ox C od) (sn : PySem.W.subIn K (.ref C) (.type "NoneType") = some false)
    (eqf : PySem.W.findIn K (.ref C) "__eq__" = some (some (.ref f))) (hf : PySem.W.isFn K (.ref f) = true)
    (h : wpAny (model prog w) A (call (.ref f) [.ref x, .none]) (PySem.W.CmpBack Q) E s) : wpAny (model prog w) A (richCompare .Eq .none (.ref x)) Q E s := by
  have one : wpAny (model prog w) A (tryCompare (.ref x) "__eq__" .none) (fun r s' => ∃ v, r = some v ∧ Q v s') E s := by
    unfold tryCompare
    refine wpAny_bind (PySem.W.ifBound_K X I eqf hf (wpAny_mono h (fun v s' hv => ?_) fun _ _ e => e))
    cases v <;> first | exact hv.elim | exact wpAny_pure ⟨_, rfl, hv⟩
  have two : wpAny (model prog w) A (tryCompare .none "__eq__" (.ref x)) (fun r s' => r = none ∧ s' = s) E s :=
    wpAny_tryCompare_declines (T := "NoneType") rfl PySem.F.slot_NoneType_eq (call_gives PySem.F.slot_NoneType_eq rfl PySem.F.entry_NoneType_eq (PySem.F.args_NoneType_eq_2 _ _) (NoneType___eq___none_ref_0 x) (show _ ∧ _ ∧ _ from ⟨rfl, rfl, rfl⟩))
  unfold richCompare
  have e0 : oneThing? .Eq .none (.ref x) = none := rfl
  simp only [e0, cmpInfo]
  refine wpAny_holding (wpAny_bind (wpAny_cRoomFor hu ?_))
  refine wpAny_bind (PySem.W.Looks.now.here (wpAny_bind (I.type.here ?_)))
  have ne : (Value.type "NoneType" != Value.ref C) = true := rfl
  rw [if_pos ne]
  refine wpAny_bind ((PySem.W.looks_subIn X sn).here ?_)
  simp only [Bool.false_eq_true, if_false, Bool.not_false, if_true]
  refine wpAny_bind (wpAny_mono two (fun r s' z => ?_) fun _ _ e => e)
  obtain ⟨rfl, rfl⟩ := z
  refine wpAny_bind (wpAny_mono one (fun r s' z => ?_) fun _ _ e => e)
  obtain ⟨v, rfl, hq⟩ := z
  exact wpAny_pure hq
theorem eqBool_nr {y : Value} {b : Addr} {Q : Bool → Shared → Prop} (hne : (y == Value.ref b) = false) (hf : ∀ f t, y ≠ .float f t) (h : wpAny (model prog w) A (richCompare .Eq y (.ref b)) (fun v s' => ∃ r, v = .bool r ∧ Q r s') E s) : wpAny (model prog w) A (eqBool y (.ref b)) Q E s := by
  unfold eqBool
  refine wpAny_holding ?_
  refine wpAny_ite_split (fun hab => absurd hab (by rw [hne]; decide)) (fun _ => ?_)
  cases y <;> first
    | exact absurd rfl (hf _ _)
    | (refine wpAny_bind (wpAny_mono h (fun v s' hv => ?_) fun _ _ x => x)
       obtain ⟨r, rfl, q⟩ := hv
       exact wpAny_truthy_bool q)
end
end Z
namespace Z
open PySem PySem.Spec PyProof.Rows L2 Builtin PySem.SeqAt
/-- x in a list of Nones, itself, own instances: by the own == -/
def inW (C : Addr) (sp : Sp) (gV : List V → List V → List V) (p : Addr) (xs : List V) (a : Addr) : List V → Hp → (Bool → Hp → Prop) → Prop
  | [], H, Q => Q false H
  | y :: ys, H, Q => (y = .ref a ∧ Q true H) ∨
      (y = .non ∧ sp (gV [.ref a, .non] []) H (fun v H' => ∃ c, v = .bl c ∧ (H' p = some (.lst xs) ∧ ∃ dx fs, H' a = some (.ins C dx fs)) ∧ if c = true then Q true H' else inW C sp gV p xs a ys H' Q) fun _ _ _ => False) ∨
      (∃ b dx fs, y = .ref b ∧ b ≠ a ∧ H b = some (.ins C dx fs) ∧ sp (gV [.ref b, .ref a] []) H (fun v H' => ∃ c, v = .bl c ∧ (H' p = some (.lst xs) ∧ ∃ dx fs, H' a = some (.ins C dx fs)) ∧ if c = true then Q true H' else inW C sp gV p xs a ys H' Q) fun _ _ _ => False)
def rInX (C : Addr) (sp : Sp) (gV : List V → List V → List V) (n : Bool → Bool) : R2 := fun x y H Q => ∃ a p dx fs xs, x = .ref a ∧ y = .ref p ∧ H a = some (.ins C dx fs) ∧ H p = some (.lst xs) ∧ inW C sp gV p xs a xs H fun b H' => Q (.bl (n b)) H'
/-- what a class must have beside: it is no NoneType -/
structure OwnN (K : PySem.W.Frag) (C : Addr) : Prop where
  sn : PySem.W.subIn K (.ref C) (.type "NoneType") = some false
section
variable {X : Cx} {k : Nat} {C : Addr} {gV : List V → List V → List V} {sp : Sp}
theorem in_core (M : MthK X.prog X.w X.K X.mg X.base k C "__eq__" 2 [] gV sp) (room : Room (k + 3) X.A) (noG : X.A.guards = some []) (on : OwnN X.K C)
    {pins : List (Addr × Obj)} {s : Shared} {σ : L2.St} {H : Hp} {a p : Addr} {xs : List V} {T : Bool → Hp → Prop} {B : Bool → Shared → Prop} (hB : ∀ b H' s', Inv X pins σ H' s' → T b H' → B b s')
    (I : Inv X pins σ H s) {dx : Addr} {fs : List (Str × V)} (ea : H a = some (.ins C dx fs)) (ep : H p = some (.lst xs)) (h : inW C sp gV p xs a xs H T) :
    wpAny (model X.prog X.w) X.A (contains (.ref p) (.ref a)) B X.xe s := by
  refine contains_G (N := xs.length) (fun i s' => ∃ H', Inv X pins σ H' s' ∧ H' p = some (.lst xs) ∧ (∃ dx fs, H' a = some (.ins C dx fs)) ∧ inW C sp gV p xs a (xs.drop i) H' T) ?_ ?_ ⟨H, I, ep, ⟨dx, fs, ea⟩, by rw [List.drop_zero]; exact h⟩
  · rintro i s' ⟨H1, I1, ep1, ⟨dx1, fs1, ea1⟩, h1⟩
    obtain ⟨z, its, n, r, e⟩ := I1.hok p _ ep1
    refine ⟨its.toArray, n, e, by rw [List.size_toArray, ← r.length], fun hi => ?_⟩
    have hi2 : i < xs.length := by rw [r.length]; simpa using hi
    obtain ⟨u, hu, ru⟩ := r.get (List.getElem?_eq_getElem hi2)
    have eu : its.toArray[i] = u := by
      have h1' : i < its.length := by simpa using hi
      rw [List.getElem?_eq_getElem h1'] at hu
      have := Option.some.inj hu
      simpa using this
    rw [eu]
    have ed : xs.drop i = xs[i] :: xs.drop (i + 1) := List.drop_eq_getElem_cons hi2
    rw [ed] at h1
    generalize xs[i] = y at h1 ru
    obtain ⟨ox, od, J⟩ := own_inst I1 ea1
    rcases h1 with ⟨rfl, q⟩ | ⟨rfl, q⟩ | ⟨b, dy, gs, rfl, nb, eb, q⟩
    · cases ru
      refine SeqAt.EqAt.same (A := X.A.in1) (s := s') (.ref a) X.prog X.w _ _ ?_
      rw [if_pos rfl]
      exact ⟨true, rfl, hB _ _ _ I1 q⟩
    · cases ru
      refine eqBool_nr rfl (fun _ _ e => nomatch e) ?_
      obtain ⟨f, hf, fn, go⟩ := run_own (E := X.xe) (A := X.A.in1) M ((room_in1 room).mono (by omega)) noG rfl I1 (us := [.ref a, .none]) (vs := [.ref a, .non]) (.cons rfl (.cons rfl .nil)) rfl q
      refine rc_none (room_in1 room).units0 I1.kIn J on.sn hf fn (wpAny_mono go ?_ fun _ _ z => z)
      rintro v s2 ⟨z, H2, I2, rz, c, rfl, ⟨ep2, ea2⟩, q2⟩
      cases rz
      refine ⟨c, rfl, ?_⟩
      cases c with
      | true => rw [if_pos rfl] at q2 ⊢; exact ⟨true, rfl, hB _ _ _ I2 q2⟩
      | false => rw [if_neg (by decide)] at q2 ⊢; exact ⟨H2, I2, ep2, ea2, q2⟩
    · cases ru
      refine GQ.eqBool_refG nb ?_
      obtain ⟨ob, odb, Jb⟩ := own_inst I1 eb
      obtain ⟨mm, fr⟩ := I1.fr
      obtain ⟨f, hf, fn, go⟩ := run_own (E := X.xe) (A := X.A.in1) M ((room_in1 room).mono (by omega)) noG rfl I1 (us := [.ref b, .ref a]) (vs := [.ref b, .ref a]) (.cons rfl (.cons rfl .nil)) rfl q
      refine PySem.W.cmp_K (op := .Eq) (tb := .ref C) (room_in1 room).units0 fr I1.ok.mod.kin Jb J.type (by simp [PySem.W.notFirst]) hf fn (wpAny_mono go ?_ fun _ _ z => z)
      rintro v s2 ⟨z, H2, I2, rz, c, rfl, ⟨ep2, ea2⟩, q2⟩
      cases rz
      refine ⟨c, rfl, ?_⟩
      cases c with
      | true => rw [if_pos rfl] at q2 ⊢; exact ⟨true, rfl, hB _ _ _ I2 q2⟩
      | false => rw [if_neg (by decide)] at q2 ⊢; exact ⟨H2, I2, ep2, ea2, q2⟩
  · rintro s' ⟨H1, I1, _, _, h1⟩
    rw [List.drop_length] at h1
    exact hB _ _ _ I1 h1
theorem z_inX (M : MthK X.prog X.w X.K X.mg X.base k C "__eq__" 2 [] gV sp) (room : Room (k + 3) X.A) (noG : X.A.guards = some []) (on : OwnN X.K C) : OpR X (compareOp .In) (rInX C sp gV id) := by
  intro pins s σ H x y v u Q I rx ry h
  obtain ⟨a, p, dx, fs, xs, rfl, rfl, ea, ep, q⟩ := h
  cases rx
  cases ry
  show wpAny _ X.A (do return .bool (← contains (.ref p) (.ref a))) (EP X pins σ Q) X.xe s
  exact wpAny_bind (in_core M room noG on (B := fun b s' => wpAny _ X.A (pure (Value.bool b)) (EP X pins σ Q) X.xe s') (fun b H' s' I' q' => wpAny_pure ⟨V.bl b, H', I', rfl, q'⟩) I ea ep q)
theorem z_niX (M : MthK X.prog X.w X.K X.mg X.base k C "__eq__" 2 [] gV sp) (room : Room (k + 3) X.A) (noG : X.A.guards = some []) (on : OwnN X.K C) : OpR X (compareOp .NotIn) (rInX C sp gV not) := by
  intro pins s σ H x y v u Q I rx ry h
  obtain ⟨a, p, dx, fs, xs, rfl, rfl, ea, ep, q⟩ := h
  cases rx
  cases ry
  show wpAny _ X.A (do return .bool (!(← contains (.ref p) (.ref a)))) (EP X pins σ Q) X.xe s
  exact wpAny_bind (in_core M room noG on (B := fun b s' => wpAny _ X.A (pure (Value.bool (!b))) (EP X pins σ Q) X.xe s') (fun b H' s' I' q' => wpAny_pure ⟨V.bl (!b), H', I', rfl, q'⟩) I ea ep q)
end
end Z
/-! O, part R: rows beside anything else -/
namespace Z
open PySem PySem.Spec PyProof.Rows L2
theorem k_eqX {X : Cx} {K : PySem.W.Frag} {k : Nat} {C : Addr} {gV : List V → List V → List V} {sp : Sp} (M : MthK X.prog X.w X.K X.mg X.base k C "__eq__" 2 [] gV sp) (room : Room (k + 3) X.A) (noG : X.A.guards = some []) (oc : OwnC X.K C) (e : X.K = K := by rfl) : OpR X (compareOp .Eq) (rEqX K C sp gV) := e ▸ z_eqX M room noG oc
theorem k_neX {X : Cx} {K : PySem.W.Frag} {k : Nat} {C : Addr} {gV : List V → List V → List V} {sp : Sp} (M : MthK X.prog X.w X.K X.mg X.base k C "__eq__" 2 [] gV sp) (room : Room (k + 3) X.A) (noG : X.A.guards = some []) (oc : OwnC X.K C) (e : X.K = K := by rfl) : OpR X (compareOp .NotEq) (rNeX K C sp gV) := e ▸ z_neX M room noG oc
section
variable {K : PySem.W.Frag} {σ : L2.St} {H : Hp} {Q : VK} {to : TE} {a : Addr} {xs : List V} {L M : List Asn}
theorem bmC_ {s : String} {r : V → List V → Hp → VK → Prop} (h : to σ H fun x H1 => tyV K s x H1 ∧ r x [] H1 Q) : tBM0 K s r to σ H Q := h
theorem clear_S (s : S L H) (p : Rep (pts a (.lst xs)) (pts a (.lst [])) L M) (h : ∀ H', S M H' → Q .non H') : tyV K "list" (.ref a) H ∧ rClear (.ref a) [] H Q := by
  obtain ⟨O, p1, p2⟩ := p.picks
  have e := s.at_ p1
  exact ⟨.inl ⟨rfl, _, SqL.of e⟩, a, xs, rfl, rfl, e, h _ (s.set p rfl upd_same But.upd)⟩
end
theorem Pick.behind {A B : Asn} {L M N : List Asn} (p : Pick A L M) (q : Pick B M N) : ∃ M', Pick B L M' := by
  induction p generalizing N with
  | head => exact ⟨_, .tail q⟩
  | tail p ih =>
    cases q with
    | head => exact ⟨_, .head⟩
    | tail q =>
      obtain ⟨M', h⟩ := ih q
      exact ⟨_, .tail h⟩
/-- no instance -/
inductive Els (H : Hp) : V → Prop
  | non : Els H .non
  | bl (b : Bool) : Els H (.bl b)
  | int (i : Int) : Els H (.int i)
  | str (x : List Nat) : Els H (T x)
  | lst {a : Addr} {xs : List V} (e : H a = some (.lst xs)) : Els H (.ref a)
  | tup {a : Addr} {xs : List V} (e : H a = some (.tup xs)) : Els H (.ref a)
theorem Els.up {H H' : Hp} {v : V} (h : Els H v) (e : Ex H H') : Els H' v := by
  cases h with
  | non => exact .non
  | bl b => exact .bl b
  | int i => exact .int i
  | str x => exact .str x
  | lst q => exact .lst (e _ _ q)
  | tup q => exact .tup (e _ _ q)
theorem Els.oth {K : PySem.W.Frag} {C : Addr} {H : Hp} {v : V} (h : Els H v) : Oth K C H v := by
  cases h with
  | non => exact .non
  | bl b => exact .bl b
  | int i => exact .int i
  | str x => exact .str _
  | lst q => exact .lst q
  | tup q => exact .tup q
theorem isEls_ {K : PySem.W.Frag} {C : Addr} {H : Hp} {Q : VK} {v : V} (o : OwnC K C) (h : Els H v) (k : Q (.bl false) H) : rIsZ K [v, .ref C] H Q := by
  cases h with
  | non => exact isOnon_ o k
  | bl b => exact isObl_ o k
  | int i => exact isOint_ o k
  | str x => exact isOstr_ o k
  | lst e => exact isOlst_ e o k
  | tup e => exact isOtup_ e o k
end Z
namespace My
open PySem PySem.Spec PyProof.Rows L2 Z
theorem _root_.Z.S.rowIns {C r : Addr} {sz : Nat} {l : List Nat} {L M : List Asn} {H : Hp} (s : S L H) (p : Pick (ARow C r sz l) L M) : ∃ dx fs, H r = some (.ins C dx fs) := by
  obtain ⟨fp, bks, op, R, _⟩ := s.rowPick p
  obtain ⟨dx, a, b, c, ts, hfp, e1, _⟩ := R.ex
  exact ⟨_, _, e1⟩
theorem _root_.Z.S.rowNe {C r r2 : Addr} {sz sz2 : Nat} {l l2 : List Nat} {L M N : List Asn} {H : Hp} (s : S L H) (p : Pick (ARow C r sz l) L M) (q : Pick (ARow C r2 sz2 l2) M N) : r ≠ r2 := fun e => by
  subst e
  obtain ⟨h, g, ⟨bks, op, ⟨⟨fp, R⟩, t⟩, e⟩, ⟨bks', op', ⟨⟨fp', R'⟩, t'⟩, e'⟩, c, d, f⟩ := s.apart p q
  obtain ⟨dx, a, b, c, ts, hfp, e1, _⟩ := R.ex
  obtain ⟨dx', a', b', c', ts', hfp', e1', _⟩ := R'.ex
  have := f _ _ e1 rfl
  rw [e1'] at this
  cases this
section
variable {K : PySem.W.Frag} {C r r2 : Addr} {sz sz2 : Nat} {l l2 : List Nat} {L M N : List Asn} {H : Hp} {sp : Sp} {gV : List V → List V → List V} {Q : VK} {y : V}
theorem eqXS_ (s : S L H) (p : Pick (ARow C r sz l) L M) (p2 : Pick (ARow C r2 sz2 l2) L N) (h : zSp sp (gV [.ref r, .ref r2] []) H (exB Q) (fun _ _ _ => False)) : rEqX K C sp gV (.ref r) (.ref r2) H Q := by
  obtain ⟨dx, fs, e⟩ := s.rowIns p
  obtain ⟨dx2, fs2, e2⟩ := s.rowIns p2
  exact ⟨r, dx, fs, rfl, e, .own e2, h⟩
theorem neXS_ (s : S L H) (p : Pick (ARow C r sz l) L M) (p2 : Pick (ARow C r2 sz2 l2) L N) (h : zSp sp (gV [.ref r, .ref r2] []) H (exN Q) (fun _ _ _ => False)) : rNeX K C sp gV (.ref r) (.ref r2) H Q := by
  obtain ⟨dx, fs, e⟩ := s.rowIns p
  obtain ⟨dx2, fs2, e2⟩ := s.rowIns p2
  exact ⟨r, dx, fs, rfl, e, .own e2, h⟩
theorem eqXE_ (s : S L H) (p : Pick (ARow C r sz l) L M) (o : Els H y) (h : zSp sp (gV [.ref r, y] []) H (exB Q) (fun _ _ _ => False)) : rEqX K C sp gV (.ref r) y H Q := by
  obtain ⟨dx, fs, e⟩ := s.rowIns p
  exact ⟨r, dx, fs, rfl, e, o.oth, h⟩
end
end My
namespace My
open PySem PySem.Spec PyProof.Rows L2 Z
theorem bt_IndexError : bootBuiltins "IndexError" = some (.type "IndexError") := by decide +kernel
theorem bt_abs : bootBuiltins "abs" = some (.builtin "abs") := by decide +kernel
theorem bt_any : bootBuiltins "any" = some (.builtin "any") := by decide +kernel
theorem bt_bool : bootBuiltins "bool" = some (.type "bool") := by decide +kernel
theorem bt_divmod : bootBuiltins "divmod" = some (.builtin "divmod") := by decide +kernel
theorem bt_enumerate : bootBuiltins "enumerate" = some (.type "enumerate") := by decide +kernel
theorem bt_int : bootBuiltins "int" = some (.type "int") := by decide +kernel
theorem bt_isinstance : bootBuiltins "isinstance" = some (.builtin "isinstance") := by decide +kernel
theorem bt_len : bootBuiltins "len" = some (.builtin "len") := by decide +kernel
theorem bt_list : bootBuiltins "list" = some (.type "list") := by decide +kernel
theorem bt_max : bootBuiltins "max" = some (.builtin "max") := by decide +kernel
theorem bt_min : bootBuiltins "min" = some (.builtin "min") := by decide +kernel
theorem bt_range : bootBuiltins "range" = some (.type "range") := by decide +kernel
theorem bt_repr : bootBuiltins "repr" = some (.builtin "repr") := by decide +kernel
theorem bt_str : bootBuiltins "str" = some (.type "str") := by decide +kernel
theorem bt_sum : bootBuiltins "sum" = some (.builtin "sum") := by decide +kernel
theorem bt_tuple : bootBuiltins "tuple" = some (.type "tuple") := by decide +kernel
theorem bt_zip : bootBuiltins "zip" = some (.type "zip") := by decide +kernel
end My
namespace My
open PySem PySem.Spec PyProof.Rows L2 Z
def topS (i : Nat) : Stmt := PySem.Challenge.pw_countedbits_k06_rows_made.main.body.getD i (.Pass ⟨0, 0, 0, 0⟩)
def clsS (s : Stmt) (j : Nat) : Stmt := L2.inClass s j
/-- what the top leaves under its names -/
structure G (mg : Str → Option Value) : Prop where
  b_IndexError : mg "IndexError" = none
  b_abs : mg "abs" = none
  b_any : mg "any" = none
  b_bool : mg "bool" = none
  b_divmod : mg "divmod" = none
  b_enumerate : mg "enumerate" = none
  b_int : mg "int" = none
  b_isinstance : mg "isinstance" = none
  b_len : mg "len" = none
  b_list : mg "list" = none
  b_max : mg "max" = none
  b_min : mg "min" = none
  b_range : mg "range" = none
  b_repr : mg "repr" = none
  b_str : mg "str" = none
  b_sum : mg "sum" = none
  b_tuple : mg "tuple" = none
  b_zip : mg "zip" = none
  c_MOST_BITS_codes : ∃ t, mg "MOST_BITS_codes" = some (.int 64 t)
  c_BITS : ∃ t, mg "BITS" = some (.str ⟨([48, 49] : List Nat).toArray⟩ t)
  c_MOST_BITS_rows : ∃ t, mg "MOST_BITS_rows" = some (.int 1000 t)
  c_SIZE : ∃ t, mg "SIZE" = some (.int 16 t)
abbrev st_wall : Stmt := topS 0
abbrev nm_wall : List Str := ["k"]
theorem sc_wall : FnScope nm_wall ["k"] (defScope st_wall) := ⟨rfl, rfl, rfl, by decide +kernel, rfl, by decide +kernel, by decide +kernel⟩
abbrev st_NoCode_init : Stmt := clsS (topS 3) 0
abbrev nm_NoCode_init : List Str := ["self", "at"]
theorem sc_NoCode_init : FnScope nm_NoCode_init ["self", "at"] (defScope st_NoCode_init) := ⟨rfl, rfl, rfl, by decide +kernel, rfl, by decide +kernel, by decide +kernel⟩
abbrev st_NoBits_init : Stmt := clsS (topS 4) 0
abbrev nm_NoBits_init : List Str := ["self", "at"]
theorem sc_NoBits_init : FnScope nm_NoBits_init ["self", "at"] (defScope st_NoBits_init) := ⟨rfl, rfl, rfl, by decide +kernel, rfl, by decide +kernel, by decide +kernel⟩
abbrev st_NoPlace_init : Stmt := clsS (topS 5) 0
abbrev nm_NoPlace_init : List Str := ["self", "at"]
theorem sc_NoPlace_init : FnScope nm_NoPlace_init ["self", "at"] (defScope st_NoPlace_init) := ⟨rfl, rfl, rfl, by decide +kernel, rfl, by decide +kernel, by decide +kernel⟩
abbrev st_figures_of : Stmt := topS 9
abbrev nm_figures_of : List Str := ["number", "found", "figure"]
theorem sc_figures_of : FnScope nm_figures_of ["number"] (defScope st_figures_of) := ⟨rfl, rfl, rfl, by decide +kernel, rfl, by decide +kernel, by decide +kernel⟩
abbrev st_number_code : Stmt := topS 10
abbrev nm_number_code : List Str := ["number", "figures"]
theorem sc_number_code : FnScope nm_number_code ["number"] (defScope st_number_code) := ⟨rfl, rfl, rfl, by decide +kernel, rfl, by decide +kernel, by decide +kernel⟩
abbrev st_runs_of : Stmt := topS 11
abbrev nm_runs_of : List Str := ["bits", "found", "last", "bit"]
theorem sc_runs_of : FnScope nm_runs_of ["bits"] (defScope st_runs_of) := ⟨rfl, rfl, rfl, by decide +kernel, rfl, by decide +kernel, by decide +kernel⟩
abbrev st_code_plain : Stmt := topS 12
abbrev nm_code_plain : List Str := ["bits"]
theorem sc_code_plain : FnScope nm_code_plain ["bits"] (defScope st_code_plain) := ⟨rfl, rfl, rfl, by decide +kernel, rfl, by decide +kernel, by decide +kernel⟩
abbrev st_code_runs : Stmt := topS 13
abbrev nm_code_runs : List Str := ["bits", "first", "many"]
theorem sc_code_runs : FnScope nm_code_runs ["bits"] (defScope st_code_runs) := ⟨rfl, rfl, rfl, by decide +kernel, rfl, by decide +kernel, by decide +kernel⟩
abbrev st_code_of : Stmt := topS 14
abbrev nm_code_of : List Str := ["bits", "plain", "runs"]
theorem sc_code_of : FnScope nm_code_of ["bits"] (defScope st_code_of) := ⟨rfl, rfl, rfl, by decide +kernel, rfl, by decide +kernel, by decide +kernel⟩
abbrev st_read_plain : Stmt := topS 15
abbrev nm_read_plain : List Str := ["text", "at", "sign"]
theorem sc_read_plain : FnScope nm_read_plain ["text"] (defScope st_read_plain) := ⟨rfl, rfl, rfl, by decide +kernel, rfl, by decide +kernel, by decide +kernel⟩
abbrev st_read_number : Stmt := topS 16
abbrev nm_read_number : List Str := ["text", "at", "room", "least", "number", "sign"]
theorem sc_read_number : FnScope nm_read_number ["text", "at", "room"] (defScope st_read_number) := ⟨rfl, rfl, rfl, by decide +kernel, rfl, by decide +kernel, by decide +kernel⟩
abbrev st_other_bit : Stmt := topS 17
abbrev nm_other_bit : List Str := ["bit"]
theorem sc_other_bit : FnScope nm_other_bit ["bit"] (defScope st_other_bit) := ⟨rfl, rfl, rfl, by decide +kernel, rfl, by decide +kernel, by decide +kernel⟩
abbrev st_read_runs : Stmt := topS 18
abbrev nm_read_runs : List Str := ["text", "bit", "found", "at", "many"]
theorem sc_read_runs : FnScope nm_read_runs ["text"] (defScope st_read_runs) := ⟨rfl, rfl, rfl, by decide +kernel, rfl, by decide +kernel, by decide +kernel⟩
abbrev st_read_code : Stmt := topS 20
abbrev nm_read_code : List Str := ["text", "reader"]
theorem sc_read_code : FnScope nm_read_code ["text"] (defScope st_read_code) := ⟨rfl, rfl, rfl, by decide +kernel, rfl, by decide +kernel, by decide +kernel⟩
abbrev st_head_of : Stmt := topS 21
abbrev nm_head_of : List Str := ["bits", "depth", "depths", "bit"]
theorem sc_head_of : FnScope nm_head_of ["bits"] (defScope st_head_of) := ⟨rfl, rfl, rfl, by decide +kernel, rfl, by decide +kernel, by decide +kernel⟩
abbrev st_look_place : Stmt := topS 23
abbrev nm_look_place : List Str := ["at", "most", "least"]
theorem sc_look_place : FnScope nm_look_place ["at", "most", "least"] (defScope st_look_place) := ⟨rfl, rfl, rfl, by decide +kernel, rfl, by decide +kernel, by decide +kernel⟩
abbrev st_look_bits : Stmt := topS 27
abbrev nm_look_bits : List Str := ["thing", "at", "sign"]
theorem sc_look_bits : FnScope nm_look_bits ["thing"] (defScope st_look_bits) := ⟨rfl, rfl, rfl, by decide +kernel, rfl, by decide +kernel, by decide +kernel⟩
abbrev st_Row_init : Stmt := clsS (topS 28) 0
abbrev nm_Row_init : List Str := ["self", "bits", "size"]
theorem sc_Row_init : FnScope nm_Row_init ["self", "bits", "size"] (defScope st_Row_init) := ⟨rfl, rfl, rfl, by decide +kernel, rfl, by decide +kernel, by decide +kernel⟩
abbrev st_Row_fill : Stmt := clsS (topS 28) 1
abbrev nm_Row_fill : List Str := ["self", "first", "last", "bits", "parts", "at", "part"]
theorem sc_Row_fill : FnScope nm_Row_fill ["self", "first", "last", "bits"] (defScope st_Row_fill) := ⟨rfl, rfl, rfl, by decide +kernel, rfl, by decide +kernel, by decide +kernel⟩
abbrev st_Row_bits_of : Stmt := clsS (topS 28) 2
abbrev nm_Row_bits_of : List Str := ["self", "number"]
theorem sc_Row_bits_of : FnScope nm_Row_bits_of ["self", "number"] (defScope st_Row_bits_of) := ⟨rfl, rfl, rfl, by decide +kernel, rfl, by decide +kernel, by decide +kernel⟩
abbrev st_Row_open_block : Stmt := clsS (topS 28) 3
abbrev nm_Row_open_block : List Str := ["self", "number"]
theorem sc_Row_open_block : FnScope nm_Row_open_block ["self", "number"] (defScope st_Row_open_block) := ⟨rfl, rfl, rfl, by decide +kernel, rfl, by decide +kernel, by decide +kernel⟩
abbrev st_Row_bits_in : Stmt := clsS (topS 28) 4
abbrev nm_Row_bits_in : List Str := ["self", "number", "many", "others"]
theorem sc_Row_bits_in : FnScope nm_Row_bits_in ["self", "number"] (defScope st_Row_bits_in) := ⟨rfl, rfl, rfl, by decide +kernel, rfl, by decide +kernel, by decide +kernel⟩
abbrev st_Row_find : Stmt := clsS (topS 28) 5
abbrev nm_Row_find : List Str := ["self", "at", "ahead", "number"]
theorem sc_Row_find : FnScope nm_Row_find ["self", "at"] (defScope st_Row_find) := ⟨rfl, rfl, rfl, by decide +kernel, rfl, by decide +kernel, by decide +kernel⟩
abbrev st_Row_heads : Stmt := clsS (topS 28) 6
abbrev nm_Row_heads : List Str := ["self"]
theorem sc_Row_heads : FnScope nm_Row_heads ["self"] (defScope st_Row_heads) := ⟨rfl, rfl, rfl, by decide +kernel, rfl, by decide +kernel, by decide +kernel⟩
abbrev st_Row_codes : Stmt := clsS (topS 28) 7
abbrev nm_Row_codes : List Str := ["self"]
theorem sc_Row_codes : FnScope nm_Row_codes ["self"] (defScope st_Row_codes) := ⟨rfl, rfl, rfl, by decide +kernel, rfl, by decide +kernel, by decide +kernel⟩
abbrev st_Row_room : Stmt := clsS (topS 28) 8
abbrev nm_Row_room : List Str := ["self", "code"]
theorem sc_Row_room : FnScope nm_Row_room ["self"] (defScope st_Row_room) := ⟨rfl, rfl, rfl, by decide +kernel, rfl, by decide +kernel, by decide +kernel⟩
abbrev st_Row_opened : Stmt := clsS (topS 28) 9
abbrev nm_Row_opened : List Str := ["self"]
theorem sc_Row_opened : FnScope nm_Row_opened ["self"] (defScope st_Row_opened) := ⟨rfl, rfl, rfl, by decide +kernel, rfl, by decide +kernel, by decide +kernel⟩
abbrev st_Row_bit : Stmt := clsS (topS 28) 10
abbrev nm_Row_bit : List Str := ["self", "at", "number", "ahead"]
theorem sc_Row_bit : FnScope nm_Row_bit ["self", "at"] (defScope st_Row_bit) := ⟨rfl, rfl, rfl, by decide +kernel, rfl, by decide +kernel, by decide +kernel⟩
abbrev st_Row_ahead : Stmt := clsS (topS 28) 11
abbrev nm_Row_ahead : List Str := ["self", "bit", "upto", "number", "ahead", "ones", "many", "least"]
theorem sc_Row_ahead : FnScope nm_Row_ahead ["self", "bit", "upto"] (defScope st_Row_ahead) := ⟨rfl, rfl, rfl, by decide +kernel, rfl, by decide +kernel, by decide +kernel⟩
abbrev st_Row_nth : Stmt := clsS (topS 28) 12
abbrev nm_Row_nth : List Str := ["self", "bit", "k"]
theorem sc_Row_nth : FnScope nm_Row_nth ["self", "bit", "k"] (defScope st_Row_nth) := ⟨rfl, rfl, rfl, by decide +kernel, rfl, by decide +kernel, by decide +kernel⟩
abbrev st_Row_nth_in : Stmt := clsS (topS 28) 13
abbrev nm_Row_nth_in : List Str := ["self", "number", "bit", "k"]
theorem sc_Row_nth_in : FnScope nm_Row_nth_in ["self", "number", "bit", "k"] (defScope st_Row_nth_in) := ⟨rfl, rfl, rfl, by decide +kernel, rfl, by decide +kernel, by decide +kernel⟩
abbrev st_Row_depth : Stmt := clsS (topS 28) 14
abbrev nm_Row_depth : List Str := ["self", "upto"]
theorem sc_Row_depth : FnScope nm_Row_depth ["self", "upto"] (defScope st_Row_depth) := ⟨rfl, rfl, rfl, by decide +kernel, rfl, by decide +kernel, by decide +kernel⟩
abbrev st_Row_put : Stmt := clsS (topS 28) 15
abbrev nm_Row_put : List Str := ["self", "at", "bits"]
theorem sc_Row_put : FnScope nm_Row_put ["self", "at", "bits"] (defScope st_Row_put) := ⟨rfl, rfl, rfl, by decide +kernel, rfl, by decide +kernel, by decide +kernel⟩
abbrev st_Row_cut : Stmt := clsS (topS 28) 16
abbrev nm_Row_cut : List Str := ["self", "at", "many"]
theorem sc_Row_cut : FnScope nm_Row_cut ["self", "at", "many"] (defScope st_Row_cut) := ⟨rfl, rfl, rfl, by decide +kernel, rfl, by decide +kernel, by decide +kernel⟩
abbrev st_Row_turn : Stmt := clsS (topS 28) 17
abbrev nm_Row_turn : List Str := ["self", "at"]
theorem sc_Row_turn : FnScope nm_Row_turn ["self", "at"] (defScope st_Row_turn) := ⟨rfl, rfl, rfl, by decide +kernel, rfl, by decide +kernel, by decide +kernel⟩
abbrev st_Row_change : Stmt := clsS (topS 28) 18
abbrev nm_Row_change : List Str := ["self", "first", "last", "bits"]
theorem sc_Row_change : FnScope nm_Row_change ["self", "first", "last", "bits"] (defScope st_Row_change) := ⟨rfl, rfl, rfl, by decide +kernel, rfl, by decide +kernel, by decide +kernel⟩
abbrev st_Row_count_bits : Stmt := clsS (topS 28) 19
abbrev nm_Row_count_bits : List Str := ["self", "many", "ones", "least"]
theorem sc_Row_count_bits : FnScope nm_Row_count_bits ["self"] (defScope st_Row_count_bits) := ⟨rfl, rfl, rfl, by decide +kernel, rfl, by decide +kernel, by decide +kernel⟩
abbrev st_Row_bits_now : Stmt := clsS (topS 28) 20
abbrev nm_Row_bits_now : List Str := ["self"]
theorem sc_Row_bits_now : FnScope nm_Row_bits_now ["self"] (defScope st_Row_bits_now) := ⟨rfl, rfl, rfl, by decide +kernel, rfl, by decide +kernel, by decide +kernel⟩
abbrev st_Row_told : Stmt := clsS (topS 28) 21
abbrev nm_Row_told : List Str := ["self", "code"]
theorem sc_Row_told : FnScope nm_Row_told ["self"] (defScope st_Row_told) := ⟨rfl, rfl, rfl, by decide +kernel, rfl, by decide +kernel, by decide +kernel⟩
abbrev st_Row_len : Stmt := clsS (topS 28) 22
abbrev nm_Row_len : List Str := ["self"]
theorem sc_Row_len : FnScope nm_Row_len ["self"] (defScope st_Row_len) := ⟨rfl, rfl, rfl, by decide +kernel, rfl, by decide +kernel, by decide +kernel⟩
abbrev st_Row_str : Stmt := clsS (topS 28) 23
abbrev nm_Row_str : List Str := ["self"]
theorem sc_Row_str : FnScope nm_Row_str ["self"] (defScope st_Row_str) := ⟨rfl, rfl, rfl, by decide +kernel, rfl, by decide +kernel, by decide +kernel⟩
abbrev st_Row_repr : Stmt := clsS (topS 28) 24
abbrev nm_Row_repr : List Str := ["self"]
theorem sc_Row_repr : FnScope nm_Row_repr ["self"] (defScope st_Row_repr) := ⟨rfl, rfl, rfl, by decide +kernel, rfl, by decide +kernel, by decide +kernel⟩
abbrev st_Row_eq : Stmt := clsS (topS 28) 25
abbrev nm_Row_eq : List Str := ["self", "other"]
theorem sc_Row_eq : FnScope nm_Row_eq ["self", "other"] (defScope st_Row_eq) := ⟨rfl, rfl, rfl, by decide +kernel, rfl, by decide +kernel, by decide +kernel⟩
abbrev st_law_urn : Stmt := topS 30
abbrev nm_law_urn : List Str := ["_law_script", "_law_spot", "_law_cell", "_law_great"]
theorem sc_law_urn : FnScope nm_law_urn ["_law_script", "_law_spot"] (defScope st_law_urn) := ⟨rfl, rfl, rfl, by decide +kernel, rfl, by decide +kernel, by decide +kernel⟩
abbrev st_law_draw : Stmt := topS 31
abbrev nm_law_draw : List Str := ["_law_urn_here", "_law_wide_here", "_law_digit", "_law_primes", "_law_here", "_law_base", "_law_mixed"]
theorem sc_law_draw : FnScope nm_law_draw ["_law_urn_here", "_law_wide_here"] (defScope st_law_draw) := ⟨rfl, rfl, rfl, by decide +kernel, rfl, by decide +kernel, by decide +kernel⟩
abbrev st_law_whole : Stmt := topS 32
abbrev nm_law_whole : List Str := ["_law_thing"]
theorem sc_law_whole : FnScope nm_law_whole ["_law_thing"] (defScope st_law_whole) := ⟨rfl, rfl, rfl, by decide +kernel, rfl, by decide +kernel, by decide +kernel⟩
abbrev st_law_bits : Stmt := topS 33
abbrev nm_law_bits : List Str := ["_law_urn_here", "_law_most", "_law_amount", "_law_way", "_law_sign", "_law_found"]
theorem sc_law_bits : FnScope nm_law_bits ["_law_urn_here", "_law_most"] (defScope st_law_bits) := ⟨rfl, rfl, rfl, by decide +kernel, rfl, by decide +kernel, by decide +kernel⟩
abbrev st_law_runs : Stmt := topS 34
abbrev nm_law_runs : List Str := ["_law_row_text", "_law_found", "_law_here", "_law_sign"]
theorem sc_law_runs : FnScope nm_law_runs ["_law_row_text"] (defScope st_law_runs) := ⟨rfl, rfl, rfl, by decide +kernel, rfl, by decide +kernel, by decide +kernel⟩
abbrev st_law_number_code : Stmt := topS 35
abbrev nm_law_number_code : List Str := ["_law_number", "_law_found"]
theorem sc_law_number_code : FnScope nm_law_number_code ["_law_number"] (defScope st_law_number_code) := ⟨rfl, rfl, rfl, by decide +kernel, rfl, by decide +kernel, by decide +kernel⟩
abbrev st_law_codes : Stmt := topS 36
abbrev nm_law_codes : List Str := ["_law_row_text", "_law_parts", "_law_number"]
theorem sc_law_codes : FnScope nm_law_codes ["_law_row_text"] (defScope st_law_codes) := ⟨rfl, rfl, rfl, by decide +kernel, rfl, by decide +kernel, by decide +kernel⟩
abbrev st_law_code : Stmt := topS 37
abbrev nm_law_code : List Str := ["_law_row_text", "_law_plain", "_law_runs_here"]
theorem sc_law_code : FnScope nm_law_code ["_law_row_text"] (defScope st_law_code) := ⟨rfl, rfl, rfl, by decide +kernel, rfl, by decide +kernel, by decide +kernel⟩
abbrev st_law_head : Stmt := topS 38
abbrev nm_law_head : List Str := ["_law_row_text", "_law_depths", "_law_here"]
theorem sc_law_head : FnScope nm_law_head ["_law_row_text"] (defScope st_law_head) := ⟨rfl, rfl, rfl, by decide +kernel, rfl, by decide +kernel, by decide +kernel⟩
abbrev st_law_wide : Stmt := topS 39
abbrev nm_law_wide : List Str := ["_law_urn_here"]
theorem sc_law_wide : FnScope nm_law_wide ["_law_urn_here"] (defScope st_law_wide) := ⟨rfl, rfl, rfl, by decide +kernel, rfl, by decide +kernel, by decide +kernel⟩
abbrev st_law_blocks_right : Stmt := topS 40
abbrev nm_law_blocks_right : List Str := ["_law_row", "_law_row_text", "_law_wide_here", "_law_heads", "_law_codes_here", "_law_here", "_law_due", "_law_before", "_law_one", "_law_written", "_law_part"]
theorem sc_law_blocks_right : FnScope nm_law_blocks_right ["_law_row", "_law_row_text", "_law_wide_here"] (defScope st_law_blocks_right) := ⟨rfl, rfl, rfl, by decide +kernel, rfl, by decide +kernel, by decide +kernel⟩
abbrev st_law_row_right : Stmt := topS 41
abbrev nm_law_row_right : List Str := ["_law_row", "_law_row_text", "_law_wide_here"]
theorem sc_law_row_right : FnScope nm_law_row_right ["_law_row", "_law_row_text", "_law_wide_here"] (defScope st_law_row_right) := ⟨rfl, rfl, rfl, by decide +kernel, rfl, by decide +kernel, by decide +kernel⟩
abbrev st_law_alike : Stmt := topS 42
abbrev nm_law_alike : List Str := ["_law_one", "_law_other", "_law_due"]
theorem sc_law_alike : FnScope nm_law_alike ["_law_one", "_law_other", "_law_due"] (defScope st_law_alike) := ⟨rfl, rfl, rfl, by decide +kernel, rfl, by decide +kernel, by decide +kernel⟩
abbrev st_law : Stmt := topS 43
abbrev nm_law : List Str := ["_law_script", "_law_spot", "_law_urn_here", "_law_bits_here", "_law_wide_here", "_law_row", "_law_again", "_law_bare", "_law_other_text", "_law_beside", "_law_things", "_law_thing"]
theorem sc_law : FnScope nm_law ["_law_script"] (defScope st_law) := ⟨rfl, rfl, rfl, by decide +kernel, rfl, by decide +kernel, by decide +kernel⟩
theorem lit_0 : (Str.ofString "no code") = (⟨([110, 111, 32, 99, 111, 100, 101] : List Nat).toArray⟩ : Str) := by decide +kernel
theorem lit_1 : (Str.ofString "no bits") = (⟨([110, 111, 32, 98, 105, 116, 115] : List Nat).toArray⟩ : Str) := by decide +kernel
theorem lit_2 : (Str.ofString "no place") = (⟨([110, 111, 32, 112, 108, 97, 99, 101] : List Nat).toArray⟩ : Str) := by decide +kernel
theorem lit_3 : (Str.ofString "") = (⟨([] : List Nat).toArray⟩ : Str) := by decide +kernel
theorem lit_4 : (Str.ofString "0") = (⟨([48] : List Nat).toArray⟩ : Str) := by decide +kernel
theorem lit_5 : (Str.ofString "p") = (⟨([112] : List Nat).toArray⟩ : Str) := by decide +kernel
theorem lit_6 : (Str.ofString "r") = (⟨([114] : List Nat).toArray⟩ : Str) := by decide +kernel
theorem lit_7 : (Str.ofString "1") = (⟨([49] : List Nat).toArray⟩ : Str) := by decide +kernel
theorem lit_8 : (Str.ofString ")") = (⟨([41] : List Nat).toArray⟩ : Str) := by decide +kernel
theorem lit_9 : (Str.ofString ", ") = (⟨([44, 32] : List Nat).toArray⟩ : Str) := by decide +kernel
theorem lit_10 : (Str.ofString "Row(") = (⟨([82, 111, 119, 40] : List Nat).toArray⟩ : Str) := by decide +kernel
theorem lit_11 : (Str.ofString "01") = (⟨([48, 49] : List Nat).toArray⟩ : Str) := by decide +kernel
theorem lit_12 : (Str.ofString "Row(, 16)") = (⟨([82, 111, 119, 40, 44, 32, 49, 54, 41] : List Nat).toArray⟩ : Str) := by decide +kernel
structure FC_Row (K : PySem.W.Frag) (C : Addr) : Prop where
  cls : Cls K C
  size : NoAttr K C "size"
  head_rows : NoAttr K C "head_rows"
  code_rows : NoAttr K C "code_rows"
  opens : NoAttr K C "opens"
  held_signs : NoAttr K C "held_signs"
def sp_figures_of : Sp := fun vs H Q _ => ∃ i : Int, vs = [.int i] ∧ 0 ≤ i ∧ i < 1048576 ∧ ∀ H', Ex H H' → Q (T (figs i.toNat)) H'
theorem call_figures_of {i : Int} {H : Hp} {Q : VK} {E : XK} (h1 : 0 ≤ i) (h2 : i < 1048576) (k : ∀ H', Ex H H' → Q (T (figs i.toNat)) H') : sp_figures_of [.int i] H Q E := ⟨i, rfl, h1, h2, k⟩
def sp_number_code : Sp := fun vs H Q _ => ∃ i : Int, vs = [.int i] ∧ 0 < i ∧ i < 1048576 ∧ ∀ H', Ex H H' → Q (T (ncode i.toNat)) H'
theorem call_number_code {i : Int} {H : Hp} {Q : VK} {E : XK} (h1 : 0 < i) (h2 : i < 1048576) (k : ∀ H', Ex H H' → Q (T (ncode i.toNat)) H') : sp_number_code [.int i] H Q E := ⟨i, rfl, h1, h2, k⟩
def sp_runs_of : Sp := fun vs H Q _ => ∃ l : List Nat, vs = [T l] ∧ l.length ≤ 1000 ∧ ∀ p H', H p = none → Ex H H' → H' p = some (.lst ((runs l).map fun n => V.int (n : Nat))) → Q (.ref p) H'
theorem call_runs_of {l : List Nat} {H : Hp} {Q : VK} {E : XK} (h1 : l.length ≤ 1000) (k : ∀ p H', H p = none → Ex H H' → H' p = some (.lst ((runs l).map fun n => V.int (n : Nat))) → Q (.ref p) H') : sp_runs_of [T l] H Q E := ⟨l, rfl, h1, k⟩
def sp_code_plain : Sp := fun vs H Q _ => ∃ l : List Nat, vs = [T l] ∧ l.length ≤ 1000 ∧ ∀ H', Ex H H' → Q (T (112 :: l)) H'
theorem call_code_plain {l : List Nat} {H : Hp} {Q : VK} {E : XK} (h1 : l.length ≤ 1000) (k : ∀ H', Ex H H' → Q (T (112 :: l)) H') : sp_code_plain [T l] H Q E := ⟨l, rfl, h1, k⟩
def sp_code_runs : Sp := fun vs H Q _ => ∃ l : List Nat, vs = [T l] ∧ 0 < l.length ∧ l.length ≤ 1000 ∧ ∀ H', Ex H H' → Q (T (rcode l)) H'
theorem call_code_runs {l : List Nat} {H : Hp} {Q : VK} {E : XK} (h0 : 0 < l.length) (h1 : l.length ≤ 1000) (k : ∀ H', Ex H H' → Q (T (rcode l)) H') : sp_code_runs [T l] H Q E := ⟨l, rfl, h0, h1, k⟩
def sp_code_of : Sp := fun vs H Q _ => ∃ l : List Nat, vs = [T l] ∧ 0 < l.length ∧ l.length ≤ 1000 ∧ ∀ H', Ex H H' → Q (T (scode l)) H'
theorem call_code_of {l : List Nat} {H : Hp} {Q : VK} {E : XK} (h0 : 0 < l.length) (h1 : l.length ≤ 1000) (k : ∀ H', Ex H H' → Q (T (scode l)) H') : sp_code_of [T l] H Q E := ⟨l, rfl, h0, h1, k⟩
def sp_read_plain : Sp := fun vs H Q _ => ∃ l : List Nat, vs = [T (112 :: l)] ∧ Bits l ∧ 0 < l.length ∧ l.length ≤ 64 ∧ ∀ H', Ex H H' → Q (T l) H'
theorem call_read_plain {l : List Nat} {H : Hp} {Q : VK} {E : XK} (hb : Bits l) (h0 : 0 < l.length) (h1 : l.length ≤ 64) (k : ∀ H', Ex H H' → Q (T l) H') : sp_read_plain [T (112 :: l)] H Q E := ⟨l, rfl, hb, h0, h1, k⟩
def sp_read_number : Sp := fun vs H Q _ => ∃ (t a r : List Nat) (n : Nat) (i room : Int), vs = [T t, .int i, .int room] ∧ t = a ++ (ncode n ++ r) ∧ i = (a.length : Nat) ∧ t.length ≤ 100000 ∧ 0 < n ∧ (n : Int) ≤ room ∧ room ≤ 64 ∧
  ∀ p H', H p = none → Ex H H' → H' p = some (.tup [.int (n : Nat), .int ((a ++ ncode n).length : Nat)]) → Q (.ref p) H'
theorem call_read_number {t a r : List Nat} {n : Nat} {i room : Int} {H : Hp} {Q : VK} {E : XK} (h1 : t = a ++ (ncode n ++ r)) (h2 : i = (a.length : Nat)) (h3 : t.length ≤ 100000) (h4 : 0 < n) (h5 : (n : Int) ≤ room) (h6 : room ≤ 64)
    (k : ∀ p H', H p = none → Ex H H' → H' p = some (.tup [.int (n : Nat), .int ((a ++ ncode n).length : Nat)]) → Q (.ref p) H') : sp_read_number [T t, .int i, .int room] H Q E := ⟨t, a, r, n, i, room, rfl, h1, h2, h3, h4, h5, h6, k⟩
def sp_other_bit : Sp := fun vs H Q _ => ∃ c : Nat, vs = [T [c]] ∧ Bit c ∧ Q (T [97 - c]) H
theorem call_other_bit {c : Nat} {H : Hp} {Q : VK} {E : XK} (hb : Bit c) (k : Q (T [97 - c]) H) : sp_other_bit [T [c]] H Q E := ⟨c, rfl, hb, k⟩
def sp_read_runs : Sp := fun vs H Q _ => ∃ l : List Nat, vs = [T (rcode l)] ∧ Bits l ∧ 0 < l.length ∧ l.length ≤ 64 ∧ ∀ H', Ex H H' → Q (T l) H'
theorem call_read_runs {l : List Nat} {H : Hp} {Q : VK} {E : XK} (hb : Bits l) (h0 : 0 < l.length) (h1 : l.length ≤ 64) (k : ∀ H', Ex H H' → Q (T l) H') : sp_read_runs [T (rcode l)] H Q E := ⟨l, rfl, hb, h0, h1, k⟩
def S_read_code (f1 f2 : Addr) : Addr → Sp → Prop := fun f sp => (f = f1 ∧ sp = sp_read_plain) ∨ (f = f2 ∧ sp = sp_read_runs)
def sp_read_code : Sp := fun vs H Q _ => ∃ l c : List Nat, vs = [T c] ∧ (c = 112 :: l ∨ c = rcode l) ∧ Bits l ∧ 0 < l.length ∧ l.length ≤ 64 ∧ ∀ H', Ex H H' → Q (T l) H'
theorem call_read_code {l c : List Nat} {H : Hp} {Q : VK} {E : XK} (hc : c = 112 :: l ∨ c = rcode l) (hb : Bits l) (h0 : 0 < l.length) (h1 : l.length ≤ 64) (k : ∀ H', Ex H H' → Q (T l) H') : sp_read_code [T c] H Q E := ⟨l, c, rfl, hc, hb, h0, h1, k⟩
def HdK (l : List Nat) (H : Hp) (Q : VK) : Prop := ∀ p H' (m : Int), H p = none → Ex H H' → H' p = some (.tup [.int (l.length : Nat), .int (l.count 49 : Nat), .int m]) → Least m l → Q (.ref p) H'
def sp_head_of : Sp := fun vs H Q _ => ∃ l : List Nat, vs = [T l] ∧ Bits l ∧ 0 < l.length ∧ l.length ≤ 1000 ∧ HdK l H Q
theorem call_head_of {l : List Nat} {H : Hp} {Q : VK} {E : XK} (hb : Bits l) (h0 : 0 < l.length) (h1 : l.length ≤ 1000) (k : ∀ p H' (m : Int), H p = none → Ex H H' → H' p = some (.tup [.int (l.length : Nat), .int (l.count 49 : Nat), .int m]) → Least m l → Q (.ref p) H') : sp_head_of [T l] H Q E := ⟨l, rfl, hb, h0, h1, k⟩
def sp_look_place (C : Addr) : Sp := fun vs H Q E => ∃ at_ most least : Int, vs = [.int at_, .int most, .int least] ∧ (least ≤ at_ ∧ at_ ≤ most → Q .non H) ∧ (¬ (least ≤ at_ ∧ at_ ≤ most) → ∀ d H', H d = none → Ex H H' → H' d = some (.xd [("at", .int at_)]) → E (.ref C) (some d) H')
theorem call_look_place {C : Addr} {at_ most least : Int} {H : Hp} {Q : VK} {E : XK} (h0 : least ≤ at_) (h1 : at_ ≤ most) (k : Q .non H) : sp_look_place C [.int at_, .int most, .int least] H Q E := ⟨at_, most, least, rfl, fun _ => k, fun n => absurd ⟨h0, h1⟩ n⟩
theorem call_look_place_x {C : Addr} {at_ most least : Int} {H : Hp} {Q : VK} {E : XK} (k : least ≤ at_ ∧ at_ ≤ most → Q .non H) (k2 : ¬ (least ≤ at_ ∧ at_ ≤ most) → ∀ d H', H d = none → Ex H H' → H' d = some (.xd [("at", .int at_)]) → E (.ref C) (some d) H') : sp_look_place C [.int at_, .int most, .int least] H Q E := ⟨at_, most, least, rfl, k, k2⟩
def sp_look_bits : Sp := fun vs H Q _ => ∃ l : List Nat, vs = [T l] ∧ Bits l ∧ l.length ≤ 1000 ∧ ∀ H', Ex H H' → Q .non H'
theorem call_look_bits {l : List Nat} {H : Hp} {Q : VK} {E : XK} (h0 : Bits l) (h1 : l.length ≤ 1000) (k : ∀ H', Ex H H' → Q .non H') : sp_look_bits [T l] H Q E := ⟨l, rfl, h0, h1, k⟩
def sp_Row_init (C : Addr) : Sp := fun vs H Q _ => ∃ (r dx : Addr) (sz : Nat) (l : List Nat), vs = [.ref r, T l, .int (sz : Nat)] ∧ H r = some (.ins C dx []) ∧ Bits l ∧ l.length ≤ 1000 ∧ 4 ≤ sz ∧ sz ≤ 64 ∧
  ∀ H' fp, RowAt C H' r fp sz (parts sz l) 0 l.length → Bs [r] H H' → Grow H [r] fp → Q .non H'
theorem mk_Row {C : Addr} {gV : List V → List V → List V} {E : XK} {n m : Nat} {vs zs : List V} {H : Hp} {Q : VK} {l : List Nat} {sz : Int} (l1 : vs.length = n) (l2 : zs.length = m) (e : ∀ x, gV (.ref x :: vs) zs = [.ref x, T l, .int sz]) (hb : Bits l) (h0 : l.length ≤ 1000) (h1 : 4 ≤ sz) (h2 : sz ≤ 64)
    (k : ∀ x H' fp, H x = none → RowAt C H' x fp sz.toNat (parts sz.toNat l) 0 l.length → (∀ y ∈ fp, H y = none) → Ex H H' → Q (.ref x) H') : zKK C (sp_Row_init C) gV E n m Q vs zs H := by
  refine zkk_ l1 l2 fun x dx H1 nx nd ne he hx => ?_
  refine zsp_ (e x) ⟨x, dx, sz.toNat, l, by rw [Int.toNat_of_nonneg (by omega)], hx, hb, h0, by omega, by omega, fun H2 fp R b g => ⟨rfl, ?_⟩⟩
  refine k x H2 fp nx R (fun y hy => ?_) ((he.bst b).ex fun y hy => by rw [List.mem_singleton.mp hy]; exact nx)
  rcases g y hy with z | z
  · rw [List.mem_singleton.mp z]; exact nx
  · exact he.back z
theorem cs_mk_Row {C : Addr} {gV : List V → List V → List V} {E : XK} {n m : Nat} {vs zs : List V} {L : List Asn} {H : Hp} {Q : VK} {l : List Nat} {sz : Int} (s : S L H) (l1 : vs.length = n) (l2 : zs.length = m) (e : ∀ x, gV (.ref x :: vs) zs = [.ref x, T l, .int sz]) (hb : Bits l) (h0 : l.length ≤ 1000) (h1 : 4 ≤ sz) (h2 : sz ≤ 64)
    (k : ∀ x H', S (ARow C x sz.toNat l :: L) H' → Q (.ref x) H') : zKK C (sp_Row_init C) gV E n m Q vs zs H := by
  refine mk_Row l1 l2 e hb h0 h1 h2 fun x H' fp nx R nf ex => k x H' ?_
  have pf := parts_flat (show 0 < sz.toNat by omega) l
  have R2 : RowAt C H' x fp sz.toNat (parts sz.toNat l) 0 (parts sz.toNat l).flatten.length := by rw [pf]; exact R
  have := (s.newRow R2 (tight_parts (by omega) l) nf ex).unrow
  rwa [pf] at this
theorem cb_mk_Row {C : Addr} {gV : List V → List V → List V} {E : XK} {n m : Nat} {vs zs : List V} {L : List Asn} {H : Hp} {Q : VK} {l : List Nat} {sz : Int} (s : S L H) (l1 : vs.length = n) (l2 : zs.length = m) (e : ∀ x, gV (.ref x :: vs) zs = [.ref x, T l, .int sz]) (hb : Bits l) (h0 : l.length ≤ 1000) (h1 : 4 ≤ sz) (h2 : sz ≤ 64)
    (k : ∀ x H', S (ARowB C x sz.toNat (parts sz.toNat l) 0 :: L) H' → Q (.ref x) H') : zKK C (sp_Row_init C) gV E n m Q vs zs H := by
  refine mk_Row l1 l2 e hb h0 h1 h2 fun x H' fp nx R nf ex => k x H' ?_
  have pf := parts_flat (show 0 < sz.toNat by omega) l
  have R2 : RowAt C H' x fp sz.toNat (parts sz.toNat l) 0 (parts sz.toNat l).flatten.length := by rw [pf]; exact R
  exact s.newRow R2 (tight_parts (by omega) l) nf ex
def sp_Row_fill (C : Addr) : Sp := fun vs H Q _ => ∃ (r : Addr) (fp : List Addr) (sz : Nat) (bks : List (List Nat)) (op : Int) (hn : Nat) (n m : Nat) (l : List Nat), vs = [.ref r, .int (n : Nat), .int (m : Nat), T l] ∧ RowAt C H r fp sz bks op hn ∧ Bits l ∧ n ≤ m ∧ l.length ≤ 1000 ∧
  (bks.take n ++ parts sz l ++ bks.drop m).flatten.length ≤ 1000 ∧ ∀ H', RowAt C H' r fp sz (bks.take n ++ parts sz l ++ bks.drop m) op hn → Bs fp H H' → Q .non H'
theorem call_Row_fill {C r : Addr} {fp : List Addr} {sz : Nat} {bks : List (List Nat)} {op : Int} {hn n m : Nat} {l : List Nat} {H : Hp} {Q : VK} {E : XK} (R : RowAt C H r fp sz bks op hn) (hb : Bits l) (h0 : n ≤ m) (h1 : l.length ≤ 1000) (h2 : (bks.take n ++ parts sz l ++ bks.drop m).flatten.length ≤ 1000)
    (k : ∀ H', RowAt C H' r fp sz (bks.take n ++ parts sz l ++ bks.drop m) op hn → Bs fp H H' → Q .non H') : sp_Row_fill C [.ref r, .int (n : Nat), .int (m : Nat), T l] H Q E := ⟨r, fp, sz, bks, op, hn, n, m, l, rfl, R, hb, h0, h1, h2, k⟩
def sp_Row_bits_of (C : Addr) : Sp := fun vs H Q _ => ∃ (r : Addr) (fp : List Addr) (sz : Nat) (bks : List (List Nat)) (op : Int) (hn n : Nat) (l : List Nat), vs = [.ref r, .int (n : Nat)] ∧ RowAt C H r fp sz bks op hn ∧ bks[n]? = some l ∧ ∀ H', Ex H H' → Q (T l) H'
theorem call_Row_bits_of {C r : Addr} {fp : List Addr} {sz : Nat} {bks : List (List Nat)} {op : Int} {hn n : Nat} {l : List Nat} {H : Hp} {Q : VK} {E : XK} (R : RowAt C H r fp sz bks op hn) (hl : bks[n]? = some l) (k : ∀ H', Ex H H' → Q (T l) H') : sp_Row_bits_of C [.ref r, .int (n : Nat)] H Q E := ⟨r, fp, sz, bks, op, hn, n, l, rfl, R, hl, k⟩
def sp_Row_open_block (C : Addr) : Sp := fun vs H Q _ => ∃ (r : Addr) (fp : List Addr) (sz : Nat) (bks : List (List Nat)) (op : Int) (hn n : Nat) (l : List Nat), vs = [.ref r, .int (n : Nat)] ∧ RowAt C H r fp sz bks op hn ∧ bks[n]? = some l ∧ ∀ H', RowAt C H' r fp sz bks (op + 1) hn → But r H H' → Q (T l) H'
theorem call_Row_open_block {C r : Addr} {fp : List Addr} {sz : Nat} {bks : List (List Nat)} {op : Int} {hn n : Nat} {l : List Nat} {H : Hp} {Q : VK} {E : XK} (R : RowAt C H r fp sz bks op hn) (hl : bks[n]? = some l) (k : ∀ H', RowAt C H' r fp sz bks (op + 1) hn → But r H H' → Q (T l) H') : sp_Row_open_block C [.ref r, .int (n : Nat)] H Q E := ⟨r, fp, sz, bks, op, hn, n, l, rfl, R, hl, k⟩
def sp_Row_bits_in (C : Addr) : Sp := fun vs H Q _ => ∃ (r : Addr) (fp : List Addr) (sz : Nat) (bks : List (List Nat)) (op : Int) (hn n : Nat), vs = [.ref r, .int (n : Nat)] ∧ RowAt C H r fp sz bks op hn ∧ ∀ H', Ex H H' → Q (.int ((bks.getD n []).length : Nat)) H'
theorem call_Row_bits_in {C r : Addr} {fp : List Addr} {sz : Nat} {bks : List (List Nat)} {op : Int} {hn n : Nat} {H : Hp} {Q : VK} {E : XK} (R : RowAt C H r fp sz bks op hn) (k : ∀ H', Ex H H' → Q (.int ((bks.getD n []).length : Nat)) H') : sp_Row_bits_in C [.ref r, .int (n : Nat)] H Q E := ⟨r, fp, sz, bks, op, hn, n, rfl, R, k⟩
def sp_Row_find (C : Addr) : Sp := fun vs H Q _ => ∃ (r : Addr) (fp : List Addr) (sz : Nat) (bks : List (List Nat)) (op : Int) (hn at_ : Nat), vs = [.ref r, .int (at_ : Nat)] ∧ RowAt C H r fp sz bks op hn ∧ ∀ p H' (n h : Nat), H p = none → Ex H H' → H' p = some (.tup [.int (n : Nat), .int (h : Nat)]) → Found bks at_ n h → Q (.ref p) H'
theorem call_Row_find {C r : Addr} {fp : List Addr} {sz : Nat} {bks : List (List Nat)} {op : Int} {hn at_ : Nat} {H : Hp} {Q : VK} {E : XK} (R : RowAt C H r fp sz bks op hn) (k : ∀ p H' (n h : Nat), H p = none → Ex H H' → H' p = some (.tup [.int (n : Nat), .int (h : Nat)]) → Found bks at_ n h → Q (.ref p) H') : sp_Row_find C [.ref r, .int (at_ : Nat)] H Q E := ⟨r, fp, sz, bks, op, hn, at_, rfl, R, k⟩
def sp_Row_heads (C : Addr) : Sp := fun vs H Q _ => ∃ (r : Addr) (fp : List Addr) (sz : Nat) (bks : List (List Nat)) (op : Int) (hn : Nat), vs = [.ref r] ∧ RowAt C H r fp sz bks op hn ∧ ∀ p H' (ts : List Addr), H p = none → Ex H H' → H' p = some (.lst (ts.map V.ref)) → Heads H' ts bks → Q (.ref p) H'
theorem call_Row_heads {C r : Addr} {fp : List Addr} {sz : Nat} {bks : List (List Nat)} {op : Int} {hn : Nat} {H : Hp} {Q : VK} {E : XK} (R : RowAt C H r fp sz bks op hn) (k : ∀ p H' (ts : List Addr), H p = none → Ex H H' → H' p = some (.lst (ts.map V.ref)) → Heads H' ts bks → Q (.ref p) H') : sp_Row_heads C [.ref r] H Q E := ⟨r, fp, sz, bks, op, hn, rfl, R, k⟩
theorem cb_Row_heads {C r : Addr} {sz : Nat} {bks : List (List Nat)} {op : Int} {L M : List Asn} {H : Hp} {Q : VK} {E : XK} (s : S L H) (p : Pick (ARowB C r sz bks op) L M) (k : ∀ p H' (ts : List Addr), S (pts p (.lst (ts.map V.ref)) :: AHeads ts bks :: L) H' → Q (.ref p) H') : sp_Row_heads C [.ref r] H Q E := by
  obtain ⟨fp, R, t⟩ := s.rowAt p
  exact call_Row_heads R fun q H' ts n e h hd => k q H' ts (((s.new n e h).heads hd).swap)
theorem cs_Row_heads_nil {C r : Addr} {sz : Nat} {L M : List Asn} {H : Hp} {Q : VK} {E : XK} (s : S L H) (p : Pick (ARow C r sz []) L M) (k : ∀ p H', S (pts p (.lst []) :: L) H' → Q (.ref p) H') : sp_Row_heads C [.ref r] H Q E := by
  obtain ⟨fp, bks, op, R, t, e, _⟩ := s.rowPick p
  have e0 : bks = [] := List.eq_nil_iff_length_eq_zero.mpr (by
    have := len_flat_pos (bks := bks) fun l hl => (R.ok l hl).2.1
    rw [e] at this
    simpa using this)
  subst e0
  refine call_Row_heads R fun q H' ts n ex h hd => k q H' ?_
  obtain rfl : ts = [] := List.length_eq_zero_iff.mp (by rw [hd.len]; rfl)
  exact s.new n ex h
theorem cx_Row_heads {C r : Addr} {sz : Nat} {l : List Nat} {L M : List Asn} {H : Hp} {Q : VK} {E : XK} (s : S L H) (p : Pick (ARow C r sz l) L M) (k : ∀ p H' (ts : List Addr), ts.length ≤ 1000 → S (pts p (.lst (ts.map V.ref)) :: L) H' → Q (.ref p) H') : sp_Row_heads C [.ref r] H Q E := by
  obtain ⟨fp, bks, op, R, t, e, _⟩ := s.rowPick p
  refine call_Row_heads R fun q H' ts n ex h hd => k q H' ts ?_ (s.new n ex h)
  have := R.few2
  rw [hd.len]
  exact this
def sp_Row_codes (C : Addr) : Sp := fun vs H Q _ => ∃ (r : Addr) (fp : List Addr) (sz : Nat) (bks : List (List Nat)) (op : Int) (hn : Nat), vs = [.ref r] ∧ RowAt C H r fp sz bks op hn ∧ ∀ p H', H p = none → Ex H H' → H' p = some (.lst (bks.map fun l => T (scode l))) → Q (.ref p) H'
theorem call_Row_codes {C r : Addr} {fp : List Addr} {sz : Nat} {bks : List (List Nat)} {op : Int} {hn : Nat} {H : Hp} {Q : VK} {E : XK} (R : RowAt C H r fp sz bks op hn) (k : ∀ p H', H p = none → Ex H H' → H' p = some (.lst (bks.map fun l => T (scode l))) → Q (.ref p) H') : sp_Row_codes C [.ref r] H Q E := ⟨r, fp, sz, bks, op, hn, rfl, R, k⟩
theorem cb_Row_codes {C r : Addr} {sz : Nat} {bks : List (List Nat)} {op : Int} {L M : List Asn} {H : Hp} {Q : VK} {E : XK} (s : S L H) (p : Pick (ARowB C r sz bks op) L M) (k : ∀ p H', S (pts p (.lst (bks.map fun l => T (scode l))) :: L) H' → Q (.ref p) H') : sp_Row_codes C [.ref r] H Q E := by
  obtain ⟨fp, R, t⟩ := s.rowAt p
  exact call_Row_codes R fun q H' n e h => k q H' (s.new n e h)
theorem cx_Row_codes {C r : Addr} {sz : Nat} {l : List Nat} {L M : List Asn} {H : Hp} {Q : VK} {E : XK} (s : S L H) (p : Pick (ARow C r sz l) L M) (k : ∀ p H' xs, S (pts p (.lst xs) :: L) H' → Q (.ref p) H') : sp_Row_codes C [.ref r] H Q E := by
  obtain ⟨fp, bks, op, R, t, e, _⟩ := s.rowPick p
  exact call_Row_codes R fun q H' n ex h => k q H' _ (s.new n ex h)
def roomN (sz : Nat) (bks : List (List Nat)) : Nat := 3 * (figs sz).length * bks.length + (bks.map fun l => (scode l).length).sum
def sp_Row_room (C : Addr) : Sp := fun vs H Q _ => ∃ (r : Addr) (fp : List Addr) (sz : Nat) (bks : List (List Nat)) (op : Int) (hn : Nat), vs = [.ref r] ∧ RowAt C H r fp sz bks op hn ∧ ∀ H', Ex H H' → Q (.int (roomN sz bks : Nat)) H'
theorem call_Row_room {C r : Addr} {fp : List Addr} {sz : Nat} {bks : List (List Nat)} {op : Int} {hn : Nat} {H : Hp} {Q : VK} {E : XK} (R : RowAt C H r fp sz bks op hn) (k : ∀ H', Ex H H' → Q (.int (roomN sz bks : Nat)) H') : sp_Row_room C [.ref r] H Q E := ⟨r, fp, sz, bks, op, hn, rfl, R, k⟩
theorem cb_Row_room {C r : Addr} {sz : Nat} {bks : List (List Nat)} {op : Int} {L M : List Asn} {H : Hp} {Q : VK} {E : XK} (s : S L H) (p : Pick (ARowB C r sz bks op) L M) (k : ∀ H', S L H' → Q (.int (roomN sz bks : Nat)) H') : sp_Row_room C [.ref r] H Q E := by
  obtain ⟨fp, R, t⟩ := s.rowAt p
  exact call_Row_room R fun H' e => k H' (s.up e)
def sp_Row_opened (C : Addr) : Sp := fun vs H Q _ => ∃ (r : Addr) (fp : List Addr) (sz : Nat) (bks : List (List Nat)) (op : Int) (hn : Nat), vs = [.ref r] ∧ RowAt C H r fp sz bks op hn ∧ Q (.int op) H
theorem call_Row_opened {C r : Addr} {fp : List Addr} {sz : Nat} {bks : List (List Nat)} {op : Int} {hn : Nat} {H : Hp} {Q : VK} {E : XK} (R : RowAt C H r fp sz bks op hn) (k : Q (.int op) H) : sp_Row_opened C [.ref r] H Q E := ⟨r, fp, sz, bks, op, hn, rfl, R, k⟩
theorem cb_Row_opened {C r : Addr} {sz : Nat} {bks : List (List Nat)} {op : Int} {L M : List Asn} {H : Hp} {Q : VK} {E : XK} (s : S L H) (p : Pick (ARowB C r sz bks op) L M) (k : Q (.int op) H) : sp_Row_opened C [.ref r] H Q E := by
  obtain ⟨fp, R, t⟩ := s.rowAt p
  exact call_Row_opened R k
def sp_Row_bit (C X : Addr) : Sp := fun vs H Q E => ∃ (r : Addr) (fp : List Addr) (sz : Nat) (bks : List (List Nat)) (op i : Int), vs = [.ref r, .int i] ∧ RowAt C H r fp sz bks op bks.flatten.length ∧
  (∀ (n c : Nat), i = (n : Int) → bks.flatten[n]? = some c → ∀ H', RowAt C H' r fp sz bks (op + 1) bks.flatten.length → But r H H' → Q (.int ((c : Int) - 48)) H') ∧
  (¬ (0 ≤ i ∧ i < (bks.flatten.length : Nat)) → ∀ d H', H d = none → Ex H H' → H' d = some (.xd [("at", .int i)]) → E (.ref X) (some d) H')
theorem call_Row_bit {C X r : Addr} {fp : List Addr} {sz : Nat} {bks : List (List Nat)} {op : Int} {n c : Nat} {H : Hp} {Q : VK} {E : XK} (R : RowAt C H r fp sz bks op bks.flatten.length) (hc : bks.flatten[n]? = some c)
    (k : ∀ H', RowAt C H' r fp sz bks (op + 1) bks.flatten.length → But r H H' → Q (.int ((c : Int) - 48)) H') : sp_Row_bit C X [.ref r, .int (n : Nat)] H Q E :=
  ⟨r, fp, sz, bks, op, n, rfl, R, fun n' c' e hc' => by
    obtain rfl : n = n' := by omega
    rw [hc] at hc'
    cases hc'
    exact k, fun q => absurd ⟨by omega, by have := (List.getElem?_eq_some_iff.mp hc).1; omega⟩ q⟩
theorem cs_Row_bit {C r : Addr} {sz : Nat} {l : List Nat} {i : Int} {c : Nat} {L M : List Asn} {H : Hp} {Q : VK} {E : XK} (s : S L H) (p : Pick (ARow C r sz l) L M) (h0 : 0 ≤ i) (hc : atI l i = some c) (k : ∀ H', S (ARow C r sz l :: M) H' → Q (.int ((c : Int) - 48)) H') {X : Addr} : sp_Row_bit C X [.ref r, .int i] H Q E := by
  obtain ⟨fp, bks, op, R, rfl, k0⟩ := s.rowTurn p
  have hg := atI_get h0 hc
  obtain ⟨n, rfl⟩ : ∃ n : Nat, i = n := ⟨i.toNat, by omega⟩
  exact call_Row_bit R hg fun H' R' b => k H' (k0 H' _ R' b)
theorem cx_Row_bit {C r : Addr} {sz : Nat} {l : List Nat} {i : Int} {L M : List Asn} {H : Hp} {Q : VK} {E : XK} (s : S L H) (p : Pick (ARow C r sz l) L M) {X : Addr} (k : 0 ≤ i → ∀ c, atI l i = some c → Bit c → ∀ H', S (ARow C r sz l :: M) H' → Q (.int ((c : Int) - 48)) H')
    (k1 : ¬ (0 ≤ i ∧ i < (l.length : Nat)) → ∀ d H', S (pts d (.xd [("at", .int i)]) :: L) H' → E (.ref X) (some d) H') : sp_Row_bit C X [.ref r, .int i] H Q E := by
  have hb := s.rowBits p
  obtain ⟨fp, bks, op, R, rfl, k0⟩ := s.rowTurn p
  exact ⟨r, fp, sz, bks, op, i, rfl, R, fun n c e h H' R' b => k (by omega) c (by rw [e]; exact atI_nat h) (hb.1 c (List.mem_of_getElem? h)) H' (k0 H' _ R' b), fun q d H' nd e hd => k1 q d H' (s.new nd e hd)⟩
def sp_Row_ahead (C X : Addr) : Sp := fun vs H Q E => ∃ (r : Addr) (fp : List Addr) (sz : Nat) (bks : List (List Nat)) (op b i : Int), vs = [.ref r, .int b, .int i] ∧ RowAt C H r fp sz bks op bks.flatten.length ∧
  (∀ n : Nat, i = (n : Int) → n ≤ bks.flatten.length → ∀ H', RowAt C H' r fp sz bks (op + opA bks n) bks.flatten.length → But r H H' → Q (.int (if b = 1 then (((bks.flatten.take n).count 49 : Nat) : Int) else (n : Int) - ((bks.flatten.take n).count 49 : Nat))) H') ∧
  (¬ (0 ≤ i ∧ i ≤ (bks.flatten.length : Nat)) → ∀ d H', H d = none → Ex H H' → H' d = some (.xd [("at", .int i)]) → E (.ref X) (some d) H')
theorem call_Row_ahead {C X r : Addr} {fp : List Addr} {sz : Nat} {bks : List (List Nat)} {op b : Int} {n : Nat} {H : Hp} {Q : VK} {E : XK} (R : RowAt C H r fp sz bks op bks.flatten.length) (hc : n ≤ bks.flatten.length)
    (k : ∀ H', RowAt C H' r fp sz bks (op + opA bks n) bks.flatten.length → But r H H' → Q (.int (if b = 1 then (((bks.flatten.take n).count 49 : Nat) : Int) else (n : Int) - ((bks.flatten.take n).count 49 : Nat))) H') : sp_Row_ahead C X [.ref r, .int b, .int (n : Nat)] H Q E :=
  ⟨r, fp, sz, bks, op, b, n, rfl, R, fun n' e hc' => by
    obtain rfl : n = n' := by omega
    exact k, fun q => absurd ⟨by omega, by omega⟩ q⟩
theorem cs_Row_ahead1 {C r : Addr} {sz : Nat} {l : List Nat} {X : Addr} {i : Int} {L M : List Asn} {H : Hp} {Q : VK} {E : XK} (s : S L H) (p : Pick (ARow C r sz l) L M) (h0 : 0 ≤ i) (h1 : i ≤ (l.length : Nat)) (k : ∀ H', S (ARow C r sz l :: M) H' → Q (.int (((cut l none (some i)).count 49 : Nat))) H') : sp_Row_ahead C X [.ref r, .int 1, .int i] H Q E := by
  obtain ⟨fp, bks, op, R, rfl, k0⟩ := s.rowTurn p
  obtain ⟨n, rfl⟩ : ∃ n : Nat, i = n := ⟨i.toNat, by omega⟩
  refine call_Row_ahead R (by omega) fun H' R' b => ?_
  have := k H' (k0 H' _ R' b)
  rw [cut_to _ _ h0, Int.toNat_natCast] at this
  rw [if_pos rfl]
  exact this
theorem cs_Row_ahead0 {C r : Addr} {sz : Nat} {l : List Nat} {X : Addr} {i : Int} {L M : List Asn} {H : Hp} {Q : VK} {E : XK} (s : S L H) (p : Pick (ARow C r sz l) L M) (h0 : 0 ≤ i) (h1 : i ≤ (l.length : Nat)) (k : ∀ H', S (ARow C r sz l :: M) H' → Q (.int (((cut l none (some i)).count 48 : Nat))) H') : sp_Row_ahead C X [.ref r, .int 0, .int i] H Q E := by
  have hb := (s.rowBits p).1
  obtain ⟨fp, bks, op, R, rfl, k0⟩ := s.rowTurn p
  obtain ⟨n, rfl⟩ : ∃ n : Nat, i = n := ⟨i.toNat, by omega⟩
  refine call_Row_ahead R (by omega) fun H' R' b => ?_
  have := k H' (k0 H' _ R' b)
  rw [cut_to _ _ h0, Int.toNat_natCast] at this
  rw [if_neg (by decide)]
  have h2 := bits_count (hb.take n)
  rw [List.length_take] at h2
  rw [show ((n : Nat) : Int) - (((bks.flatten.take n).count 49 : Nat) : Int) = (((bks.flatten.take n).count 48 : Nat) : Int) by omega]
  exact this
theorem cx_Row_ahead {C r : Addr} {sz : Nat} {l : List Nat} {X : Addr} {b i : Int} {L M : List Asn} {H : Hp} {Q : VK} {E : XK} (s : S L H) (p : Pick (ARow C r sz l) L M) (k : 0 ≤ i → i ≤ (l.length : Nat) → ∀ H', S (ARow C r sz l :: M) H' → Q (.int (if b = 1 then (((cut l none (some i)).count 49 : Nat) : Int) else i - ((cut l none (some i)).count 49 : Nat))) H')
    (k1 : ¬ (0 ≤ i ∧ i ≤ (l.length : Nat)) → ∀ d H', S (pts d (.xd [("at", .int i)]) :: L) H' → E (.ref X) (some d) H') : sp_Row_ahead C X [.ref r, .int b, .int i] H Q E := by
  obtain ⟨fp, bks, op, R, rfl, k0⟩ := s.rowTurn p
  refine ⟨r, fp, sz, bks, op, b, i, rfl, R, fun n e h H' R' bb => ?_, fun q d H' nd e hd => k1 q d H' (s.new nd e hd)⟩
  subst e
  have := k (by omega) (by omega) H' (k0 H' _ R' bb)
  rw [cut_to _ _ (by omega), Int.toNat_natCast] at this
  exact this
def sp_Row_nth (C X : Addr) : Sp := fun vs H Q E => ∃ (r : Addr) (fp : List Addr) (sz : Nat) (bks : List (List Nat)) (op : Int) (hn b : Nat) (k : Int), vs = [.ref r, .int (b : Nat), .int k] ∧ RowAt C H r fp sz bks op hn ∧ b ≤ 1 ∧
  (∀ (j i : Nat) H', k = (j : Int) → spot (48 + b) bks.flatten j = some i → RowAt C H' r fp sz bks (op + 1) hn → But r H H' → Q (.int (i : Nat)) H') ∧
  (¬ (0 ≤ k ∧ k < (bks.flatten.count (48 + b) : Nat)) → ∀ d H', H d = none → Ex H H' → H' d = some (.xd [("at", .int k)]) → E (.ref X) (some d) H')
theorem call_Row_nth {C X r : Addr} {fp : List Addr} {sz : Nat} {bks : List (List Nat)} {op : Int} {hn b j : Nat} {H : Hp} {Q : VK} {E : XK} (R : RowAt C H r fp sz bks op hn) (hb : b ≤ 1) (hj : j < bks.flatten.count (48 + b))
    (k : ∀ (i : Nat) H', spot (48 + b) bks.flatten j = some i → RowAt C H' r fp sz bks (op + 1) hn → But r H H' → Q (.int (i : Nat)) H') : sp_Row_nth C X [.ref r, .int (b : Nat), .int (j : Nat)] H Q E :=
  ⟨r, fp, sz, bks, op, hn, b, j, rfl, R, hb, fun j' i H' e hs R' b' => by
    obtain rfl : j = j' := by omega
    exact k i H' hs R' b', fun q => absurd ⟨by omega, by omega⟩ q⟩
theorem cs_Row_nth {C r : Addr} {sz : Nat} {l : List Nat} {X : Addr} {b : Nat} {j : Int} {L M : List Asn} {H : Hp} {Q : VK} {E : XK} (s : S L H) (p : Pick (ARow C r sz l) L M) (hb : b ≤ 1) (h0 : 0 ≤ j) (h1 : j < (l.count (48 + b) : Nat)) (k : ∀ (i : Nat) H', spot (48 + b) l j.toNat = some i → S (ARow C r sz l :: M) H' → Q (.int (i : Nat)) H') : sp_Row_nth C X [.ref r, .int (b : Nat), .int j] H Q E := by
  obtain ⟨fp, bks, op, R, rfl, k0⟩ := s.rowTurn p
  obtain ⟨n, rfl⟩ : ∃ n : Nat, j = n := ⟨j.toNat, by omega⟩
  exact call_Row_nth R hb (by omega) fun i H' e R' bb => k i H' e (k0 H' _ R' bb)
theorem cx_Row_nth {C r : Addr} {sz : Nat} {l : List Nat} {X : Addr} {b : Nat} {j : Int} {L M : List Asn} {H : Hp} {Q : VK} {E : XK} (s : S L H) (p : Pick (ARow C r sz l) L M) (hb : b ≤ 1) (k : 0 ≤ j → ∀ (i : Nat) H', spot (48 + b) l j.toNat = some i → S (ARow C r sz l :: M) H' → Q (.int (i : Nat)) H')
    (k1 : ¬ (0 ≤ j ∧ j < (l.count (48 + b) : Nat)) → ∀ d H', S (pts d (.xd [("at", .int j)]) :: L) H' → E (.ref X) (some d) H') : sp_Row_nth C X [.ref r, .int (b : Nat), .int j] H Q E := by
  obtain ⟨fp, bks, op, R, rfl, k0⟩ := s.rowTurn p
  refine ⟨r, fp, sz, bks, op, _, b, j, rfl, R, hb, fun n i H' e h R' bb => k (by omega) i H' (by rw [e, Int.toNat_natCast]; exact h) (k0 H' _ R' bb), fun q d H' nd e hd => k1 q d H' (s.new nd e hd)⟩
def sp_Row_nth_in (C : Addr) : Sp := fun vs H Q _ => ∃ (r : Addr) (fp : List Addr) (sz : Nat) (bks : List (List Nat)) (op : Int) (hn n j b : Nat) (l : List Nat), vs = [.ref r, .int (n : Nat), .int (b : Nat), .int (j : Nat)] ∧ RowAt C H r fp sz bks op hn ∧ bks[n]? = some l ∧ b ≤ 1 ∧ j < l.count (48 + b) ∧
  ∀ (i : Nat) H', spot (48 + b) l j = some i → RowAt C H' r fp sz bks (op + 1) hn → But r H H' → Q (.int (i : Nat)) H'
theorem call_Row_nth_in {C r : Addr} {fp : List Addr} {sz : Nat} {bks : List (List Nat)} {op : Int} {hn n j b : Nat} {l : List Nat} {H : Hp} {Q : VK} {E : XK} (R : RowAt C H r fp sz bks op hn) (hl : bks[n]? = some l) (hb : b ≤ 1) (hj : j < l.count (48 + b))
    (k : ∀ (i : Nat) H', spot (48 + b) l j = some i → RowAt C H' r fp sz bks (op + 1) hn → But r H H' → Q (.int (i : Nat)) H') : sp_Row_nth_in C [.ref r, .int (n : Nat), .int (b : Nat), .int (j : Nat)] H Q E := ⟨r, fp, sz, bks, op, hn, n, j, b, l, rfl, R, hl, hb, hj, k⟩
def sp_Row_depth (C X : Addr) : Sp := fun vs H Q E => ∃ (r : Addr) (fp : List Addr) (sz : Nat) (bks : List (List Nat)) (op i : Int), vs = [.ref r, .int i] ∧ RowAt C H r fp sz bks op bks.flatten.length ∧
  (∀ n : Nat, i = (n : Int) → n ≤ bks.flatten.length → ∀ H', RowAt C H' r fp sz bks (op + opA bks n) bks.flatten.length → But r H H' → Q (.int (2 * (((bks.flatten.take n).count 49 : Nat) : Int) - (n : Int))) H') ∧
  (¬ (0 ≤ i ∧ i ≤ (bks.flatten.length : Nat)) → ∀ d H', H d = none → Ex H H' → H' d = some (.xd [("at", .int i)]) → E (.ref X) (some d) H')
theorem call_Row_depth {C X r : Addr} {fp : List Addr} {sz : Nat} {bks : List (List Nat)} {op : Int} {n : Nat} {H : Hp} {Q : VK} {E : XK} (R : RowAt C H r fp sz bks op bks.flatten.length) (hc : n ≤ bks.flatten.length)
    (k : ∀ H', RowAt C H' r fp sz bks (op + opA bks n) bks.flatten.length → But r H H' → Q (.int (2 * (((bks.flatten.take n).count 49 : Nat) : Int) - (n : Int))) H') : sp_Row_depth C X [.ref r, .int (n : Nat)] H Q E :=
  ⟨r, fp, sz, bks, op, n, rfl, R, fun n' e hc' => by
    obtain rfl : n = n' := by omega
    exact k, fun q => absurd ⟨by omega, by omega⟩ q⟩
theorem cs_Row_depth {C r : Addr} {sz : Nat} {l : List Nat} {X : Addr} {i : Int} {L M : List Asn} {H : Hp} {Q : VK} {E : XK} (s : S L H) (p : Pick (ARow C r sz l) L M) (h0 : 0 ≤ i) (h1 : i ≤ (l.length : Nat)) (k : ∀ H', S (ARow C r sz l :: M) H' → Q (.int (2 * (((cut l none (some i)).count 49 : Nat) : Int) - i)) H') : sp_Row_depth C X [.ref r, .int i] H Q E := by
  obtain ⟨fp, bks, op, R, rfl, k0⟩ := s.rowTurn p
  obtain ⟨n, rfl⟩ : ∃ n : Nat, i = n := ⟨i.toNat, by omega⟩
  refine call_Row_depth R (by omega) fun H' R' b => ?_
  have := k H' (k0 H' _ R' b)
  rw [cut_to _ _ h0, Int.toNat_natCast] at this
  exact this
theorem cx_Row_depth {C r : Addr} {sz : Nat} {l : List Nat} {X : Addr} {i : Int} {L M : List Asn} {H : Hp} {Q : VK} {E : XK} (s : S L H) (p : Pick (ARow C r sz l) L M) (k : 0 ≤ i → i ≤ (l.length : Nat) → ∀ H', S (ARow C r sz l :: M) H' → Q (.int (2 * (((cut l none (some i)).count 49 : Nat) : Int) - i)) H')
    (k1 : ¬ (0 ≤ i ∧ i ≤ (l.length : Nat)) → ∀ d H', S (pts d (.xd [("at", .int i)]) :: L) H' → E (.ref X) (some d) H') : sp_Row_depth C X [.ref r, .int i] H Q E := by
  obtain ⟨fp, bks, op, R, rfl, k0⟩ := s.rowTurn p
  refine ⟨r, fp, sz, bks, op, i, rfl, R, fun n e h H' R' bb => ?_, fun q d H' nd e hd => k1 q d H' (s.new nd e hd)⟩
  subst e
  have := k (by omega) (by omega) H' (k0 H' _ R' bb)
  rw [cut_to _ _ (by omega), Int.toNat_natCast] at this
  exact this
def sp_Row_put (C CP CF : Addr) : Sp := fun vs H Q E => ∃ (r : Addr) (fp : List Addr) (sz : Nat) (bks : List (List Nat)) (op i : Int) (l : List Nat), vs = [.ref r, .int i, T l] ∧ RowAt C H r fp sz bks op bks.flatten.length ∧ Tight sz bks ∧ Bits l ∧ l.length ≤ 100000 ∧
  (∀ n : Nat, i = (n : Int) → n ≤ bks.flatten.length → bks.flatten.length + l.length ≤ 1000 → ∀ H' fp' bks', RowAt C H' r fp' sz bks' op bks'.flatten.length → Tight sz bks' → bks'.flatten = bks.flatten.take n ++ l ++ bks.flatten.drop n → Bs fp H H' → Grow H fp fp' → Q .non H') ∧
  (¬ (0 ≤ i ∧ i ≤ (bks.flatten.length : Nat)) → ∀ d H', H d = none → Ex H H' → H' d = some (.xd [("at", .int i)]) → E (.ref CP) (some d) H') ∧
  (0 ≤ i ∧ i ≤ (bks.flatten.length : Nat) → 1000 < bks.flatten.length + l.length → ∀ d H', H d = none → Ex H H' → H' d = some (.xd [("many", .int 1000)]) → E (.ref CF) (some d) H')
theorem call_Row_put {C CP CF r : Addr} {fp : List Addr} {sz : Nat} {bks : List (List Nat)} {op : Int} {n : Nat} {l : List Nat} {H : Hp} {Q : VK} {E : XK} (R : RowAt C H r fp sz bks op bks.flatten.length) (t : Tight sz bks) (hb : Bits l) (h0 : n ≤ bks.flatten.length) (h1 : bks.flatten.length + l.length ≤ 1000)
    (k : ∀ H' fp' bks', RowAt C H' r fp' sz bks' op bks'.flatten.length → Tight sz bks' → bks'.flatten = bks.flatten.take n ++ l ++ bks.flatten.drop n → Bs fp H H' → Grow H fp fp' → Q .non H') : sp_Row_put C CP CF [.ref r, .int (n : Nat), T l] H Q E :=
  ⟨r, fp, sz, bks, op, n, l, rfl, R, t, hb, by omega, fun n' e _ _ => by
    obtain rfl : n = n' := by omega
    exact k, fun q => absurd ⟨by omega, by omega⟩ q, fun _ q => absurd q (by omega)⟩
theorem cs_Row_put {C CP CF r : Addr} {sz : Nat} {l x : List Nat} {i : Int} {L M : List Asn} {H : Hp} {Q : VK} {E : XK} (s : S L H) (p : Pick (ARow C r sz l) L M) (hb : Bits x) (h0 : 0 ≤ i) (h1 : i ≤ (l.length : Nat)) (h2 : l.length + x.length ≤ 1000)
    (k : ∀ H', S (ARow C r sz (cut l none (some i) ++ x ++ cut l (some i) none) :: M) H' → Q .non H') : sp_Row_put C CP CF [.ref r, .int i, T x] H Q E := by
  obtain ⟨fp, bks, op, R, t, rfl, k0⟩ := s.rowPick p
  obtain ⟨n, rfl⟩ : ∃ n : Nat, i = n := ⟨i.toNat, by omega⟩
  refine call_Row_put R t hb (by omega) h2 fun H' fp' bks' R' t' f b g => k H' ?_
  rw [cut_to _ _ h0, cut_from _ _ h0, Int.toNat_natCast, ← f]
  exact k0 H' fp' bks' op R' t' b g
theorem cx_Row_put {C CP CF r : Addr} {sz : Nat} {l x : List Nat} {i : Int} {L M : List Asn} {H : Hp} {Q : VK} {E : XK} (s : S L H) (p : Pick (ARow C r sz l) L M) (hb : Bits x) (hl : x.length ≤ 100000)
    (k : 0 ≤ i → i ≤ (l.length : Nat) → l.length + x.length ≤ 1000 → ∀ H', S (ARow C r sz (cut l none (some i) ++ x ++ cut l (some i) none) :: M) H' → Q .non H')
    (k1 : ¬ (0 ≤ i ∧ i ≤ (l.length : Nat)) → ∀ d H', S (pts d (.xd [("at", .int i)]) :: L) H' → E (.ref CP) (some d) H')
    (k2 : 0 ≤ i → i ≤ (l.length : Nat) → 1000 < l.length + x.length → ∀ d H', S (pts d (.xd [("many", .int 1000)]) :: L) H' → E (.ref CF) (some d) H') : sp_Row_put C CP CF [.ref r, .int i, T x] H Q E := by
  obtain ⟨fp, bks, op, R, t, rfl, k0⟩ := s.rowPick p
  refine ⟨r, fp, sz, bks, op, i, x, rfl, R, t, hb, hl, fun n e h1 h2 H' fp' bks' R' t' f b g => k (by omega) (by omega) h2 H' ?_, fun q d H' nd e hd => k1 q d H' (s.new nd e hd), fun q z d H' nd e hd => k2 q.1 q.2 z d H' (s.new nd e hd)⟩
  rw [cut_to _ _ (by omega), cut_from _ _ (by omega), e, Int.toNat_natCast, ← f]
  exact k0 H' fp' bks' op R' t' b g
def sp_Row_cut (C CP : Addr) : Sp := fun vs H Q E => ∃ (r : Addr) (fp : List Addr) (sz : Nat) (bks : List (List Nat)) (op i j : Int), vs = [.ref r, .int i, .int j] ∧ RowAt C H r fp sz bks op bks.flatten.length ∧ Tight sz bks ∧
  (∀ n m : Nat, i = (n : Int) → j = (m : Int) → n + m ≤ bks.flatten.length → ∀ H' fp' bks', RowAt C H' r fp' sz bks' op bks'.flatten.length → Tight sz bks' → bks'.flatten = bks.flatten.take n ++ bks.flatten.drop (n + m) → Bs fp H H' → Grow H fp fp' → Q (T ((bks.flatten.drop n).take m)) H') ∧
  (¬ (0 ≤ i ∧ i ≤ (bks.flatten.length : Nat) ∧ 0 ≤ j ∧ j ≤ (bks.flatten.length : Nat) - i) → ∀ d H', H d = none → Ex H H' → H' d = some (.xd [("at", .int i)]) → E (.ref CP) (some d) H')
theorem call_Row_cut {C CP r : Addr} {fp : List Addr} {sz : Nat} {bks : List (List Nat)} {op : Int} {n m : Nat} {H : Hp} {Q : VK} {E : XK} (R : RowAt C H r fp sz bks op bks.flatten.length) (t : Tight sz bks) (h0 : n + m ≤ bks.flatten.length)
    (k : ∀ H' fp' bks', RowAt C H' r fp' sz bks' op bks'.flatten.length → Tight sz bks' → bks'.flatten = bks.flatten.take n ++ bks.flatten.drop (n + m) → Bs fp H H' → Grow H fp fp' → Q (T ((bks.flatten.drop n).take m)) H') : sp_Row_cut C CP [.ref r, .int (n : Nat), .int (m : Nat)] H Q E :=
  ⟨r, fp, sz, bks, op, n, m, rfl, R, t, fun n' m' e e' _ => by
    obtain rfl : n = n' := by omega
    obtain rfl : m = m' := by omega
    exact k, fun q => absurd ⟨by omega, by omega, by omega, by omega⟩ q⟩
theorem cx_Row_cut {C CP r : Addr} {sz : Nat} {l : List Nat} {i j : Int} {L M : List Asn} {H : Hp} {Q : VK} {E : XK} (s : S L H) (p : Pick (ARow C r sz l) L M)
    (k : 0 ≤ i → 0 ≤ j → i + j ≤ (l.length : Nat) → ∀ H', S (ARow C r sz (cut l none (some i) ++ cut l (some (i + j)) none) :: M) H' → Q (T (cut l (some i) (some (i + j)))) H')
    (k1 : ¬ (0 ≤ i ∧ i ≤ (l.length : Nat) ∧ 0 ≤ j ∧ j ≤ (l.length : Nat) - i) → ∀ d H', S (pts d (.xd [("at", .int i)]) :: L) H' → E (.ref CP) (some d) H') : sp_Row_cut C CP [.ref r, .int i, .int j] H Q E := by
  obtain ⟨fp, bks, op, R, t, rfl, k0⟩ := s.rowPick p
  refine ⟨r, fp, sz, bks, op, i, j, rfl, R, t, fun n m e e' h1 H' fp' bks' R' t' f b g => ?_, fun q d H' nd e hd => k1 q d H' (s.new nd e hd)⟩
  have k2 := k (by omega) (by omega) (by omega) H'
  rw [cut_to _ _ (by omega), cut_from _ _ (by omega), cut_mid _ _ _ (by omega) (by omega), show (i + j - i).toNat = m by omega, show (i + j).toNat = n + m by omega, show i.toNat = n by omega, ← f] at k2
  exact k2 (k0 H' fp' bks' op R' t' b g)
theorem cs_Row_cut {C CP r : Addr} {sz : Nat} {l : List Nat} {i j : Int} {L M : List Asn} {H : Hp} {Q : VK} {E : XK} (s : S L H) (p : Pick (ARow C r sz l) L M) (h0 : 0 ≤ i) (h1 : 0 ≤ j) (h2 : i + j ≤ (l.length : Nat))
    (k : ∀ H', S (ARow C r sz (cut l none (some i) ++ cut l (some (i + j)) none) :: M) H' → Q (T (cut l (some i) (some (i + j)))) H') : sp_Row_cut C CP [.ref r, .int i, .int j] H Q E :=
  cx_Row_cut s p (fun _ _ _ => k) fun q => absurd ⟨h0, by omega, h1, by omega⟩ q
def flip1 (c : Nat) : Nat := 97 - c
def sp_Row_turn (C CP : Addr) : Sp := fun vs H Q E => ∃ (r : Addr) (fp : List Addr) (sz : Nat) (bks : List (List Nat)) (op i : Int), vs = [.ref r, .int i] ∧ RowAt C H r fp sz bks op bks.flatten.length ∧ Tight sz bks ∧
  (∀ n c : Nat, i = (n : Int) → bks.flatten[n]? = some c → ∀ H' fp' bks', RowAt C H' r fp' sz bks' op bks'.flatten.length → Tight sz bks' → bks'.flatten = bks.flatten.take n ++ [flip1 c] ++ bks.flatten.drop (n + 1) → Bs fp H H' → Grow H fp fp' → Q (.int ((flip1 c : Int) - 48)) H') ∧
  (¬ (0 ≤ i ∧ i < (bks.flatten.length : Nat)) → ∀ d H', H d = none → Ex H H' → H' d = some (.xd [("at", .int i)]) → E (.ref CP) (some d) H')
theorem call_Row_turn {C CP r : Addr} {fp : List Addr} {sz : Nat} {bks : List (List Nat)} {op : Int} {n c : Nat} {H : Hp} {Q : VK} {E : XK} (R : RowAt C H r fp sz bks op bks.flatten.length) (t : Tight sz bks) (h0 : bks.flatten[n]? = some c)
    (k : ∀ H' fp' bks', RowAt C H' r fp' sz bks' op bks'.flatten.length → Tight sz bks' → bks'.flatten = bks.flatten.take n ++ [flip1 c] ++ bks.flatten.drop (n + 1) → Bs fp H H' → Grow H fp fp' → Q (.int ((flip1 c : Int) - 48)) H') : sp_Row_turn C CP [.ref r, .int (n : Nat)] H Q E :=
  ⟨r, fp, sz, bks, op, n, rfl, R, t, fun n' c' e h => by
    obtain rfl : n = n' := by omega
    rw [h0] at h
    cases h
    exact k, fun q => absurd ⟨by omega, by have := (List.getElem?_eq_some_iff.mp h0).1; omega⟩ q⟩
theorem cx_Row_turn {C CP r : Addr} {sz : Nat} {l : List Nat} {i : Int} {L M : List Asn} {H : Hp} {Q : VK} {E : XK} (s : S L H) (p : Pick (ARow C r sz l) L M)
    (k : 0 ≤ i → ∀ c, atI l i = some c → Bit c → ∀ H', S (ARow C r sz (cut l none (some i) ++ [flip1 c] ++ cut l (some (i + 1)) none) :: M) H' → Q (.int ((flip1 c : Int) - 48)) H')
    (k1 : ¬ (0 ≤ i ∧ i < (l.length : Nat)) → ∀ d H', S (pts d (.xd [("at", .int i)]) :: L) H' → E (.ref CP) (some d) H') : sp_Row_turn C CP [.ref r, .int i] H Q E := by
  have hbb := s.rowBits p
  obtain ⟨fp, bks, op, R, t, rfl, k0⟩ := s.rowPick p
  refine ⟨r, fp, sz, bks, op, i, rfl, R, t, fun n c e h H' fp' bks' R' t' f b g => ?_, fun q d H' nd e hd => k1 q d H' (s.new nd e hd)⟩
  have k2 := k (by omega) c (by rw [e]; exact atI_nat h) (hbb.1 c (List.mem_of_getElem? h)) H'
  rw [cut_to _ _ (by omega), cut_from _ _ (by omega), show (i + 1).toNat = n + 1 by omega, show i.toNat = n by omega, ← f] at k2
  exact k2 (k0 H' fp' bks' op R' t' b g)
theorem cs_Row_turn {C CP r : Addr} {sz : Nat} {l : List Nat} {i : Int} {c : Nat} {L M : List Asn} {H : Hp} {Q : VK} {E : XK} (s : S L H) (p : Pick (ARow C r sz l) L M) (h0 : 0 ≤ i) (h1 : i < (l.length : Nat)) (hc : atI l i = some c)
    (k : ∀ H', S (ARow C r sz (cut l none (some i) ++ [flip1 c] ++ cut l (some (i + 1)) none) :: M) H' → Q (.int ((flip1 c : Int) - 48)) H') : sp_Row_turn C CP [.ref r, .int i] H Q E :=
  cx_Row_turn s p (fun _ c' e _ => by rw [hc] at e; cases e; exact k) fun q => absurd ⟨h0, h1⟩ q
def sp_Row_change (C : Addr) : Sp := fun vs H Q _ => ∃ (r : Addr) (fp : List Addr) (sz : Nat) (bks : List (List Nat)) (op : Int) (hn n m : Nat) (l : List Nat), vs = [.ref r, .int (n : Nat), .int (m : Nat), T l] ∧ RowAt C H r fp sz bks op hn ∧ Tight sz bks ∧ Bits l ∧ n ≤ m ∧ n ≤ bks.length ∧
  ((bks.take n).flatten ++ l ++ (bks.drop m).flatten).length ≤ 1000 ∧ ∀ H' fp' bks', RowAt C H' r fp' sz bks' op bks'.flatten.length → Tight sz bks' → bks'.flatten = (bks.take n).flatten ++ l ++ (bks.drop m).flatten → Bs fp H H' → Grow H fp fp' → Q .non H'
theorem call_Row_change {C r : Addr} {fp : List Addr} {sz : Nat} {bks : List (List Nat)} {op : Int} {hn n m : Nat} {l : List Nat} {H : Hp} {Q : VK} {E : XK} (R : RowAt C H r fp sz bks op hn) (t : Tight sz bks) (hb : Bits l) (h0 : n ≤ m) (h1 : n ≤ bks.length) (h2 : ((bks.take n).flatten ++ l ++ (bks.drop m).flatten).length ≤ 1000)
    (k : ∀ H' fp' bks', RowAt C H' r fp' sz bks' op bks'.flatten.length → Tight sz bks' → bks'.flatten = (bks.take n).flatten ++ l ++ (bks.drop m).flatten → Bs fp H H' → Grow H fp fp' → Q .non H') : sp_Row_change C [.ref r, .int (n : Nat), .int (m : Nat), T l] H Q E := ⟨r, fp, sz, bks, op, hn, n, m, l, rfl, R, t, hb, h0, h1, h2, k⟩
def sp_Row_count_bits (C : Addr) : Sp := fun vs H Q _ => ∃ r fp sz bks op hn, vs = [.ref r] ∧ RowAt C H r fp sz bks op hn ∧ ∀ H' fp', RowAt C H' r fp' sz bks op bks.flatten.length → Bs [r] H H' → Grow H fp fp' → Q .non H'
theorem call_Row_count_bits {C r : Addr} {fp : List Addr} {sz : Nat} {bks : List (List Nat)} {op : Int} {hn : Nat} {H : Hp} {Q : VK} {E : XK} (R : RowAt C H r fp sz bks op hn) (k : ∀ H' fp', RowAt C H' r fp' sz bks op bks.flatten.length → Bs [r] H H' → Grow H fp fp' → Q .non H') : sp_Row_count_bits C [.ref r] H Q E := ⟨r, fp, sz, bks, op, hn, rfl, R, k⟩
def sp_Row_bits_now (C : Addr) : Sp := fun vs H Q _ => ∃ r fp sz bks op hn, vs = [.ref r] ∧ RowAt C H r fp sz bks op hn ∧ Q (.int (hn : Nat)) H
theorem call_Row_bits_now {C r : Addr} {fp : List Addr} {sz : Nat} {bks : List (List Nat)} {op : Int} {hn : Nat} {H : Hp} {Q : VK} {E : XK} (R : RowAt C H r fp sz bks op hn) (k : Q (.int (hn : Nat)) H) : sp_Row_bits_now C [.ref r] H Q E := ⟨r, fp, sz, bks, op, hn, rfl, R, k⟩
theorem cs_Row_bits_now {C r : Addr} {sz : Nat} {l : List Nat} {L M : List Asn} {H : Hp} {Q : VK} {E : XK} (s : S L H) (p : Pick (ARow C r sz l) L M) (k : Q (.int (l.length : Nat)) H) : sp_Row_bits_now C [.ref r] H Q E := by
  obtain ⟨fp, bks, op, R, t, rfl, _⟩ := s.rowPick p
  exact call_Row_bits_now R k
theorem cb_Row_bits_now {C r : Addr} {sz : Nat} {bks : List (List Nat)} {op : Int} {L M : List Asn} {H : Hp} {Q : VK} {E : XK} (s : S L H) (p : Pick (ARowB C r sz bks op) L M) (k : Q (.int (bks.flatten.length : Nat)) H) : sp_Row_bits_now C [.ref r] H Q E := by
  obtain ⟨fp, R, t⟩ := s.rowAt p
  exact call_Row_bits_now R k
def sp_Row_told (C : Addr) : Sp := fun vs H Q _ => ∃ (r : Addr) (fp : List Addr) (sz : Nat) (bks : List (List Nat)) (op : Int) (hn : Nat), vs = [.ref r] ∧ RowAt C H r fp sz bks op hn ∧ ∀ H', Ex H H' → Q (T bks.flatten) H'
theorem call_Row_told {C r : Addr} {fp : List Addr} {sz : Nat} {bks : List (List Nat)} {op : Int} {hn : Nat} {H : Hp} {Q : VK} {E : XK} (R : RowAt C H r fp sz bks op hn) (k : ∀ H', Ex H H' → Q (T bks.flatten) H') : sp_Row_told C [.ref r] H Q E := ⟨r, fp, sz, bks, op, hn, rfl, R, k⟩
theorem cs_Row_told {C r : Addr} {sz : Nat} {l : List Nat} {L M : List Asn} {H : Hp} {Q : VK} {E : XK} (s : S L H) (p : Pick (ARow C r sz l) L M) (k : ∀ H', S L H' → Q (T l) H') : sp_Row_told C [.ref r] H Q E := by
  obtain ⟨fp, bks, op, R, t, rfl, _⟩ := s.rowPick p
  exact call_Row_told R fun H' e => k H' (s.up e)
theorem cb_Row_told {C r : Addr} {sz : Nat} {bks : List (List Nat)} {op : Int} {L M : List Asn} {H : Hp} {Q : VK} {E : XK} (s : S L H) (p : Pick (ARowB C r sz bks op) L M) (k : ∀ H', S L H' → Q (T bks.flatten) H') : sp_Row_told C [.ref r] H Q E := by
  obtain ⟨fp, R, t⟩ := s.rowAt p
  exact call_Row_told R fun H' e => k H' (s.up e)
def sp_Row_len (C : Addr) : Sp := fun vs H Q _ => ∃ (r : Addr) (fp : List Addr) (sz : Nat) (bks : List (List Nat)) (op : Int) (hn : Nat), vs = [.ref r] ∧ RowAt C H r fp sz bks op hn ∧ Q (.int (hn : Nat)) H
theorem call_Row_len {C r : Addr} {fp : List Addr} {sz : Nat} {bks : List (List Nat)} {op : Int} {hn : Nat} {H : Hp} {Q : VK} {E : XK} (R : RowAt C H r fp sz bks op hn) (k : Q (.int (hn : Nat)) H) : sp_Row_len C [.ref r] H Q E := ⟨r, fp, sz, bks, op, hn, rfl, R, k⟩
theorem cs_Row_len {C r : Addr} {sz : Nat} {l : List Nat} {L M : List Asn} {H : Hp} {Q : VK} {E : XK} (s : S L H) (p : Pick (ARow C r sz l) L M) (k : Q (.int (l.length : Nat)) H) : sp_Row_len C [.ref r] H Q E := by
  obtain ⟨fp, bks, op, R, t, rfl, _⟩ := s.rowPick p
  exact call_Row_len R k
theorem cb_Row_len {C r : Addr} {sz : Nat} {bks : List (List Nat)} {op : Int} {L M : List Asn} {H : Hp} {Q : VK} {E : XK} (s : S L H) (p : Pick (ARowB C r sz bks op) L M) (k : Q (.int (bks.flatten.length : Nat)) H) : sp_Row_len C [.ref r] H Q E := by
  obtain ⟨fp, R, t⟩ := s.rowAt p
  exact call_Row_len R k
def sp_Row_str (C : Addr) : Sp := fun vs H Q _ => ∃ (r : Addr) (fp : List Addr) (sz : Nat) (bks : List (List Nat)) (op : Int) (hn : Nat), vs = [.ref r] ∧ RowAt C H r fp sz bks op hn ∧ ∀ H', Ex H H' → Q (T bks.flatten) H'
theorem call_Row_str {C r : Addr} {fp : List Addr} {sz : Nat} {bks : List (List Nat)} {op : Int} {hn : Nat} {H : Hp} {Q : VK} {E : XK} (R : RowAt C H r fp sz bks op hn) (k : ∀ H', Ex H H' → Q (T bks.flatten) H') : sp_Row_str C [.ref r] H Q E := ⟨r, fp, sz, bks, op, hn, rfl, R, k⟩
theorem cs_Row_str {C r : Addr} {sz : Nat} {l : List Nat} {L M : List Asn} {H : Hp} {Q : VK} {E : XK} (s : S L H) (p : Pick (ARow C r sz l) L M) (k : ∀ H', S L H' → Q (T l) H') : sp_Row_str C [.ref r] H Q E := by
  obtain ⟨fp, bks, op, R, t, rfl, _⟩ := s.rowPick p
  exact call_Row_str R fun H' e => k H' (s.up e)
theorem cb_Row_str {C r : Addr} {sz : Nat} {bks : List (List Nat)} {op : Int} {L M : List Asn} {H : Hp} {Q : VK} {E : XK} (s : S L H) (p : Pick (ARowB C r sz bks op) L M) (k : ∀ H', S L H' → Q (T bks.flatten) H') : sp_Row_str C [.ref r] H Q E := by
  obtain ⟨fp, R, t⟩ := s.rowAt p
  exact call_Row_str R fun H' e => k H' (s.up e)
def rowR (sz : Nat) (l : List Nat) : List Nat := [] ++ [82, 111, 119, 40] ++ l ++ [44, 32] ++ intL (sz : Nat) ++ [41]
def sp_Row_repr (C : Addr) : Sp := fun vs H Q _ => ∃ (r : Addr) (fp : List Addr) (sz : Nat) (bks : List (List Nat)) (op : Int) (hn : Nat), vs = [.ref r] ∧ RowAt C H r fp sz bks op hn ∧ ∀ H', Ex H H' → Q (T (rowR sz bks.flatten)) H'
theorem call_Row_repr {C r : Addr} {fp : List Addr} {sz : Nat} {bks : List (List Nat)} {op : Int} {hn : Nat} {H : Hp} {Q : VK} {E : XK} (R : RowAt C H r fp sz bks op hn) (k : ∀ H', Ex H H' → Q (T (rowR sz bks.flatten)) H') : sp_Row_repr C [.ref r] H Q E := ⟨r, fp, sz, bks, op, hn, rfl, R, k⟩
theorem cs_Row_repr {C r : Addr} {sz : Nat} {l : List Nat} {L M : List Asn} {H : Hp} {Q : VK} {E : XK} (s : S L H) (p : Pick (ARow C r sz l) L M) (k : ∀ H', S L H' → Q (T (rowR sz l)) H') : sp_Row_repr C [.ref r] H Q E := by
  obtain ⟨fp, bks, op, R, t, rfl, _⟩ := s.rowPick p
  exact call_Row_repr R fun H' e => k H' (s.up e)
def sp_Row_eq (C : Addr) : Sp := fun vs H Q _ => ∃ (r : Addr) (v : V), vs = [.ref r, v] ∧ ((∃ (sz : Nat) (fp : List Addr) (bks : List (List Nat)) (op : Int) (hn : Nat), RowAt C H r fp sz bks op hn ∧ Els H v ∧ ∀ H', Ex H H' → Q (.bl false) H') ∨
  (∃ (r2 : Addr) (fp fp2 : List Addr) (sz sz2 : Nat) (bks bks2 : List (List Nat)) (op op2 : Int) (hn hn2 : Nat), v = .ref r2 ∧ RowAt C H r fp sz bks op hn ∧ RowAt C H r2 fp2 sz2 bks2 op2 hn2 ∧ ∀ H', Ex H H' → Q (.bl (decide (sz = sz2 ∧ bks.flatten = bks2.flatten))) H'))
theorem call_Row_eq {C r r2 : Addr} {fp fp2 : List Addr} {sz sz2 : Nat} {bks bks2 : List (List Nat)} {op op2 : Int} {hn hn2 : Nat} {H : Hp} {Q : VK} {E : XK} (R : RowAt C H r fp sz bks op hn) (R2 : RowAt C H r2 fp2 sz2 bks2 op2 hn2) (k : ∀ H', Ex H H' → Q (.bl (decide (sz = sz2 ∧ bks.flatten = bks2.flatten))) H') : sp_Row_eq C [.ref r, .ref r2] H Q E := ⟨r, _, rfl, .inr ⟨r2, fp, fp2, sz, sz2, bks, bks2, op, op2, hn, hn2, rfl, R, R2, k⟩⟩
theorem cs_Row_eq {C r r2 : Addr} {sz sz2 : Nat} {l l2 : List Nat} {L M N : List Asn} {H : Hp} {Q : VK} {E : XK} (s : S L H) (p : Pick (ARow C r sz l) L M) (p2 : Pick (ARow C r2 sz2 l2) L N) (k : ∀ H', S L H' → Q (.bl (decide (sz = sz2 ∧ l = l2))) H') : sp_Row_eq C [.ref r, .ref r2] H Q E := by
  obtain ⟨fp, bks, op, R, t, rfl, _⟩ := s.rowPick p
  obtain ⟨fp2, bks2, op2, R2, t2, rfl, _⟩ := s.rowPick p2
  exact call_Row_eq R R2 fun H' e => k H' (s.up e)
theorem cs_Row_eq_t {C r r2 : Addr} {sz : Nat} {l : List Nat} {L M N : List Asn} {H : Hp} {Q : VK} {E : XK} (s : S L H) (p : Pick (ARow C r sz l) L M) (p2 : Pick (ARow C r2 sz l) L N) (k : ∀ H', S L H' → Q (.bl true) H') : sp_Row_eq C [.ref r, .ref r2] H Q E :=
  cs_Row_eq s p p2 fun H' s' => by rw [decide_eq_true ⟨rfl, rfl⟩]; exact k H' s'
theorem cx_Row_eqE {C r : Addr} {sz : Nat} {l : List Nat} {v : V} {L M : List Asn} {H : Hp} {Q : VK} {E : XK} (s : S L H) (p : Pick (ARow C r sz l) L M) (o : Els H v) (k : ∀ H', S L H' → Q (.bl false) H') : sp_Row_eq C [.ref r, v] H Q E := by
  obtain ⟨fp, bks, op, R, t, rfl, _⟩ := s.rowPick p
  exact ⟨r, v, rfl, .inl ⟨_, fp, bks, op, _, R, o, fun H' e => k H' (s.up e)⟩⟩
/-- a row in [None, another one] -/
theorem inRow_ {C p a b : Addr} {sz sz2 : Nat} {l l2 : List Nat} {L M N O : List Asn} {H : Hp} {Q : VK} (s : S L H) (p0 : Pick (pts p (.lst [.non, .ref b])) L O) (p1 : Pick (ARow C a sz l) L M) (p2 : Pick (ARow C b sz2 l2) M N) (k : ∀ H', S L H' → Q (.bl (decide (sz2 = sz ∧ l2 = l))) H') : rInX C (sp_Row_eq C) (fun vs _ => vs) id (.ref a) (.ref p) H Q := by
  obtain ⟨dx, fs, ea⟩ := s.rowIns p1
  refine ⟨a, p, dx, fs, _, rfl, rfl, ea, s.at_ p0, .inr (.inl ⟨rfl, ?_⟩)⟩
  refine cx_Row_eqE s p1 .non fun H1 s1 => ⟨false, rfl, ⟨s1.at_ p0, s1.rowIns p1⟩, ?_⟩
  rw [if_neg (by decide)]
  have q2 := p1.behind p2
  obtain ⟨M', q2⟩ := q2
  obtain ⟨dx2, fs2, eb⟩ := s1.rowIns q2
  refine .inr (.inr ⟨b, dx2, fs2, rfl, fun e => ?_, eb, ?_⟩)
  · exact s1.rowNe p1 p2 e.symm
  · refine cs_Row_eq s1 q2 p1 fun H2 s2 => ⟨_, rfl, ⟨s2.at_ p0, s2.rowIns p1⟩, ?_⟩
    by_cases h : sz2 = sz ∧ l2 = l
    · have := k H2 s2
      rw [decide_eq_true h] at this ⊢
      rw [if_pos rfl]
      exact this
    · have := k H2 s2
      rw [decide_eq_false h] at this ⊢
      rw [if_neg (by decide)]
      exact this
def sp_law_urn (K : PySem.W.Frag) : Sp := fun vs H Q _ => ∃ (a : Addr) (ns : List Int) (i : Int), vs = [.ref a, .int i] ∧ SqL K H a (ns.map V.int) ∧ ns.length ≤ 63 ∧ 0 ≤ i ∧ i < 64 ∧ ∀ u H', H u = none → Ex H H' → Urn H' u 0 → Q (.ref u) H'
theorem call_law_urn {K : PySem.W.Frag} {a : Addr} {ns : List Int} {i : Int} {H : Hp} {Q : VK} {E : XK} (h1 : SqL K H a (ns.map V.int)) (h2 : ns.length ≤ 63) (h3 : 0 ≤ i) (h4 : i < 64) (k : ∀ u H', H u = none → Ex H H' → Urn H' u 0 → Q (.ref u) H') : sp_law_urn K [.ref a, .int i] H Q E := ⟨a, ns, i, rfl, h1, h2, h3, h4, k⟩
theorem cs_law_urn {K : PySem.W.Frag} {a : Addr} {ns : List Int} {i : Int} {L : List Asn} {H : Hp} {Q : VK} {E : XK} (s : S L H) (h1 : SqL K H a (ns.map V.int)) (h2 : ns.length ≤ 63) (h3 : 0 ≤ i) (h4 : i < 64) (k : ∀ u H', S (AUrn u 0 :: L) H' → Q (.ref u) H') : sp_law_urn K [.ref a, .int i] H Q E :=
  call_law_urn h1 h2 h3 h4 fun u H' n e hu => k u H' (s.newUrn n e hu)
def sp_law_draw : Sp := fun vs H Q _ => ∃ (u : Addr) (n : Nat) (m : Int), vs = [.ref u, .int m] ∧ Urn H u n ∧ n < 1000000000 ∧ 0 < m ∧ m < 1073741824 ∧ ∀ d H', 0 ≤ d → d < m → Urn H' u (n + 1) → But u H H' → Q (.int d) H'
theorem call_law_draw {u : Addr} {n : Nat} {m : Int} {H : Hp} {Q : VK} {E : XK} (h1 : Urn H u n) (h2 : n < 1000000000) (h3 : 0 < m) (h4 : m < 1073741824) (k : ∀ d H', 0 ≤ d → d < m → Urn H' u (n + 1) → But u H H' → Q (.int d) H') : sp_law_draw [.ref u, .int m] H Q E := ⟨u, n, m, rfl, h1, h2, h3, h4, k⟩
theorem cs_law_draw {u : Addr} {n : Nat} {m : Int} {L M : List Asn} {H : Hp} {Q : VK} {E : XK} (s : S L H) (p : Pick (AUrn u n) L M) (h2 : n < 1000000000) (h3 : 0 < m) (h4 : m < 1073741824) (k : ∀ d H', 0 ≤ d → d < m → S (AUrn u (n + 1) :: M) H' → Q (.int d) H') : sp_law_draw [.ref u, .int m] H Q E := by
  obtain ⟨hu, k0⟩ := (s.pick p).urn
  exact call_law_draw hu h2 h3 h4 fun d H' h0 h1 hu b => k d H' h0 h1 (k0 H' _ hu b)
def sp_law_whole : Sp := fun vs H Q _ => ∃ i : Int, vs = [.int i] ∧ Q (.bl true) H
theorem call_law_whole {i : Int} {H : Hp} {Q : VK} {E : XK} (k : Q (.bl true) H) : sp_law_whole [.int i] H Q E := ⟨i, rfl, k⟩
def sp_law_bits : Sp := fun vs H Q _ => ∃ (u : Addr) (n : Nat) (m : Int), vs = [.ref u, .int m] ∧ Urn H u n ∧ n < 500000000 ∧ 0 ≤ m ∧ m ≤ 1000 ∧
  ∀ (l : List Nat) (H' : Hp), Bits l → l.length ≤ m → Urn H' u (n + 2100) → But u H H' → Q (T l) H'
theorem call_law_bits {u : Addr} {n : Nat} {m : Int} {H : Hp} {Q : VK} {E : XK} (h1 : Urn H u n) (h2 : n < 500000000) (h3 : 0 ≤ m) (h4 : m ≤ 1000)
    (k : ∀ (l : List Nat) (H' : Hp), Bits l → l.length ≤ m → Urn H' u (n + 2100) → But u H H' → Q (T l) H') : sp_law_bits [.ref u, .int m] H Q E := ⟨u, n, m, rfl, h1, h2, h3, h4, k⟩
theorem cs_law_bits {u : Addr} {n : Nat} {m : Int} {L M : List Asn} {H : Hp} {Q : VK} {E : XK} (s : S L H) (p : Pick (AUrn u n) L M) (h2 : n < 500000000) (h3 : 0 ≤ m) (h4 : m ≤ 1000)
    (k : ∀ (l : List Nat) (H' : Hp), Bits l → l.length ≤ m → S (AUrn u (n + 2100) :: M) H' → Q (T l) H') : sp_law_bits [.ref u, .int m] H Q E := by
  obtain ⟨hu, k0⟩ := (s.pick p).urn
  exact call_law_bits hu h2 h3 h4 fun l H' h0 h1 hu b => k l H' h0 h1 (k0 H' _ hu b)
def sp_law_runs : Sp := fun vs H Q _ => ∃ l : List Nat, vs = [T l] ∧ l.length ≤ 1000 ∧ ∀ p H', H p = none → Ex H H' → H' p = some (.lst ((runs l).map fun n => V.int (n : Nat))) → Q (.ref p) H'
theorem call_law_runs {l : List Nat} {H : Hp} {Q : VK} {E : XK} (h1 : l.length ≤ 1000) (k : ∀ p H', H p = none → Ex H H' → H' p = some (.lst ((runs l).map fun n => V.int (n : Nat))) → Q (.ref p) H') : sp_law_runs [T l] H Q E := ⟨l, rfl, h1, k⟩
def sp_law_number_code : Sp := fun vs H Q _ => ∃ i : Int, vs = [.int i] ∧ 0 < i ∧ i < 1048576 ∧ ∀ H', Ex H H' → Q (T (ncode i.toNat)) H'
theorem call_law_number_code {i : Int} {H : Hp} {Q : VK} {E : XK} (h1 : 0 < i) (h2 : i < 1048576) (k : ∀ H', Ex H H' → Q (T (ncode i.toNat)) H') : sp_law_number_code [.int i] H Q E := ⟨i, rfl, h1, h2, k⟩
def sp_law_codes : Sp := fun vs H Q _ => ∃ l : List Nat, vs = [T l] ∧ 0 < l.length ∧ l.length ≤ 1000 ∧ ∀ p H', H p = none → Ex H H' → H' p = some (.tup [T (112 :: l), T (rcode l)]) → Q (.ref p) H'
theorem call_law_codes {l : List Nat} {H : Hp} {Q : VK} {E : XK} (h0 : 0 < l.length) (h1 : l.length ≤ 1000) (k : ∀ p H', H p = none → Ex H H' → H' p = some (.tup [T (112 :: l), T (rcode l)]) → Q (.ref p) H') : sp_law_codes [T l] H Q E := ⟨l, rfl, h0, h1, k⟩
def sp_law_code : Sp := fun vs H Q _ => ∃ l : List Nat, vs = [T l] ∧ 0 < l.length ∧ l.length ≤ 1000 ∧ ∀ H', Ex H H' → Q (T (scode l)) H'
theorem call_law_code {l : List Nat} {H : Hp} {Q : VK} {E : XK} (h0 : 0 < l.length) (h1 : l.length ≤ 1000) (k : ∀ H', Ex H H' → Q (T (scode l)) H') : sp_law_code [T l] H Q E := ⟨l, rfl, h0, h1, k⟩
def sp_law_head : Sp := fun vs H Q _ => ∃ l : List Nat, vs = [T l] ∧ 0 < l.length ∧ l.length ≤ 1000 ∧ HdK l H Q
theorem call_law_head {l : List Nat} {H : Hp} {Q : VK} {E : XK} (h0 : 0 < l.length) (h1 : l.length ≤ 1000) (k : ∀ p H' (m : Int), H p = none → Ex H H' → H' p = some (.tup [.int (l.length : Nat), .int (l.count 49 : Nat), .int m]) → Least m l → Q (.ref p) H') : sp_law_head [T l] H Q E := ⟨l, rfl, h0, h1, k⟩
def sp_law_wide : Sp := fun vs H Q _ => ∃ (u : Addr) (n : Nat), vs = [.ref u] ∧ Urn H u n ∧ n < 900000000 ∧ ∀ (z : Int) (H' : Hp), 4 ≤ z → z ≤ 64 → Urn H' u (n + 2) → But u H H' → Q (.int z) H'
theorem call_law_wide {u : Addr} {n : Nat} {H : Hp} {Q : VK} {E : XK} (h1 : Urn H u n) (h2 : n < 900000000) (k : ∀ (z : Int) (H' : Hp), 4 ≤ z → z ≤ 64 → Urn H' u (n + 2) → But u H H' → Q (.int z) H') : sp_law_wide [.ref u] H Q E := ⟨u, n, rfl, h1, h2, k⟩
theorem cs_law_wide {u : Addr} {n : Nat} {L M : List Asn} {H : Hp} {Q : VK} {E : XK} (s : S L H) (p : Pick (AUrn u n) L M) (h2 : n < 900000000) (k : ∀ (z : Int) (H' : Hp), 4 ≤ z → z ≤ 64 → S (AUrn u (n + 2) :: M) H' → Q (.int z) H') : sp_law_wide [.ref u] H Q E := by
  obtain ⟨hu, k0⟩ := (s.pick p).urn
  exact call_law_wide hu h2 fun z H' h0 h1 hu b => k z H' h0 h1 (k0 H' _ hu b)
def sp_law_blocks_right (C : Addr) : Sp := fun vs H Q _ => ∃ (r : Addr) (fp : List Addr) (sz : Nat) (bks : List (List Nat)) (op : Int) (hn : Nat), vs = [.ref r, T bks.flatten, .int (sz : Nat)] ∧ RowAt C H r fp sz bks op hn ∧ Tight sz bks ∧ ∀ H', Ex H H' → Q (.bl true) H'
theorem call_law_blocks_right {C r : Addr} {fp : List Addr} {sz : Nat} {bks : List (List Nat)} {op : Int} {hn : Nat} {H : Hp} {Q : VK} {E : XK} (R : RowAt C H r fp sz bks op hn) (t : Tight sz bks) (k : ∀ H', Ex H H' → Q (.bl true) H') : sp_law_blocks_right C [.ref r, T bks.flatten, .int (sz : Nat)] H Q E := ⟨r, fp, sz, bks, op, hn, rfl, R, t, k⟩
def sp_law_row_right (C : Addr) : Sp := fun vs H Q _ => ∃ (r : Addr) (fp : List Addr) (sz : Nat) (bks : List (List Nat)) (op : Int), vs = [.ref r, T bks.flatten, .int (sz : Nat)] ∧ RowAt C H r fp sz bks op bks.flatten.length ∧ Tight sz bks ∧ ∀ H', Ex H H' → Q (.bl true) H'
theorem call_law_row_right {C r : Addr} {fp : List Addr} {sz : Nat} {bks : List (List Nat)} {op : Int} {H : Hp} {Q : VK} {E : XK} (R : RowAt C H r fp sz bks op bks.flatten.length) (t : Tight sz bks) (k : ∀ H', Ex H H' → Q (.bl true) H') : sp_law_row_right C [.ref r, T bks.flatten, .int (sz : Nat)] H Q E := ⟨r, fp, sz, bks, op, rfl, R, t, k⟩
theorem cs_law_row_right {C r : Addr} {sz : Nat} {i : Int} {l : List Nat} {L M : List Asn} {H : Hp} {Q : VK} {E : XK} (s : S L H) (p : Pick (ARow C r sz l) L M) (e : i = (sz : Nat)) (k : ∀ H', S L H' → Q (.bl true) H') : sp_law_row_right C [.ref r, T l, .int i] H Q E := by
  obtain ⟨fp, bks, op, R, t, rfl, k0⟩ := s.rowPick p
  subst e
  exact call_law_row_right R t fun H' x => k H' (s.up x)
def sp_law_alike (C : Addr) : Sp := fun vs H Q _ => ∃ (r r2 : Addr) (sz sz2 : Nat) (l l2 : List Nat) (b : Bool) (L : List Asn), vs = [.ref r, .ref r2, .bl b] ∧ S (ARow C r sz l :: ARow C r2 sz2 l2 :: L) H ∧ b = decide (sz = sz2 ∧ l = l2) ∧ ∀ H', S (ARow C r sz l :: ARow C r2 sz2 l2 :: L) H' → Q (.bl true) H'
theorem cs_law_alike {C r r2 : Addr} {sz sz2 : Nat} {l l2 : List Nat} {b : Bool} {L M N : List Asn} {H : Hp} {Q : VK} {E : XK} (s : S L H) (p : Pick (ARow C r sz l) L M) (p2 : Pick (ARow C r2 sz2 l2) M N) (e : b = decide (sz = sz2 ∧ l = l2)) (k : ∀ H', S (ARow C r sz l :: ARow C r2 sz2 l2 :: N) H' → Q (.bl true) H') : sp_law_alike C [.ref r, .ref r2, .bl b] H Q E :=
  ⟨r, r2, sz, sz2, l, l2, b, N, rfl, s.pull2 p p2, e, k⟩
def sp_law (K : PySem.W.Frag) : Sp := fun vs H Q _ => ∃ (a : Addr) (ns : List Int), vs = [.ref a] ∧ SqL K H a (ns.map V.int) ∧ ns.length ≤ 63 ∧ ∀ H', Q (.bl true) H'
end My
namespace My
open PySem PySem.Spec PyProof.Rows L2 Z
section
local macro_rules | `(tactic| walk_at "sd") => `(tactic| first
  | with_reducible assumption
  | omega
  | (simp only [List.length_append, List.length_cons, List.length_nil, List.length_replicate, rep_len, List.length_map, List.length_set, List.length_range]; omega)
  | decide)
local macro_rules | `(tactic| walk_at "sdr") => `(tactic| first
  | with_reducible exact rfl
  | with_reducible assumption
  | (with_reducible refine fun n => n ?_; with_reducible exact rfl)
  | omega)
local macro_rules | `(tactic| walk_at "lk") => `(tactic| first
  | with_reducible assumption
  | exact Ex.at_ (by with_reducible assumption) (by walk_at "lk")
  | exact But.at_ (by with_reducible assumption) (by walk_at "ne") (by walk_at "lk")
  | exact S.at_ (by with_reducible assumption) (by walk_at "pk"))
local macro_rules | `(tactic| walk_at "pk") => `(tactic| first
  | with_reducible exact Pick.head
  | ((with_reducible refine' Pick.tail ?pkx); (case pkx => walk_at "pk"))
  | fail "none")
local macro_rules | `(tactic| walk_at "pk2") => `(tactic| walk_at "pk")
local macro_rules | `(tactic| walk_at "rp") => `(tactic| first
  | with_reducible exact Rep.head
  | ((with_reducible refine' Rep.tail ?rpx); (case rpx => walk_at "rp"))
  | fail "none")
local macro_rules | `(tactic| walk_at "pkd") => `(tactic| first
  | exact Pick.head
  | ((with_reducible refine' Pick.tail ?pkx); (case pkx => walk_at "pkd"))
  | fail "none")
local macro_rules | `(tactic| walk_at "sq") => `(tactic| first
  | assumption
  | exact S.sq (by with_reducible assumption) (by walk_at "pkd"))
local macro_rules | `(tactic| walk_at "pull") => `(tactic| exact S.pull (by with_reducible assumption) (by walk_at "pk"))
local macro_rules | `(tactic| walk_at "pull2") => `(tactic| exact S.pull2 (by with_reducible assumption) (by walk_at "pk") (by walk_at "pk"))
local macro_rules | `(tactic| walk_at "pull3") => `(tactic| exact S.pull3 (by with_reducible assumption) (by walk_at "pk") (by walk_at "pk") (by walk_at "pk"))
local macro_rules | `(tactic| walk_at "sbb") => `(tactic| first
  | with_reducible exact Sub.refl
  | with_reducible exact Sub.nil
  | ((with_reducible refine' Sub.cons ?p ?s); (case p => walk_at "pk"); (case s => walk_at "sbb"))
  | ((with_reducible refine' Sub.drop ?sbx); (case sbx => walk_at "sbb"))
  | fail "none")
local macro_rules | `(tactic| walk_at "sub") => `(tactic| exact S.to (by with_reducible assumption) (by walk_at "sbb"))
local macro_rules | `(tactic| walk_at "ne") => `(tactic| first
  | with_reducible assumption
  | exact Ne.symm (by with_reducible assumption)
  | exact ne_new (by with_reducible assumption) (by walk_at "lk")
  | exact Ne.symm (ne_new (by with_reducible assumption) (by walk_at "lk"))
  | exact Urn.ne_new (by with_reducible assumption) (by walk_at "ur")
  | exact Ne.symm (Urn.ne_new (by with_reducible assumption) (by walk_at "ur"))
  | exact S.ne (by with_reducible assumption) (by walk_at "pk") (by walk_at "pk") rfl)
local macro_rules | `(tactic| walk_at "ur") => `(tactic| first
  | with_reducible assumption
  | exact Urn.ex (by with_reducible assumption) (by walk_at "ur")
  | exact Urn.but (by with_reducible assumption) (by walk_at "ne") (by walk_at "ur"))
local macro_rules | `(tactic| walk_at "row") => `(tactic| first
  | with_reducible assumption
  | exact RowAt.exx (by with_reducible assumption) (by walk_at "ex"))
local macro_rules | `(tactic| walk_at "dp") => `(tactic| first
  | with_reducible exact Dp.str _
  | with_reducible exact Dp.int _
  | with_reducible exact Dp.bl _
  | with_reducible exact Dp.non
  | with_reducible assumption
  | ((with_reducible refine' Dp.lst (SqL.of ?h0) ?h1); (case h0 => walk_at "lk"); (case h1 => walk_at "da"))
  | ((with_reducible refine' Dp.tup (SqT.of ?h0) ?h1); (case h0 => walk_at "lk"); (case h1 => walk_at "da"))
  | exact Dp.int _
  | exact Dp.str _)
local macro_rules | `(tactic| walk_at "da") => `(tactic| first
  | exact DpAll.nil
  | ((with_reducible refine' DpAll.cons ?h0 ?h1); (case h0 => walk_at "dp"); (case h1 => walk_at "da"))
  | with_reducible assumption)
local macro_rules | `(tactic| walk_at "ex") => `(tactic| first
  | with_reducible assumption
  | exact Ex.refl _
  | (refine Ex.trans ?_ (by with_reducible assumption); walk_at "ex"))
local macro_rules | `(tactic| walk_at "at") => `(tactic| first
  | with_reducible assumption
  | exact rfl
  | exact atI_nat (by with_reducible assumption)
  | exact atI_last _ _
  | exact at2_0 (by assumption)
  | exact at2_1 (by assumption)
  | exact at3_0 (by assumption)
  | exact at3_1 (by assumption)
  | exact at3_2 (by assumption))
local macro_rules | `(tactic| walk_at "ix") => `(tactic| first
  | exact rfl
  | assumption
  | exact ix_0 (by assumption)
  | exact ix_1 (by assumption)
  | exact ix_2 (by assumption))
local macro_rules | `(tactic| walk_at "s") => `(tactic| first
  | ((with_reducible refine' gdS ?_); first
    | ((with_reducible refine' norm ?h0 ?_); (case h0 => (dsimp only [List.set_cons_zero, List.set_cons_succ] <;> exact rfl)))
    | ((with_reducible refine' gh_tSeq ?_); first
      | ((with_reducible refine' seq_asg ?_))
      | ((with_reducible refine' seq_if ?_))
      | ((with_reducible refine' seq_asgG ?_))
      | ((with_reducible refine' seq_par ?_))
      | ((with_reducible refine' seq_aug ?h0 ?_); (case h0 => exact rfl))
      | ((with_reducible refine' seq_drop ?_))
      | ((with_reducible refine' seq_fld ?_))
      | ((with_reducible refine' seq_raiseE ?_))
      | ((with_reducible refine' seq_asg2 ?_))
      | ((with_reducible refine' seq_fldA ?_))
      | ((with_reducible refine' seq_for ?_))
      | ((with_reducible refine' seq_par3 ?_))
      | ((with_reducible refine' seq_ ?_))
      | fail "none")
    | ((with_reducible refine' asg_ ?_))
    | ((with_reducible refine' ret_ ?_))
    | ((with_reducible refine' if_ ?_))
    | ((with_reducible refine' asgG_ ?_))
    | ((with_reducible refine' par_ ?_))
    | ((with_reducible refine' aug_ ?h0 ?_); (case h0 => exact rfl))
    | ((with_reducible refine' augS_ ?_))
    | ((with_reducible refine' drop_ ?_))
    | ((with_reducible refine' fldS_ ?_))
    | ((with_reducible refine' raiseE_ ?_))
    | ((with_reducible refine' asg2_ ?_))
    | ((with_reducible refine' fldA_ ?_))
    | ((with_reducible refine' errS_ ?_))
    | ((with_reducible refine' for_ ?_))
    | ((with_reducible refine' par3_ ?_))
    | ((with_reducible refine' next_ ?_))
    | ((with_reducible refine' nx_ ?h0 ?_); (case h0 => (dsimp only <;> exact rfl)))
    | ((with_reducible refine' brk_ ?_))
    | ((with_reducible refine' cont_ ?_))
    | ((with_reducible refine' bk_ ?h0 ?_); (case h0 => (dsimp only <;> exact rfl)))
    | ((with_reducible refine' ct_ ?h0 ?_); (case h0 => (dsimp only <;> exact rfl)))
    | fail "none")
  | ((with_reducible refine' gdE ?_); first
    | ((with_reducible refine' var_ ?h0 ?_); (case h0 => exact rfl))
    | ((with_reducible refine' c_ ?_))
    | ((with_reducible refine' op_ ?_))
    | ((with_reducible refine' cb_ ?_))
    | ((with_reducible refine' c1_ ?_))
    | ((with_reducible refine' orT_ ?_))
    | ((with_reducible refine' tup_ ?_))
    | ((with_reducible refine' lst_ ?_))
    | ((with_reducible refine' un_ ?_))
    | ((with_reducible refine' sl_ ?_))
    | ((with_reducible refine' bm_ ?_))
    | ((with_reducible refine' fld_ ?_))
    | ((with_reducible refine' ck_ ?_))
    | ((with_reducible refine' mk_ ?_))
    | ((with_reducible refine' kk_ ?_))
    | ((with_reducible refine' fmt_ ?_))
    | ((with_reducible refine' errI_ ?_))
    | ((with_reducible refine' chain_ ?_))
    | ((with_reducible refine' slT_ ?_))
    | ((with_reducible refine' notV_ ?_))
    | ((with_reducible refine' sumK_ ?_))
    | ((with_reducible refine' revL_ ?_))
    | ((with_reducible refine' m1_ ?_))
    | ((with_reducible refine' revS_ ?_))
    | ((with_reducible refine' lc_ ?_))
    | ((with_reducible refine' ifE_ ?_))
    | ((with_reducible refine' andV_ ?_))
    | ((with_reducible refine' orV_ ?_))
    | fail "none")
  | ((with_reducible refine' gdR ?_); first
    | ((with_reducible refine' gh_rAddZ ?_); first
      | ((with_reducible refine' addI ?_))
      | ((with_reducible refine' addS ?h0 ?_); (case h0 => walk_at "sd"))
      | ((with_reducible refine' addL ?h0 ?h1 ?h2 (fun p H' hn he hp => ?_)); (case h0 => walk_at "lk"); (case h1 => walk_at "lk"); (case h2 => walk_at "sd"))
      | fail "none")
    | ((with_reducible refine' subI ?_))
    | ((with_reducible refine' gh_rIxZ ?_); first
      | ((with_reducible refine' ixS ?h0 ?h1 ?_); (case h0 => walk_at "sd"); (case h1 => walk_at "at"))
      | ((with_reducible refine' ixL ?h0 ?h1 ?_); (case h0 => walk_at "lk"); (case h1 => walk_at "at"))
      | ((with_reducible refine' ixU ?h0 ?h1 ?_); (case h0 => walk_at "lk"); (case h1 => walk_at "at"))
      | ((with_reducible refine' ixSq ?h0 ?h1 ?_); (case h0 => walk_at "sq"); (case h1 => walk_at "at"))
      | fail "none")
    | ((with_reducible refine' gh_rMulZ ?_); first
      | ((with_reducible refine' mulI ?h0 ?_); (case h0 => first | exact mul_ok1 (by omega) (by omega) | exact mul_ok2 (by omega) (by omega) | with_reducible assumption))
      | ((with_reducible refine' mulS ?h0 ?h1 ?h2 ?_); (case h0 => walk_at "sd"); (case h1 => walk_at "sd"); (case h2 => walk_at "sd"))
      | ((with_reducible refine' mulL ?h0 ?h1 ?h2 ?h3 (fun p H' hn he hp => ?_)); (case h0 => walk_at "lk"); (case h1 => walk_at "sd"); (case h2 => walk_at "sd"); (case h3 => walk_at "sd"))
      | fail "none")
    | ((with_reducible refine' divI ?h0 ?h1 ?_); (case h0 => walk_at "sd"); (case h1 => walk_at "sd"))
    | ((with_reducible refine' modI ?h0 ?_); (case h0 => walk_at "sd"))
    | ((with_reducible refine' powI ?h0 ?_); (case h0 => first | with_reducible assumption | exact pow_ok (by decide)))
    | ((with_reducible refine' ltI ?_))
    | ((with_reducible refine' leI ?_))
    | ((with_reducible refine' gtI ?_))
    | ((with_reducible refine' geI ?_))
    | ((with_reducible refine' gh_rEqZ ?_); first
      | ((with_reducible refine' eqII ?_))
      | ((with_reducible refine' eqSS ?_))
      | ((with_reducible refine' eqI ?_))
      | ((with_reducible refine' eqS ?_))
      | fail "none")
    | ((with_reducible refine' gh_rNeZ ?_); first
      | ((with_reducible refine' neSS ?_))
      | ((with_reducible refine' neI ?_))
      | ((with_reducible refine' neS ?_))
      | fail "none")
    | ((with_reducible refine' inS ?_))
    | ((with_reducible refine' niS ?_))
    | ((with_reducible refine' negI ?_))
    | ((with_reducible refine' getL_ ?h0 ?h1 ?_); (case h0 => walk_at "lk"); (case h1 => walk_at "at"))
    | ((with_reducible refine' iaddI ?_))
    | ((with_reducible refine' iaddS ?h0 ?_); (case h0 => walk_at "sd"))
    | ((with_reducible refine' isubI ?_))
    | ((with_reducible refine' imulI ?h0 ?h1 ?_); (case h0 => walk_at "sd"); (case h1 => walk_at "sd"))
    | ((with_reducible refine' idivI ?h0 ?h1 ?_); (case h0 => walk_at "sd"); (case h1 => walk_at "sd"))
    | ((with_reducible refine' addA_ ?_))
    | ((with_reducible refine' subA_ ?_))
    | ((with_reducible refine' eqO_ ?h0 ?h1 ?_); (case h0 => walk_at "lk"); (case h1 => walk_at "lk"))
    | ((with_reducible refine' neO_ ?h0 ?h1 ?_); (case h0 => walk_at "lk"); (case h1 => walk_at "lk"))
    | ((with_reducible refine' gh_rIsN ?_); first
      | ((with_reducible refine' isN_T ?_))
      | ((with_reducible refine' isN_I ?_))
      | ((with_reducible refine' isN_B ?_))
      | ((with_reducible refine' isN_R ?_))
      | ((with_reducible refine' isN_N ?_))
      | fail "none")
    | ((with_reducible refine' gh_rNotN ?_); first
      | ((with_reducible refine' noN_T ?_))
      | ((with_reducible refine' noN_I ?_))
      | ((with_reducible refine' noN_R ?_))
      | ((with_reducible refine' noN_N ?_))
      | fail "none")
    | fail "none")
  | ((with_reducible refine' gdC ?_); first
    | ((with_reducible refine' gh_rLenZ ?_); first
      | ((with_reducible refine' lenS ?h0 ?_); (case h0 => walk_at "sd"))
      | ((with_reducible refine' lenL ?h0 ?_); (case h0 => walk_at "lk"))
      | ((with_reducible refine' lenU ?h0 ?_); (case h0 => walk_at "lk"))
      | ((with_reducible refine' lenSq ?h0 ?_); (case h0 => walk_at "sq"))
      | fail "none")
    | ((with_reducible refine' ztup_ ?h0 (fun p H' hn he hp => ?_)); (case h0 => walk_at "sd"))
    | ((with_reducible refine' zlst_ ?h0 (fun p H' hn he hp => ?_)); (case h0 => walk_at "sd"))
    | ((with_reducible refine' append_ ?h0 ?h1 (fun H' hp hb => ?_)); (case h0 => walk_at "lk"); (case h1 => walk_at "sd"))
    | ((with_reducible refine' listof_ ?h0 (fun p H' hn he hp => ?_)); (case h0 => walk_at "lk"))
    | ((with_reducible refine' listofU_ ?h0 (fun p H' hn he hp => ?_)); (case h0 => walk_at "lk"))
    | ((with_reducible refine' tupof_ ?h0 (fun p H' hn he hp => ?_)); (case h0 => walk_at "lk"))
    | ((with_reducible refine' tupofU_ ?h0 ?_); (case h0 => walk_at "lk"))
    | ((with_reducible refine' own1_ ?h0 ?_); (case h0 => walk_at "lk"))
    | ((with_reducible refine' gh_rIsZ ?_); first
      | ((with_reducible refine' isO_ ?h0 ?h1 ?h2 ?_); (case h0 => walk_at "lk"); (case h1 => assumption); (case h2 => assumption))
      | ((with_reducible refine' isOstr_ ?h0 ?_); (case h0 => assumption))
      | ((with_reducible refine' isOint_ ?h0 ?_); (case h0 => assumption))
      | ((with_reducible refine' isObl_ ?h0 ?_); (case h0 => assumption))
      | ((with_reducible refine' isOnon_ ?h0 ?_); (case h0 => assumption))
      | ((with_reducible refine' isOlst_ ?h0 ?h1 ?_); (case h0 => walk_at "lk"); (case h1 => assumption))
      | ((with_reducible refine' isOtup_ ?h0 ?h1 ?_); (case h0 => walk_at "lk"); (case h1 => assumption))
      | ((with_reducible refine' isLL_ ?h0 ?_); (case h0 => walk_at "lk"))
      | ((with_reducible refine' isTT_ ?h0 ?_); (case h0 => walk_at "lk"))
      | ((with_reducible refine' isII_ ?_))
      | ((with_reducible refine' isIB_ ?_))
      | ((with_reducible refine' isSS_ ?_))
      | fail "none")
    | ((with_reducible refine' rng1_ (fun p H' hn he hp => ?_)))
    | ((with_reducible refine' rng2_ (fun p H' hn he hp => ?_)))
    | ((with_reducible refine' listRng_ ?h0 ?h1 ?h2 ?h3 ?h4 (fun p H' hn he hp => ?_)); (case h0 => walk_at "lk"); (case h1 => walk_at "sd"); (case h2 => walk_at "sd"); (case h3 => walk_at "sd"); (case h4 => walk_at "sd"))
    | ((with_reducible refine' extend_ ?h0 ?h1 ?h2 (fun H' hp hb => ?_)); (case h0 => walk_at "lk"); (case h1 => walk_at "lk"); (case h2 => walk_at "sd"))
    | ((with_reducible refine' count_ ?_))
    | ((with_reducible refine' strI_ ?h0 ?h1 ?_); (case h0 => walk_at "sd"); (case h1 => walk_at "sd"))
    | ((with_reducible refine' strZS_ ?_))
    | ((with_reducible refine' strZI_ ?h0 ?h1 ?_); (case h0 => walk_at "sd"); (case h1 => walk_at "sd"))
    | ((with_reducible refine' divmod_ ?h0 ?h1 (fun p H' hn he hp => ?_)); (case h0 => walk_at "sd"); (case h1 => walk_at "sd"))
    | ((with_reducible refine' abs_ ?_))
    | ((with_reducible refine' min2_ ?_))
    | ((with_reducible refine' max2_ ?_))
    | ((with_reducible refine' gh_rIntZ ?_); first
      | ((with_reducible refine' intI_ ?_))
      | ((with_reducible refine' intB_ ?_))
      | ((with_reducible refine' intS_ ?h0 ?_); (case h0 => assumption))
      | fail "none")
    | fail "none")
  | ((with_reducible refine' gdT ?_); first
    | ((with_reducible refine' test_ ?_))
    | ((with_reducible refine' tb_ ?_))
    | ((with_reducible refine' truth_ ?_))
    | ((with_reducible refine' not_ ?_))
    | ((with_reducible refine' and_ ?_))
    | ((with_reducible refine' or_ ?_))
    | ((with_reducible refine' tyes_ ?_))
    | fail "none")
  | ((with_reducible refine' gdV ?_); first
    | ((with_reducible refine' zb_ ?_))
    | ((with_reducible refine' ztru_b ?_))
    | ((with_reducible refine' ztru_S ?h0 ?_); (case h0 => walk_at "sd"))
    | ((with_reducible refine' zpart_ ?_))
    | ((with_reducible refine' zbmL_ ?h0 ?_); (case h0 => walk_at "lk"))
    | ((with_reducible refine' zfld_ ?h0 ?h1 ?h2 ?h3 ?_); (case h0 => walk_at "lk"); (case h1 => assumption); (case h2 => assumption); (case h3 => exact rfl))
    | ((with_reducible refine' zset_ ?h0 ?h1 ?h2 ?h3 ?h4 (fun H' hp hb => ?_)); (case h0 => walk_at "lk"); (case h1 => assumption); (case h2 => assumption); (case h3 => walk_at "sd"); (case h4 => (simp (decide := true) only [putF, if_false, if_true] <;> exact rfl)))
    | ((with_reducible refine' zmeth_ ?h0 ?h1 ?_); (case h0 => walk_at "lk"); (case h1 => exact rfl))
    | ((with_reducible refine' zjs_ ?h0 ?_); (case h0 => walk_at "sd"))
    | ((with_reducible refine' zfmtS_ ?h0 ?_); (case h0 => walk_at "sd"))
    | ((with_reducible refine' zfmtI_ ?h0 ?h1 ?_); (case h0 => walk_at "sd"); (case h1 => walk_at "sd"))
    | ((with_reducible refine' zfldA_ ?h0 ?h1 ?h2 ?h3 ?_); (case h0 => walk_at "lk"); (case h1 => assumption); (case h2 => assumption); (case h3 => exact rfl))
    | ((with_reducible refine' zsetA_ ?h0 ?h1 ?h2 (fun H' hp hb => ?_)); (case h0 => walk_at "lk"); (case h1 => walk_at "sd"); (case h2 => (simp (decide := true) only [putF, if_false, if_true] <;> exact rfl)))
    | ((with_reducible refine' isLen_ ?h0 ?_); (case h0 => walk_at "sd"))
    | ((with_reducible refine' isTxt_ ?_))
    | ((with_reducible refine' zerrS_ ?h0 ?h1 ?h2 (fun dx nd ne => ?_)); (case h0 => assumption); (case h1 => assumption); (case h2 => walk_at "lk"))
    | ((with_reducible refine' zlink_dt ?h0 ?_); (case h0 => walk_at "sd"))
    | ((with_reducible refine' zlink_df ?h0 ?_); (case h0 => walk_at "sd"))
    | ((with_reducible refine' isLenB_ ?h0 ?_); (case h0 => walk_at "sd"))
    | ((with_reducible refine' znotv_ ?_))
    | ((with_reducible refine' zrevL_ ?h0 (fun p H' hn he hp => ?_)); (case h0 => walk_at "lk"))
    | ((with_reducible refine' zm1_ ?_))
    | ((with_reducible refine' zlist_ ?h0 ?_); (case h0 => walk_at "lk"))
    | ((with_reducible refine' zlistQ_ ?h0 ?_); (case h0 => walk_at "sq"))
    | ((with_reducible refine' zstr_ ?_))
    | ((with_reducible refine' zrevS_ ?h0 ?_); (case h0 => walk_at "sd"))
    | ((with_reducible refine' zandv_t ?_))
    | ((with_reducible refine' zandv_f ?_))
    | ((with_reducible refine' zorv_t ?_))
    | ((with_reducible refine' zorv_f ?_))
    | ((with_reducible refine' rt_ ?h0 ?_); (case h0 => (dsimp only <;> exact rfl)))
    | fail "none")
  | ((with_reducible refine' gdB ?_); first
    | ((with_reducible refine' gh_zIf ?_); first
      | ((with_reducible refine' zif_t ?_))
      | ((with_reducible refine' zif_f ?_))
      | ((with_reducible refine' zif_nT ?_))
      | ((with_reducible refine' zif_nF ?_))
      | ((with_reducible refine' zif_dt ?h0 ?_); (case h0 => walk_at "sd"))
      | ((with_reducible refine' zif_df ?h0 ?_); (case h0 => walk_at "sd"))
      | ((with_reducible refine' zif_nt ?h0 ?_); (case h0 => walk_at "sd"))
      | ((with_reducible refine' zif_nf ?h0 ?_); (case h0 => walk_at "sd"))
      | fail "none")
    | ((with_reducible refine' gh_zOr ?_); first
      | ((with_reducible refine' zor_nT ?_))
      | ((with_reducible refine' zor_nF ?_))
      | ((with_reducible refine' zor_t ?_))
      | ((with_reducible refine' zor_f ?_))
      | fail "none")
    | ((with_reducible refine' gh_zAnd ?_); first
      | ((with_reducible refine' zand_nT ?_))
      | ((with_reducible refine' zand_nF ?_))
      | ((with_reducible refine' zand_t ?_))
      | ((with_reducible refine' zand_f ?_))
      | fail "none")
    | ((with_reducible refine' zife_t ?_))
    | ((with_reducible refine' zife_f ?_))
    | ((with_reducible refine' zput_t ?_))
    | fail "none")
  | ((with_reducible refine' gdG ?_); first
    | ((with_reducible refine' gtup_ ?h0 ?h1 ?_); (case h0 => walk_at "lk"); (case h1 => rfl))
    | ((with_reducible refine' gcons_ ?_))
    | ((with_reducible refine' gname_ ?_))
    | ((with_reducible refine' gnil_ ?_))
    | ((with_reducible refine' gsub_ ?_))
    | ((with_reducible refine' gslice_ ?_))
    | ((with_reducible refine' gstarT_ ?h0 ?h1 ?h2 ?h3 (fun p H' hn he hp => ?_)); (case h0 => walk_at "lk"); (case h1 => walk_at "sd"); (case h2 => walk_at "sd"); (case h3 => walk_at "sd"))
    | ((with_reducible refine' gstarL_ ?h0 ?h1 ?h2 ?h3 (fun p H' hn he hp => ?_)); (case h0 => walk_at "lk"); (case h1 => walk_at "sd"); (case h2 => walk_at "sd"); (case h3 => walk_at "sd"))
    | fail "none")
  | ((with_reducible refine' gdL ?_); first
    | ((with_reducible refine' zpar_ ?_))
    | ((with_reducible refine' zck_ ?h0 ?h1 ?h2 ?_); (case h0 => rfl); (case h1 => rfl); (case h2 => (dsimp only [List.cons_append, List.nil_append, List.append_nil] <;> exact rfl)))
    | ((with_reducible refine' zkk_ ?h0 ?h1 (fun x dx H' nx ndx ne he hx => ?_)); (case h0 => rfl); (case h1 => rfl))
    | ((with_reducible refine' zenL_ ?h0 ?_); (case h0 => walk_at "lk"))
    | ((with_reducible refine' zzip_ ?h0 ?h1 ?_); (case h0 => walk_at "lk"); (case h1 => walk_at "lk"))
    | ((with_reducible refine' zerrI_ ?h0 ?h1 ?h2 ?_); (case h0 => assumption); (case h1 => walk_at "lk"); (case h2 => walk_at "sd"))
    | ((with_reducible refine' zerr_ (fun d H' nd he hd => ?_)))
    | ((with_reducible refine' zrng3_ ?h0 ?h1 ?h2 ?h3 ?_); (case h0 => walk_at "sd"); (case h1 => walk_at "sd"); (case h2 => walk_at "sd"); (case h3 => walk_at "sd"))
    | ((with_reducible refine' zsumK_ ?h0 ?h1 ?h2 ?_); (case h0 => walk_at "lk"); (case h1 => walk_at "sd"); (case h2 => walk_at "sd"))
    | ((with_reducible refine' zrng1_ ?h0 ?h1 ?_); (case h0 => walk_at "sd"); (case h1 => walk_at "sd"))
    | ((with_reducible refine' zrng2_ ?h0 ?h1 ?h2 ?h3 ?_); (case h0 => walk_at "sd"); (case h1 => walk_at "sd"); (case h2 => walk_at "sd"); (case h3 => walk_at "sd"))
    | ((with_reducible refine' zent_ ?_))
    | ((with_reducible refine' zpar3_ ?_))
    | ((with_reducible refine' zenK_ ?h0 ?h1 ?_); (case h0 => walk_at "sd"); (case h1 => walk_at "sd"))
    | fail "none")
  | ((with_reducible refine' gdI ?_); first
    | ((with_reducible refine' ienL_ ?_))
    | ((with_reducible refine' izip_ ?_))
    | ((with_reducible refine' irng3_ ?_))
    | ((with_reducible refine' ilist_ ?_))
    | ((with_reducible refine' istr_ ?_))
    | ((with_reducible refine' irng1_ ?_))
    | ((with_reducible refine' irng2_ ?_))
    | ((with_reducible refine' ient_ ?_))
    | ((with_reducible refine' ientK_ ?_))
    | fail "none")
  | ((with_reducible refine' cons_ ?_))
  | ((with_reducible refine' nil_ ?_))
  | ((with_reducible refine' nopart_ ?_))
  | ((with_reducible refine' part_ ?_))
  | ((with_reducible refine' slS ?h0 ?_); (case h0 => walk_at "sd"))
  | ((with_reducible refine' slL ?h0 (fun p H' hn he hp => ?_)); (case h0 => walk_at "lk"))
  | ((with_reducible refine' setL_ ?h0 ?h1 (fun H' hp hb => ?_)); (case h0 => walk_at "lk"); (case h1 => first | rfl | assumption))
  | ((with_reducible refine' zsp_ ?h0 ?_); (case h0 => (dsimp only [List.cons_append, List.nil_append, List.append_nil] <;> exact rfl)))
  | ((with_reducible refine' zsls_ ?h0 ?h1 ?h2 ?h3 ?h4 ?h5 (fun H' hp hb => ?_)); (case h0 => walk_at "lk"); (case h1 => walk_at "lk"); (case h2 => walk_at "ne"); (case h3 => walk_at "sd"); (case h4 => walk_at "sd"); (case h5 => walk_at "sd"))
  | ((with_reducible refine' joined_ ?_))
  | ((with_reducible refine' js_ ?_))
  | ((with_reducible refine' jsn_ ?_))
  | ((with_reducible refine' zw_ ?h0 ?_); (case h0 => exact rfl))
  | ((with_reducible refine' listRL_ ?h0 (fun p H' hn he hp => ?_)); (case h0 => walk_at "lk"))
  | ((with_reducible refine' listRU_ ?h0 (fun p H' hn he hp => ?_)); (case h0 => walk_at "lk"))
  | ((with_reducible refine' zslT_ ?h0 ?h1 (fun p H' hn he hp => ?_)); (case h0 => walk_at "lk"); (case h1 => decide))
  | ((with_reducible refine' dget_ ?_))
  | ((with_reducible refine' zdg_ ?h0 ?h1 ?h2 ?_); (case h0 => walk_at "lk"); (case h1 => exact rfl); (case h2 => exact rfl))
  | ((with_reducible refine' prs_ ?_))
  | ((with_reducible refine' prs0_ ?_))
  | ((with_reducible refine' all0_ ?h0 ?_); (case h0 => walk_at "lk"))
  | ((with_reducible refine' itup_ ?_))
  | ((with_reducible refine' inLt_ ?h0 ?h1 ?h2 ?h3 ?_); (case h0 => walk_at "lk"); (case h1 => first | decide | exact rfl); (case h2 => decide); (case h3 => decide))
  | ((with_reducible refine' inLf_ ?h0 ?h1 ?h2 ?h3 ?_); (case h0 => walk_at "lk"); (case h1 => first | decide | exact rfl); (case h2 => decide); (case h3 => decide))
  | ((with_reducible refine' inUt_ ?h0 ?h1 ?h2 ?h3 ?_); (case h0 => walk_at "lk"); (case h1 => first | decide | exact rfl); (case h2 => decide); (case h3 => decide))
  | ((with_reducible refine' inUf_ ?h0 ?h1 ?h2 ?h3 ?_); (case h0 => walk_at "lk"); (case h1 => first | decide | exact rfl); (case h2 => decide); (case h3 => decide))
  | ((with_reducible refine' niLt_ ?h0 ?h1 ?h2 ?h3 ?_); (case h0 => walk_at "lk"); (case h1 => first | decide | exact rfl); (case h2 => decide); (case h3 => decide))
  | ((with_reducible refine' niLf_ ?h0 ?h1 ?h2 ?h3 ?_); (case h0 => walk_at "lk"); (case h1 => first | decide | exact rfl); (case h2 => decide); (case h3 => decide))
  | ((with_reducible refine' ztupi_ ?h0 ?_); (case h0 => walk_at "lk"))
  | ((with_reducible refine' all2t_ ?h0 ?_); (case h0 => walk_at "lk")))
local macro_rules | `(tactic| walk_at "go") => `(tactic| repeat (walk_at "s"))
local macro_rules | `(tactic| walk_at "t") => `(tactic| first
  | ((with_reducible refine' gdR ?_); first
    | ((with_reducible refine' neII_r ?_))
    | ((with_reducible refine' addL ?h0 ?h1 ?h2 (new_S ?n0 fun p H' s => ?_)); (case h0 => walk_at "lk"); (case h1 => walk_at "lk"); (case h2 => walk_at "sd"); (case n0 => with_reducible assumption))
    | ((with_reducible refine' mulL ?h0 ?h1 ?h2 ?h3 (new_S ?n0 fun p H' s => ?_)); (case h0 => walk_at "lk"); (case h1 => walk_at "sd"); (case h2 => walk_at "sd"); (case h3 => walk_at "sd"); (case n0 => with_reducible assumption))
    | fail "none")
  | ((with_reducible refine' gdV ?_); first
    | ((with_reducible refine' put1_S ?h0 ?h1 ?h2 ?h3 (fun H' s => ?_)); (case h0 => assumption); (case h1 => walk_at "rp"); (case h2 => first | (dsimp only [List.nil_append, List.cons_append] <;> exact rfl) | exact rfl); (case h3 => walk_at "sd"))
    | ((with_reducible refine' zset_ ?h0 ?h1 ?h2 ?h3 ?h4 (mut_S ?m0 ?m1 ?m2 fun H' s => ?_)); (case h0 => walk_at "lk"); (case h1 => assumption); (case h2 => assumption); (case h3 => walk_at "sd"); (case h4 => (simp (decide := true) only [putF, if_false, if_true] <;> exact rfl)); (case m0 => with_reducible assumption); (case m1 => walk_at "rp"); (case m2 => rfl))
    | ((with_reducible refine' zsetA_ ?h0 ?h1 ?h2 (mut_S ?m0 ?m1 ?m2 fun H' s => ?_)); (case h0 => walk_at "lk"); (case h1 => walk_at "sd"); (case h2 => (simp (decide := true) only [putF, if_false, if_true] <;> exact rfl)); (case m0 => with_reducible assumption); (case m1 => walk_at "rp"); (case m2 => rfl))
    | ((with_reducible refine' zrevL_ ?h0 (new_S ?n0 fun p H' s => ?_)); (case h0 => walk_at "lk"); (case n0 => with_reducible assumption))
    | fail "none")
  | ((with_reducible refine' gdC ?_); first
    | ((with_reducible refine' ztup_ ?h0 (new_S ?n0 fun p H' s => ?_)); (case h0 => walk_at "sd"); (case n0 => with_reducible assumption))
    | ((with_reducible refine' zlst_ ?h0 (new_S ?n0 fun p H' s => ?_)); (case h0 => walk_at "sd"); (case n0 => with_reducible assumption))
    | ((with_reducible refine' append_ ?h0 ?h1 (mut_S ?m0 ?m1 ?m2 fun H' s => ?_)); (case h0 => walk_at "lk"); (case h1 => walk_at "sd"); (case m0 => with_reducible assumption); (case m1 => walk_at "rp"); (case m2 => rfl))
    | ((with_reducible refine' listof_ ?h0 (new_S ?n0 fun p H' s => ?_)); (case h0 => walk_at "lk"); (case n0 => with_reducible assumption))
    | ((with_reducible refine' listofU_ ?h0 (new_S ?n0 fun p H' s => ?_)); (case h0 => walk_at "lk"); (case n0 => with_reducible assumption))
    | ((with_reducible refine' tupof_ ?h0 (new_S ?n0 fun p H' s => ?_)); (case h0 => walk_at "lk"); (case n0 => with_reducible assumption))
    | ((with_reducible refine' rng1_ (new_S ?n0 fun p H' s => ?_)); (case n0 => with_reducible assumption))
    | ((with_reducible refine' rng2_ (new_S ?n0 fun p H' s => ?_)); (case n0 => with_reducible assumption))
    | ((with_reducible refine' listRng_ ?h0 ?h1 ?h2 ?h3 ?h4 (new_S ?n0 fun p H' s => ?_)); (case h0 => walk_at "lk"); (case h1 => walk_at "sd"); (case h2 => walk_at "sd"); (case h3 => walk_at "sd"); (case h4 => walk_at "sd"); (case n0 => with_reducible assumption))
    | ((with_reducible refine' extend_ ?h0 ?h1 ?h2 (mut_S ?m0 ?m1 ?m2 fun H' s => ?_)); (case h0 => walk_at "lk"); (case h1 => walk_at "lk"); (case h2 => walk_at "sd"); (case m0 => with_reducible assumption); (case m1 => walk_at "rp"); (case m2 => rfl))
    | ((with_reducible refine' divmod_ ?h0 ?h1 (new_S ?n0 fun p H' s => ?_)); (case h0 => walk_at "sd"); (case h1 => walk_at "sd"); (case n0 => with_reducible assumption))
    | fail "none")
  | ((with_reducible refine' gdG ?_); first
    | ((with_reducible refine' gstarT_ ?h0 ?h1 ?h2 ?h3 (new_S ?n0 fun p H' s => ?_)); (case h0 => walk_at "lk"); (case h1 => walk_at "sd"); (case h2 => walk_at "sd"); (case h3 => walk_at "sd"); (case n0 => with_reducible assumption))
    | ((with_reducible refine' gstarL_ ?h0 ?h1 ?h2 ?h3 (new_S ?n0 fun p H' s => ?_)); (case h0 => walk_at "lk"); (case h1 => walk_at "sd"); (case h2 => walk_at "sd"); (case h3 => walk_at "sd"); (case n0 => with_reducible assumption))
    | fail "none")
  | ((with_reducible refine' disp_ ?h0 (fun p H' s => ?_)); (case h0 => assumption))
  | ((with_reducible refine' zdisp_ ?h0 ?h1 ?h2 ?h3 ?h4 (fun H' s => ?_)); (case h0 => assumption); (case h1 => walk_at "rp"); (case h2 => exact rfl); (case h3 => walk_at "sd"); (case h4 => exact rfl))
  | ((with_reducible refine' setL_S ?h0 ?h1 ?h2 ?h3 (fun H' s => ?_)); (case h0 => assumption); (case h1 => walk_at "rp"); (case h2 => walk_at "ix"); (case h3 => first | (dsimp only [List.set_cons_zero, List.set_cons_succ] <;> exact rfl) | exact rfl))
  | ((with_reducible refine' slL ?h0 (new_S ?n0 fun p H' s => ?_)); (case h0 => walk_at "lk"); (case n0 => with_reducible assumption))
  | ((with_reducible refine' setL_ ?h0 ?h1 (mut_S ?m0 ?m1 ?m2 fun H' s => ?_)); (case h0 => walk_at "lk"); (case h1 => first | rfl | assumption); (case m0 => with_reducible assumption); (case m1 => walk_at "rp"); (case m2 => rfl))
  | ((with_reducible refine' zsls_ ?h0 ?h1 ?h2 ?h3 ?h4 ?h5 (mut_S ?m0 ?m1 ?m2 fun H' s => ?_)); (case h0 => walk_at "lk"); (case h1 => walk_at "lk"); (case h2 => walk_at "ne"); (case h3 => walk_at "sd"); (case h4 => walk_at "sd"); (case h5 => walk_at "sd"); (case m0 => with_reducible assumption); (case m1 => walk_at "rp"); (case m2 => rfl))
  | ((with_reducible refine' listRL_ ?h0 (new_S ?n0 fun p H' s => ?_)); (case h0 => walk_at "lk"); (case n0 => with_reducible assumption))
  | ((with_reducible refine' listRU_ ?h0 (new_S ?n0 fun p H' s => ?_)); (case h0 => walk_at "lk"); (case n0 => with_reducible assumption))
  | ((with_reducible refine' zslT_ ?h0 ?h1 (new_S ?n0 fun p H' s => ?_)); (case h0 => walk_at "lk"); (case h1 => decide); (case n0 => with_reducible assumption))
  | walk_at "s"
  | ((with_reducible refine' gdB ?_); first
    | ((with_reducible refine' gh_zIf ?_); first
      | ((with_reducible refine' zif_dt ?h0 ?_); (case h0 => walk_at "sdr"))
      | ((with_reducible refine' zif_df ?h0 ?_); (case h0 => walk_at "sdr"))
      | ((with_reducible refine' zif_nt ?h0 ?_); (case h0 => walk_at "sdr"))
      | ((with_reducible refine' zif_nf ?h0 ?_); (case h0 => walk_at "sdr"))
      | fail "none")
    | ((with_reducible refine' gh_zOr ?_); first
      | ((with_reducible refine' zor_kt ?h0 ?_); (case h0 => walk_at "sdr"))
      | ((with_reducible refine' zor_kf ?h0 ?_); (case h0 => walk_at "sdr"))
      | ((with_reducible refine' zor_dt ?h0 ?_); (case h0 => walk_at "sdr"))
      | ((with_reducible refine' zor_df ?h0 ?_); (case h0 => walk_at "sdr"))
      | fail "none")
    | ((with_reducible refine' gh_zAnd ?_); first
      | ((with_reducible refine' zand_kt ?h0 ?_); (case h0 => walk_at "sdr"))
      | ((with_reducible refine' zand_kf ?h0 ?_); (case h0 => walk_at "sdr"))
      | ((with_reducible refine' zand_dt ?h0 ?_); (case h0 => walk_at "sdr"))
      | ((with_reducible refine' zand_df ?h0 ?_); (case h0 => walk_at "sdr"))
      | fail "none")
    | ((with_reducible refine' gh_zPut ?_); first
      | ((with_reducible refine' zput_dt ?h0 ?_); (case h0 => walk_at "sdr"))
      | ((with_reducible refine' zput_df ?h0 ?_); (case h0 => walk_at "sdr"))
      | ((with_reducible refine' zput_nt ?h0 ?_); (case h0 => walk_at "sdr"))
      | ((with_reducible refine' zput_nf ?h0 ?_); (case h0 => walk_at "sdr"))
      | fail "none")
    | ((with_reducible refine' zife_dt ?h0 ?_); (case h0 => walk_at "sdr"))
    | ((with_reducible refine' zife_df ?h0 ?_); (case h0 => walk_at "sdr"))
    | fail "none")
  | ((with_reducible refine' gdV ?_); first
    | ((with_reducible refine' zandv_dt ?h0 ?_); (case h0 => walk_at "sdr"))
    | ((with_reducible refine' zandv_df ?h0 ?_); (case h0 => walk_at "sdr"))
    | ((with_reducible refine' zorv_dt ?h0 ?_); (case h0 => walk_at "sdr"))
    | ((with_reducible refine' zorv_df ?h0 ?_); (case h0 => walk_at "sdr"))
    | ((with_reducible refine' zlink_dt ?h0 ?_); (case h0 => walk_at "sdr"))
    | ((with_reducible refine' zlink_df ?h0 ?_); (case h0 => walk_at "sdr"))
    | ((with_reducible refine' exB_ ?_))
    | ((with_reducible refine' exN_ ?_))
    | fail "none")
  | ((with_reducible refine' gdC ?_); first
    | ((with_reducible refine' reprB_ ?h0 ?h1 ?_); (case h0 => assumption); (case h1 => walk_at "sd"))
    | ((with_reducible refine' reprI_ ?h0 ?h1 ?_); (case h0 => walk_at "sd"); (case h1 => walk_at "sd"))
    | fail "none")
  | ((with_reducible refine' ret_tt ?h0 ?_); (case h0 => walk_at "sdr"))
  | fail "none")
local macro_rules | `(tactic| walk_at "gs") => `(tactic| repeat (walk_at "t"))
local macro_rules | `(tactic| walk_at "s") => `(tactic| first
  | ((with_reducible refine' gdP ?_); first
    | ((with_reducible refine' call_figures_of ?h0 ?h1 (fun H' he => ?_)); (case h0 => walk_at "sd"); (case h1 => walk_at "sd"))
    | ((with_reducible refine' call_number_code ?h0 ?h1 (fun H' he => ?_)); (case h0 => walk_at "sd"); (case h1 => walk_at "sd"))
    | ((with_reducible refine' call_runs_of ?h0 (fun p H' hn he hp => ?_)); (case h0 => walk_at "sd"))
    | ((with_reducible refine' call_code_plain ?h0 (fun H' he => ?_)); (case h0 => walk_at "sd"))
    | ((with_reducible refine' call_code_runs ?h0 ?h1 (fun H' he => ?_)); (case h0 => walk_at "sd"); (case h1 => walk_at "sd"))
    | ((with_reducible refine' call_code_of ?h0 ?h1 (fun H' he => ?_)); (case h0 => walk_at "sd"); (case h1 => walk_at "sd"))
    | ((with_reducible refine' call_read_plain ?h0 ?h1 ?h2 (fun H' he => ?_)); (case h0 => assumption); (case h1 => walk_at "sd"); (case h2 => walk_at "sd"))
    | ((with_reducible refine' call_read_number ?h0 ?h1 ?h2 ?h3 ?h4 ?h5 (fun p H' hn he hp => ?_)); (case h0 => assumption); (case h1 => assumption); (case h2 => walk_at "sd"); (case h3 => walk_at "sd"); (case h4 => walk_at "sd"); (case h5 => walk_at "sd"))
    | ((with_reducible refine' call_other_bit ?h0 ?_); (case h0 => assumption))
    | ((with_reducible refine' call_read_runs ?h0 ?h1 ?h2 (fun H' he => ?_)); (case h0 => assumption); (case h1 => walk_at "sd"); (case h2 => walk_at "sd"))
    | ((with_reducible refine' call_read_code ?h0 ?h1 ?h2 ?h3 (fun H' he => ?_)); (case h0 => first | exact .inl rfl | exact .inr rfl); (case h1 => assumption); (case h2 => walk_at "sd"); (case h3 => walk_at "sd"))
    | ((with_reducible refine' call_head_of ?h0 ?h1 ?h2 (fun p H' m hn he hp hm => ?_)); (case h0 => assumption); (case h1 => walk_at "sd"); (case h2 => walk_at "sd"))
    | ((with_reducible refine' call_look_place ?h0 ?h1 ?_); (case h0 => walk_at "sd"); (case h1 => walk_at "sd"))
    | ((with_reducible refine' call_look_bits ?h0 ?h1 (fun H' he => ?_)); (case h0 => assumption); (case h1 => walk_at "sd"))
    | ((with_reducible refine' call_Row_bits_of ?h0 ?h1 (fun H' he => ?_)); (case h0 => walk_at "row"); (case h1 => assumption))
    | ((with_reducible refine' call_Row_open_block ?h0 ?h1 (fun H' R' hb => ?_)); (case h0 => walk_at "row"); (case h1 => assumption))
    | ((with_reducible refine' call_Row_bits_in ?h0 (fun H' he => ?_)); (case h0 => walk_at "row"))
    | ((with_reducible refine' call_Row_find ?h0 (fun p H' n h hn he hp hf => ?_)); (case h0 => walk_at "row"))
    | ((with_reducible refine' call_Row_heads ?h0 (fun p H' ts hn he hp hd => ?_)); (case h0 => walk_at "row"))
    | ((with_reducible refine' call_Row_codes ?h0 (fun p H' hn he hp => ?_)); (case h0 => walk_at "row"))
    | ((with_reducible refine' call_Row_room ?h0 (fun H' he => ?_)); (case h0 => walk_at "row"))
    | ((with_reducible refine' call_Row_opened ?h0 ?_); (case h0 => walk_at "row"))
    | ((with_reducible refine' call_Row_count_bits ?h0 (fun H' fp' R' hb hg => ?_)); (case h0 => walk_at "row"))
    | ((with_reducible refine' call_Row_bits_now ?h0 ?_); (case h0 => walk_at "row"))
    | ((with_reducible refine' call_Row_told ?h0 (fun H' he => ?_)); (case h0 => walk_at "row"))
    | ((with_reducible refine' call_Row_len ?h0 ?_); (case h0 => walk_at "row"))
    | ((with_reducible refine' call_Row_str ?h0 (fun H' he => ?_)); (case h0 => walk_at "row"))
    | ((with_reducible refine' call_Row_repr ?h0 (fun H' he => ?_)); (case h0 => walk_at "row"))
    | ((with_reducible refine' call_Row_eq ?h0 ?h1 (fun H' he => ?_)); (case h0 => walk_at "row"); (case h1 => walk_at "row"))
    | ((with_reducible refine' call_law_urn ?h0 ?h1 ?h2 ?h3 (fun u H' hn he hu => ?_)); (case h0 => assumption); (case h1 => walk_at "sd"); (case h2 => walk_at "sd"); (case h3 => walk_at "sd"))
    | ((with_reducible refine' call_law_draw ?h0 ?h1 ?h2 ?h3 (fun d H' h0 h1 hu hb => ?_)); (case h0 => walk_at "ur"); (case h1 => walk_at "sd"); (case h2 => walk_at "sd"); (case h3 => walk_at "sd"))
    | ((with_reducible refine' call_law_whole ?_))
    | ((with_reducible refine' call_law_bits ?h0 ?h1 ?h2 ?h3 (fun l H' h0 h1 hu hb => ?_)); (case h0 => walk_at "ur"); (case h1 => walk_at "sd"); (case h2 => walk_at "sd"); (case h3 => walk_at "sd"))
    | ((with_reducible refine' call_law_runs ?h0 (fun p H' hn he hp => ?_)); (case h0 => walk_at "sd"))
    | ((with_reducible refine' call_law_number_code ?h0 ?h1 (fun H' he => ?_)); (case h0 => walk_at "sd"); (case h1 => walk_at "sd"))
    | ((with_reducible refine' call_law_codes ?h0 ?h1 (fun p H' hn he hp => ?_)); (case h0 => walk_at "sd"); (case h1 => walk_at "sd"))
    | ((with_reducible refine' call_law_code ?h0 ?h1 (fun H' he => ?_)); (case h0 => walk_at "sd"); (case h1 => walk_at "sd"))
    | ((with_reducible refine' call_law_head ?h0 ?h1 (fun p H' m hn he hp hm => ?_)); (case h0 => walk_at "sd"); (case h1 => walk_at "sd"))
    | ((with_reducible refine' call_law_wide ?h0 ?h1 (fun z H' h0 h1 hu hb => ?_)); (case h0 => walk_at "ur"); (case h1 => walk_at "sd"))
    | fail "none")
  | ((with_reducible refine' mk_Row ?h0 ?h1 ?h2 ?h3 ?h4 ?h5 ?h6 (fun x H' fp nx R nf he => ?_)); (case h0 => rfl); (case h1 => rfl); (case h2 => exact fun _ => rfl); (case h3 => assumption); (case h4 => walk_at "sd"); (case h5 => walk_at "sd"); (case h6 => walk_at "sd"))
  | ((with_reducible refine' zmethR_ ?h0 ?h1 ?_); (case h0 => walk_at "row"); (case h1 => exact fun _ _ _ _ _ => rfl))
  | ((with_reducible refine' ownR_ ?h0 ?_); (case h0 => walk_at "row"))
  | ((with_reducible refine' eqR_ ?h0 ?h1 ?_); (case h0 => walk_at "row"); (case h1 => walk_at "row"))
  | ((with_reducible refine' neR_ ?h0 ?h1 ?_); (case h0 => walk_at "row"); (case h1 => walk_at "row"))
  | ((with_reducible refine' isR_ ?h0 ?h1 ?h2 ?_); (case h0 => walk_at "row"); (case h1 => assumption); (case h2 => assumption))
  | ((with_reducible refine' sizeR_ ?h0 ?h1 ?h2 ?_); (case h0 => walk_at "row"); (case h1 => assumption); (case h2 => assumption))
  | fail "none")
local macro_rules | `(tactic| walk_at "t") => `(tactic| first
  | ((with_reducible refine' gdP ?_); first
    | ((with_reducible refine' cs_Row_heads_nil ?h0 ?h1 (fun p H' s => ?_)); (case h0 => assumption); (case h1 => walk_at "pk"))
    | ((with_reducible refine' cb_Row_heads ?h0 ?h1 (fun p H' ts s => ?_)); (case h0 => assumption); (case h1 => walk_at "pk"))
    | ((with_reducible refine' cb_Row_codes ?h0 ?h1 (fun p H' s => ?_)); (case h0 => assumption); (case h1 => walk_at "pk"))
    | ((with_reducible refine' cb_Row_room ?h0 ?h1 (fun H' s => ?_)); (case h0 => assumption); (case h1 => walk_at "pk"))
    | ((with_reducible refine' cb_Row_opened ?h0 ?h1 ?_); (case h0 => assumption); (case h1 => walk_at "pk"))
    | ((with_reducible refine' cs_Row_bit ?h0 ?h1 ?h2 ?h3 (fun H' s => ?_)); (case h0 => assumption); (case h1 => walk_at "pk"); (case h2 => walk_at "sd"); (case h3 => walk_at "at"))
    | ((with_reducible refine' cs_Row_ahead1 ?h0 ?h1 ?h2 ?h3 (fun H' s => ?_)); (case h0 => assumption); (case h1 => walk_at "pk"); (case h2 => walk_at "sd"); (case h3 => walk_at "sd"))
    | ((with_reducible refine' cs_Row_ahead0 ?h0 ?h1 ?h2 ?h3 (fun H' s => ?_)); (case h0 => assumption); (case h1 => walk_at "pk"); (case h2 => walk_at "sd"); (case h3 => walk_at "sd"))
    | ((with_reducible refine' cs_Row_nth ?h0 ?h1 ?h2 ?h3 ?h4 (fun i H' e s => ?_)); (case h0 => assumption); (case h1 => walk_at "pk"); (case h2 => walk_at "sd"); (case h3 => walk_at "sd"); (case h4 => walk_at "sd"))
    | ((with_reducible refine' cs_Row_depth ?h0 ?h1 ?h2 ?h3 (fun H' s => ?_)); (case h0 => assumption); (case h1 => walk_at "pk"); (case h2 => walk_at "sd"); (case h3 => walk_at "sd"))
    | ((with_reducible refine' cs_Row_put ?h0 ?h1 ?h2 ?h3 ?h4 ?h5 (fun H' s => ?_)); (case h0 => assumption); (case h1 => walk_at "pk"); (case h2 => walk_at "sd"); (case h3 => walk_at "sd"); (case h4 => walk_at "sd"); (case h5 => walk_at "sd"))
    | ((with_reducible refine' cs_Row_cut ?h0 ?h1 ?h2 ?h3 ?h4 (fun H' s => ?_)); (case h0 => assumption); (case h1 => walk_at "pk"); (case h2 => walk_at "sd"); (case h3 => walk_at "sd"); (case h4 => walk_at "sd"))
    | ((with_reducible refine' cs_Row_turn ?h0 ?h1 ?h2 ?h3 ?h4 (fun H' s => ?_)); (case h0 => assumption); (case h1 => walk_at "pk"); (case h2 => walk_at "sd"); (case h3 => walk_at "sd"); (case h4 => walk_at "at"))
    | ((with_reducible refine' cs_Row_bits_now ?h0 ?h1 ?_); (case h0 => assumption); (case h1 => walk_at "pk"))
    | ((with_reducible refine' cb_Row_bits_now ?h0 ?h1 ?_); (case h0 => assumption); (case h1 => walk_at "pk"))
    | ((with_reducible refine' cs_Row_told ?h0 ?h1 (fun H' s => ?_)); (case h0 => assumption); (case h1 => walk_at "pk"))
    | ((with_reducible refine' cb_Row_told ?h0 ?h1 (fun H' s => ?_)); (case h0 => assumption); (case h1 => walk_at "pk"))
    | ((with_reducible refine' cs_Row_len ?h0 ?h1 ?_); (case h0 => assumption); (case h1 => walk_at "pk"))
    | ((with_reducible refine' cb_Row_len ?h0 ?h1 ?_); (case h0 => assumption); (case h1 => walk_at "pk"))
    | ((with_reducible refine' cs_Row_str ?h0 ?h1 (fun H' s => ?_)); (case h0 => assumption); (case h1 => walk_at "pk"))
    | ((with_reducible refine' cb_Row_str ?h0 ?h1 (fun H' s => ?_)); (case h0 => assumption); (case h1 => walk_at "pk"))
    | ((with_reducible refine' cs_Row_repr ?h0 ?h1 (fun H' s => ?_)); (case h0 => assumption); (case h1 => walk_at "pk"))
    | ((with_reducible refine' cs_Row_eq_t ?h0 ?h1 ?h2 (fun H' s => ?_)); (case h0 => assumption); (case h1 => walk_at "pk"); (case h2 => walk_at "pk"))
    | ((with_reducible refine' cs_Row_eq ?h0 ?h1 ?h2 (fun H' s => ?_)); (case h0 => assumption); (case h1 => walk_at "pk"); (case h2 => walk_at "pk"))
    | ((with_reducible refine' cs_law_urn ?h0 ?h1 ?h2 ?h3 ?h4 (fun u H' s => ?_)); (case h0 => assumption); (case h1 => walk_at "sq"); (case h2 => walk_at "sd"); (case h3 => walk_at "sd"); (case h4 => walk_at "sd"))
    | ((with_reducible refine' cs_law_draw ?h0 ?h1 ?h2 ?h3 ?h4 (fun d H' h0 h1 s => ?_)); (case h0 => assumption); (case h1 => walk_at "pk"); (case h2 => walk_at "sd"); (case h3 => walk_at "sd"); (case h4 => walk_at "sd"))
    | ((with_reducible refine' cs_law_bits ?h0 ?h1 ?h2 ?h3 ?h4 (fun l H' h0 h1 s => ?_)); (case h0 => assumption); (case h1 => walk_at "pk"); (case h2 => walk_at "sd"); (case h3 => walk_at "sd"); (case h4 => walk_at "sd"))
    | ((with_reducible refine' cs_law_wide ?h0 ?h1 ?h2 (fun z H' h0 h1 s => ?_)); (case h0 => assumption); (case h1 => walk_at "pk"); (case h2 => walk_at "sd"))
    | ((with_reducible refine' cs_law_row_right ?h0 ?h1 ?h2 (fun H' s => ?_)); (case h0 => assumption); (case h1 => walk_at "pk"); (case h2 => walk_at "sd"))
    | fail "none")
  | ((with_reducible refine' cs_mk_Row ?h0 ?h1 ?h2 ?h3 ?h4 ?h5 ?h6 ?h7 (fun x H' s => ?_)); (case h0 => assumption); (case h1 => rfl); (case h2 => rfl); (case h3 => exact fun _ => rfl); (case h4 => assumption); (case h5 => walk_at "sd"); (case h6 => walk_at "sd"); (case h7 => walk_at "sd"))
  | ((with_reducible refine' zmethS_ ?h0 ?h1 ?h2 ?_); (case h0 => assumption); (case h1 => walk_at "pk"); (case h2 => exact fun _ _ _ _ _ => rfl))
  | ((with_reducible refine' ownS_ ?h0 ?h1 ?_); (case h0 => assumption); (case h1 => walk_at "pk"))
  | ((with_reducible refine' eqS_ ?h0 ?h1 ?h2 ?_); (case h0 => assumption); (case h1 => walk_at "pk"); (case h2 => walk_at "pk2"))
  | ((with_reducible refine' neqS_ ?h0 ?h1 ?h2 ?_); (case h0 => assumption); (case h1 => walk_at "pk"); (case h2 => walk_at "pk2"))
  | ((with_reducible refine' isS_ ?h0 ?h1 ?h2 ?h3 ?_); (case h0 => assumption); (case h1 => walk_at "pk"); (case h2 => assumption); (case h3 => assumption))
  | ((with_reducible refine' sizeS_ ?h0 ?h1 ?h2 ?h3 ?_); (case h0 => assumption); (case h1 => walk_at "pk"); (case h2 => assumption); (case h3 => assumption))
  | ((with_reducible refine' eqXS_ ?h0 ?h1 ?h2 ?_); (case h0 => assumption); (case h1 => walk_at "pk"); (case h2 => walk_at "pk"))
  | ((with_reducible refine' neXS_ ?h0 ?h1 ?h2 ?_); (case h0 => assumption); (case h1 => walk_at "pk"); (case h2 => walk_at "pk"))
  | ((with_reducible refine' bmC_ ?_))
  | ((with_reducible refine' clear_S ?h0 ?h1 (fun H' s => ?_)); (case h0 => assumption); (case h1 => walk_at "rp"))
  | fail "none")
local macro_rules | `(tactic| walk_at "a85c4f338") => `(tactic| ((with_reducible refine' seq_asg ?_)))
local macro_rules | `(tactic| walk_at "ad15d6c32") => `(tactic| ((with_reducible refine' c_ ?_)))
local macro_rules | `(tactic| walk_at "a3d76496c") => `(tactic| ((with_reducible refine' norm ?h0 ?_); (case h0 => (dsimp only [List.set_cons_zero, List.set_cons_succ] <;> exact rfl))))
local macro_rules | `(tactic| walk_at "ae44f4543") => `(tactic| ((with_reducible refine' if_ ?_)))
local macro_rules | `(tactic| walk_at "a668f72f2") => `(tactic| ((with_reducible refine' test_ ?_)))
local macro_rules | `(tactic| walk_at "a2c441c41") => `(tactic| ((with_reducible refine' op_ ?_)))
local macro_rules | `(tactic| walk_at "ad25b13d2") => `(tactic| ((with_reducible refine' var_ ?h0 ?_); (case h0 => exact rfl)))
local macro_rules | `(tactic| walk_at "a33f2f4b5") => `(tactic| ((with_reducible refine' cb_ ?_)))
local macro_rules | `(tactic| walk_at "ae1f83bb8") => `(tactic| ((with_reducible refine' cons_ ?_)))
local macro_rules | `(tactic| walk_at "afef05d44") => `(tactic| ((with_reducible refine' nil_ ?_)))
local macro_rules | `(tactic| walk_at "a1547b0ad") => `(tactic| ((with_reducible refine' lenSq ?h0 ?_); (case h0 => walk_at "sq")))
local macro_rules | `(tactic| walk_at "a3d0fbaf8") => `(tactic| ((with_reducible refine' ltI ?_)))
local macro_rules | `(tactic| walk_at "a8a699a1b") => `(tactic| ((with_reducible refine' zb_ ?_)))
local macro_rules | `(tactic| walk_at "a7f6d4dcc") => `(tactic| ((with_reducible refine' asg_ ?_)))
local macro_rules | `(tactic| walk_at "a69494a1c") => `(tactic| ((with_reducible refine' ixSq ?h0 ?h1 ?_); (case h0 => walk_at "sq"); (case h1 => walk_at "at")))
local macro_rules | `(tactic| walk_at "a28557e3a") => `(tactic| ((with_reducible refine' nx_ ?h0 ?_); (case h0 => (dsimp only <;> exact rfl))))
local macro_rules | `(tactic| walk_at "a3cf0dcf0") => `(tactic| ((with_reducible refine' next_ ?_)))
local macro_rules | `(tactic| walk_at "a2b8e5920") => `(tactic| ((with_reducible refine' abs_ ?_)))
local macro_rules | `(tactic| walk_at "af089cc0c") => `(tactic| ((with_reducible refine' powI ?h0 ?_); (case h0 => first | with_reducible assumption | exact pow_ok (by decide))))
local macro_rules | `(tactic| walk_at "ac39ddb8c") => `(tactic| ((with_reducible refine' ret_ ?_)))
local macro_rules | `(tactic| walk_at "afaa010ed") => `(tactic| ((with_reducible refine' lst_ ?_)))
local macro_rules | `(tactic| walk_at "a2b2fa54d") => `(tactic| ((with_reducible refine' modI ?h0 ?_); (case h0 => walk_at "sd")))
local macro_rules | `(tactic| walk_at "a7bf746b0") => `(tactic| ((with_reducible refine' mulI ?h0 ?_); (case h0 => first | exact mul_ok1 (by omega) (by omega) | exact mul_ok2 (by omega) (by omega) | with_reducible assumption)))
local macro_rules | `(tactic| walk_at "a470d4ce9") => `(tactic| ((with_reducible refine' addI ?_)))
local macro_rules | `(tactic| walk_at "a22972083") => `(tactic| ((with_reducible refine' zlst_ ?h0 (fun p H' hn he hp => ?_)); (case h0 => walk_at "sd")))
local macro_rules | `(tactic| walk_at "a8f7cfc14") => `(tactic| ((with_reducible refine' rt_ ?h0 ?_); (case h0 => (dsimp only <;> exact rfl))))
local macro_rules | `(tactic| walk_at "a4584bbba") => `(tactic| ((with_reducible refine' seq_if ?_)))
local macro_rules | `(tactic| walk_at "a5c5685b7") => `(tactic| ((with_reducible refine' ixL ?h0 ?h1 ?_); (case h0 => walk_at "lk"); (case h1 => walk_at "at")))
local macro_rules | `(tactic| walk_at "a2251479c") => `(tactic| ((with_reducible refine' gtI ?_)))
local macro_rules | `(tactic| walk_at "a43bf46d2") => `(tactic| ((with_reducible refine' seq_asgG ?_)))
local macro_rules | `(tactic| walk_at "a9f846afb") => `(tactic| ((with_reducible refine' divI ?h0 ?h1 ?_); (case h0 => walk_at "sd"); (case h1 => walk_at "sd")))
local macro_rules | `(tactic| walk_at "a114ee3de") => `(tactic| ((with_reducible refine' gsub_ ?_)))
local macro_rules | `(tactic| walk_at "a9857b6e3") => `(tactic| ((with_reducible refine' setL_ ?h0 ?h1 (fun H' hp hb => ?_)); (case h0 => walk_at "lk"); (case h1 => first | rfl | assumption)))
local macro_rules | `(tactic| walk_at "ab6f4d09a") => `(tactic| ((with_reducible refine' tup_ ?_)))
local macro_rules | `(tactic| walk_at "a0139b3e0") => `(tactic| ((with_reducible refine' ztup_ ?h0 (fun p H' hn he hp => ?_)); (case h0 => walk_at "sd")))
local macro_rules | `(tactic| walk_at "a2cdecdaf") => `(tactic| ((with_reducible refine' ixU ?h0 ?h1 ?_); (case h0 => walk_at "lk"); (case h1 => walk_at "at")))
local macro_rules | `(tactic| walk_at "acdbb3963") => `(tactic| ((with_reducible refine' c1_ ?_)))
local macro_rules | `(tactic| walk_at "a36af51d3") => `(tactic| ((with_reducible refine' call_law_draw ?h0 ?h1 ?h2 ?h3 (fun d H' h0 h1 hu hb => ?_)); (case h0 => walk_at "ur"); (case h1 => walk_at "sd"); (case h2 => walk_at "sd"); (case h3 => walk_at "sd")))
local macro_rules | `(tactic| walk_at "a91c550d3") => `(tactic| ((with_reducible refine' seq_par ?_)))
local macro_rules | `(tactic| walk_at "a843fc401") => `(tactic| ((with_reducible refine' zpar_ ?_)))
local macro_rules | `(tactic| walk_at "a8253931e") => `(tactic| ((with_reducible refine' seq_ ?_)))
local macro_rules | `(tactic| walk_at "a6ebb81e6") => `(tactic| ((with_reducible refine' lenS ?h0 ?_); (case h0 => walk_at "sd")))
local macro_rules | `(tactic| walk_at "ab84a1bc3") => `(tactic| ((with_reducible refine' eqI ?_)))
local macro_rules | `(tactic| walk_at "a4657a1b3") => `(tactic| ((with_reducible refine' ixS ?h0 ?h1 ?_); (case h0 => walk_at "sd"); (case h1 => walk_at "at")))
local macro_rules | `(tactic| walk_at "a4e0c8928") => `(tactic| ((with_reducible refine' addS ?h0 ?_); (case h0 => walk_at "sd")))
local macro_rules | `(tactic| walk_at "a1d30e24a") => `(tactic| ((with_reducible refine' mulS ?h0 ?h1 ?h2 ?_); (case h0 => walk_at "sd"); (case h1 => walk_at "sd"); (case h2 => walk_at "sd")))
local macro_rules | `(tactic| walk_at "a8c4e17e3") => `(tactic| ((with_reducible refine' subI ?_)))
local macro_rules | `(tactic| walk_at "a1e0e6469") => `(tactic| ((with_reducible refine' sl_ ?_)))
local macro_rules | `(tactic| walk_at "a67128e29") => `(tactic| ((with_reducible refine' nopart_ ?_)))
local macro_rules | `(tactic| walk_at "a0ebae3b6") => `(tactic| ((with_reducible refine' part_ ?_)))
local macro_rules | `(tactic| walk_at "a6a11b937") => `(tactic| ((with_reducible refine' zpart_ ?_)))
local macro_rules | `(tactic| walk_at "a55f8cc73") => `(tactic| ((with_reducible refine' slS ?h0 ?_); (case h0 => walk_at "sd")))
local macro_rules | `(tactic| walk_at "a1fccfa88") => `(tactic| ((with_reducible refine' seq_for ?_)))
local macro_rules | `(tactic| walk_at "aacce3769") => `(tactic| ((with_reducible refine' istr_ ?_)))
local macro_rules | `(tactic| walk_at "a04585a94") => `(tactic| ((with_reducible refine' zstr_ ?_)))
local macro_rules | `(tactic| walk_at "a1fdb1a90") => `(tactic| ((with_reducible refine' seq_aug ?h0 ?_); (case h0 => exact rfl)))
local macro_rules | `(tactic| walk_at "a3f49daff") => `(tactic| ((with_reducible refine' ifE_ ?_)))
local macro_rules | `(tactic| walk_at "ae5260597") => `(tactic| ((with_reducible refine' eqS ?_)))
local macro_rules | `(tactic| walk_at "a66a76921") => `(tactic| ((with_reducible refine' iaddI ?_)))
local macro_rules | `(tactic| walk_at "a5ba7d5f5") => `(tactic| ((with_reducible refine' drop_ ?_)))
local macro_rules | `(tactic| walk_at "ad1b438b8") => `(tactic| ((with_reducible refine' bm_ ?_)))
local macro_rules | `(tactic| walk_at "a39154dd1") => `(tactic| ((with_reducible refine' zbmL_ ?h0 ?_); (case h0 => walk_at "lk")))
local macro_rules | `(tactic| walk_at "a320e47f0") => `(tactic| ((with_reducible refine' append_ ?h0 ?h1 (fun H' hp hb => ?_)); (case h0 => walk_at "lk"); (case h1 => walk_at "sd")))
local macro_rules | `(tactic| walk_at "af5a97b89") => `(tactic| ((with_reducible refine' un_ ?_)))
local macro_rules | `(tactic| walk_at "a250d16b4") => `(tactic| ((with_reducible refine' negI ?_)))
local macro_rules | `(tactic| walk_at "a59adc9ff") => `(tactic| ((with_reducible refine' divmod_ ?h0 ?h1 (fun p H' hn he hp => ?_)); (case h0 => walk_at "sd"); (case h1 => walk_at "sd")))
local macro_rules | `(tactic| walk_at "afbecc87a") => `(tactic| ((with_reducible refine' gtup_ ?h0 ?h1 ?_); (case h0 => walk_at "lk"); (case h1 => rfl)))
local macro_rules | `(tactic| walk_at "a54305b80") => `(tactic| ((with_reducible refine' gcons_ ?_)))
local macro_rules | `(tactic| walk_at "a3beb7cd4") => `(tactic| ((with_reducible refine' gname_ ?_)))
local macro_rules | `(tactic| walk_at "abc6e375f") => `(tactic| ((with_reducible refine' gnil_ ?_)))
local macro_rules | `(tactic| walk_at "a0449213e") => `(tactic| ((with_reducible refine' call_figures_of ?h0 ?h1 (fun H' he => ?_)); (case h0 => walk_at "sd"); (case h1 => walk_at "sd")))
local macro_rules | `(tactic| walk_at "a59e1a248") => `(tactic| ((with_reducible refine' augS_ ?_)))
local macro_rules | `(tactic| walk_at "a8da086e8") => `(tactic| ((with_reducible refine' getL_ ?h0 ?h1 ?_); (case h0 => walk_at "lk"); (case h1 => walk_at "at")))
local macro_rules | `(tactic| walk_at "af6af6ffb") => `(tactic| ((with_reducible refine' m1_ ?_)))
local macro_rules | `(tactic| walk_at "a90efc992") => `(tactic| ((with_reducible refine' zm1_ ?_)))
local macro_rules | `(tactic| walk_at "a2eb9ad30") => `(tactic| ((with_reducible refine' lc_ ?_)))
local macro_rules | `(tactic| walk_at "a27ff4d3c") => `(tactic| ((with_reducible refine' ilist_ ?_)))
local macro_rules | `(tactic| walk_at "a60ffaf0d") => `(tactic| ((with_reducible refine' call_runs_of ?h0 (fun p H' hn he hp => ?_)); (case h0 => walk_at "sd")))
local macro_rules | `(tactic| walk_at "a4e297517") => `(tactic| ((with_reducible refine' zlist_ ?h0 ?_); (case h0 => walk_at "lk")))
local macro_rules | `(tactic| walk_at "a85adec00") => `(tactic| ((with_reducible refine' call_number_code ?h0 ?h1 (fun H' he => ?_)); (case h0 => walk_at "sd"); (case h1 => walk_at "sd")))
local macro_rules | `(tactic| walk_at "a9fb61089") => `(tactic| ((with_reducible refine' call_code_plain ?h0 (fun H' he => ?_)); (case h0 => walk_at "sd")))
local macro_rules | `(tactic| walk_at "a93f87247") => `(tactic| ((with_reducible refine' call_code_runs ?h0 ?h1 (fun H' he => ?_)); (case h0 => walk_at "sd"); (case h1 => walk_at "sd")))
local macro_rules | `(tactic| walk_at "af2623f90") => `(tactic| ((with_reducible refine' leI ?_)))
local macro_rules | `(tactic| walk_at "a4975cdfa") => `(tactic| ((with_reducible refine' irng3_ ?_)))
local macro_rules | `(tactic| walk_at "aa641d4b3") => `(tactic| ((with_reducible refine' fld_ ?_)))
local macro_rules | `(tactic| walk_at "abfee9271") => `(tactic| ((with_reducible refine' sizeR_ ?h0 ?h1 ?h2 ?_); (case h0 => walk_at "row"); (case h1 => assumption); (case h2 => assumption)))
local macro_rules | `(tactic| walk_at "a83f44b7e") => `(tactic| ((with_reducible refine' zrng3_ ?h0 ?h1 ?h2 ?h3 ?_); (case h0 => walk_at "sd"); (case h1 => walk_at "sd"); (case h2 => walk_at "sd"); (case h3 => walk_at "sd")))
local macro_rules | `(tactic| walk_at "af96afe5f") => `(tactic| ((with_reducible refine' zw_ ?h0 ?_); (case h0 => exact rfl)))
local macro_rules | `(tactic| walk_at "a35c9178e") => `(tactic| ((with_reducible refine' tyes_ ?_)))
local macro_rules | `(tactic| walk_at "a97db19fa") => `(tactic| ((with_reducible refine' zput_t ?_)))
local macro_rules | `(tactic| walk_at "ad2d1ffb7") => `(tactic| ((with_reducible refine' call_head_of ?h0 ?h1 ?h2 (fun p H' m hn he hp hm => ?_)); (case h0 => assumption); (case h1 => walk_at "sd"); (case h2 => walk_at "sd")))
local macro_rules | `(tactic| walk_at "ad524b7b3") => `(tactic| ((with_reducible refine' gslice_ ?_)))
local macro_rules | `(tactic| walk_at "a2bbc0fda") => `(tactic| ((with_reducible refine' zfld_ ?h0 ?h1 ?h2 ?h3 ?_); (case h0 => walk_at "lk"); (case h1 => assumption); (case h2 => assumption); (case h3 => exact rfl)))
local macro_rules | `(tactic| walk_at "a494fa65e") => `(tactic| ((with_reducible refine' zsls_ ?h0 ?h1 ?h2 ?h3 ?h4 ?h5 (fun H' hp hb => ?_)); (case h0 => walk_at "lk"); (case h1 => walk_at "lk"); (case h2 => walk_at "ne"); (case h3 => walk_at "sd"); (case h4 => walk_at "sd"); (case h5 => walk_at "sd")))
local macro_rules | `(tactic| walk_at "aee1b00cb") => `(tactic| ((with_reducible refine' asgG_ ?_)))
local macro_rules | `(tactic| walk_at "ac3e219a9") => `(tactic| ((with_reducible refine' call_code_of ?h0 ?h1 (fun H' he => ?_)); (case h0 => walk_at "sd"); (case h1 => walk_at "sd")))
local macro_rules | `(tactic| walk_at "aaab3d0ba") => `(tactic| ((with_reducible refine' fldS_ ?_)))
local macro_rules | `(tactic| walk_at "a22093df9") => `(tactic| ((with_reducible refine' mulL ?h0 ?h1 ?h2 ?h3 (fun p H' hn he hp => ?_)); (case h0 => walk_at "lk"); (case h1 => walk_at "sd"); (case h2 => walk_at "sd"); (case h3 => walk_at "sd")))
local macro_rules | `(tactic| walk_at "aec654b28") => `(tactic| ((with_reducible refine' zset_ ?h0 ?h1 ?h2 ?h3 ?h4 (fun H' hp hb => ?_)); (case h0 => walk_at "lk"); (case h1 => assumption); (case h2 => assumption); (case h3 => walk_at "sd"); (case h4 => (simp (decide := true) only [putF, if_false, if_true] <;> exact rfl))))
local macro_rules | `(tactic| walk_at "a29d25caa") => `(tactic| ((with_reducible refine' seq_drop ?_)))
local macro_rules | `(tactic| walk_at "a1994a4b5") => `(tactic| ((with_reducible refine' errI_ ?_)))
local macro_rules | `(tactic| walk_at "a0205dc8a") => `(tactic| ((with_reducible refine' zerrI_ ?h0 ?h1 ?h2 ?_); (case h0 => assumption); (case h1 => walk_at "lk"); (case h2 => walk_at "sd")))
local macro_rules | `(tactic| walk_at "a02880656") => `(tactic| ((with_reducible refine' errS_ ?_)))
local macro_rules | `(tactic| walk_at "ac74702f2") => `(tactic| ((with_reducible refine' zerrS_ ?h0 ?h1 ?h2 (fun dx nd ne => ?_)); (case h0 => assumption); (case h1 => assumption); (case h2 => walk_at "lk")))
local macro_rules | `(tactic| walk_at "a2c422e4c") => `(tactic| ((with_reducible refine' or_ ?_)))
local macro_rules | `(tactic| walk_at "a35e1d11b") => `(tactic| ((with_reducible refine' not_ ?_)))
local macro_rules | `(tactic| walk_at "a5ca36a29") => `(tactic| ((with_reducible refine' tb_ ?_)))
local macro_rules | `(tactic| walk_at "af08ba47b") => `(tactic| ((with_reducible refine' isSS_ ?_)))
local macro_rules | `(tactic| walk_at "ad25f38df") => `(tactic| ((with_reducible refine' zor_nT ?_)))
local macro_rules | `(tactic| walk_at "a1fcbcf3e") => `(tactic| ((with_reducible refine' zif_df ?h0 ?_); (case h0 => walk_at "sd")))
local macro_rules | `(tactic| walk_at "ae4e945db") => `(tactic| ((with_reducible refine' for_ ?_)))
local macro_rules | `(tactic| walk_at "a5c94feb2") => `(tactic| ((with_reducible refine' ient_ ?_)))
local macro_rules | `(tactic| walk_at "a113e001c") => `(tactic| ((with_reducible refine' zent_ ?_)))
local macro_rules | `(tactic| walk_at "a9fc98b3a") => `(tactic| ((with_reducible refine' niS ?_)))
local macro_rules | `(tactic| walk_at "a61eea2e0") => `(tactic| ((with_reducible refine' zif_nf ?h0 ?_); (case h0 => walk_at "sd")))
local macro_rules | `(tactic| walk_at "a57fa1fa6") => `(tactic| ((with_reducible refine' call_look_bits ?h0 ?h1 (fun H' he => ?_)); (case h0 => assumption); (case h1 => walk_at "sd")))
local macro_rules | `(tactic| walk_at "af7513220") => `(tactic| ((with_reducible refine' seq_fld ?_)))
local macro_rules | `(tactic| walk_at "abe2830cc") => `(tactic| ((with_reducible refine' mk_ ?_)))
local macro_rules | `(tactic| walk_at "af3be9463") => `(tactic| ((with_reducible refine' zmeth_ ?h0 ?h1 ?_); (case h0 => walk_at "lk"); (case h1 => exact rfl)))
local macro_rules | `(tactic| walk_at "a16f6b169") => `(tactic| ((with_reducible refine' zck_ ?h0 ?h1 ?h2 ?_); (case h0 => rfl); (case h1 => rfl); (case h2 => (dsimp only [List.cons_append, List.nil_append, List.append_nil] <;> exact rfl))))
local macro_rules | `(tactic| walk_at "ad49e4b9c") => `(tactic| ((with_reducible refine' zmethR_ ?h0 ?h1 ?_); (case h0 => walk_at "row"); (case h1 => exact fun _ _ _ _ _ => rfl)))
local macro_rules | `(tactic| walk_at "a51a77144") => `(tactic| ((with_reducible refine' call_Row_count_bits ?h0 (fun H' fp' R' hb hg => ?_)); (case h0 => walk_at "row")))
local macro_rules | `(tactic| walk_at "a54b21fd8") => `(tactic| ((with_reducible refine' listRL_ ?h0 (fun p H' hn he hp => ?_)); (case h0 => walk_at "lk")))
local macro_rules | `(tactic| walk_at "a91805707") => `(tactic| ((with_reducible refine' sumK_ ?_)))
local macro_rules | `(tactic| walk_at "a77f93157") => `(tactic| ((with_reducible refine' lenL ?h0 ?_); (case h0 => walk_at "lk")))
local macro_rules | `(tactic| walk_at "a6b0b43bd") => `(tactic| ((with_reducible refine' zsumK_ ?h0 ?h1 ?h2 ?_); (case h0 => walk_at "lk"); (case h1 => walk_at "sd"); (case h2 => walk_at "sd")))
local macro_rules | `(tactic| walk_at "a4c4c815b") => `(tactic| ((with_reducible refine' andV_ ?_)))
local macro_rules | `(tactic| walk_at "a6b70d538") => `(tactic| ((with_reducible refine' isII_ ?_)))
local macro_rules | `(tactic| walk_at "a5012d8eb") => `(tactic| ((with_reducible refine' zandv_t ?_)))
local macro_rules | `(tactic| walk_at "a3ec61437") => `(tactic| ((with_reducible refine' notV_ ?_)))
local macro_rules | `(tactic| walk_at "a506fd48c") => `(tactic| ((with_reducible refine' isIB_ ?_)))
local macro_rules | `(tactic| walk_at "adffed13f") => `(tactic| ((with_reducible refine' znotv_ ?_)))
local macro_rules | `(tactic| walk_at "acc1d1fd7") => `(tactic| ((with_reducible refine' irng2_ ?_)))
local macro_rules | `(tactic| walk_at "a02aad737") => `(tactic| ((with_reducible refine' zrng2_ ?h0 ?h1 ?h2 ?h3 ?_); (case h0 => walk_at "sd"); (case h1 => walk_at "sd"); (case h2 => walk_at "sd"); (case h3 => walk_at "sd")))
local macro_rules | `(tactic| walk_at "a31fe18c6") => `(tactic| ((with_reducible refine' count_ ?_)))
local macro_rules | `(tactic| walk_at "ad0a676ba") => `(tactic| ((with_reducible refine' strZI_ ?h0 ?h1 ?_); (case h0 => walk_at "sd"); (case h1 => walk_at "sd")))
local macro_rules | `(tactic| walk_at "a641c25ec") => `(tactic| ((with_reducible refine' and_ ?_)))
local macro_rules | `(tactic| walk_at "a7b130abd") => `(tactic| ((with_reducible refine' zif_f ?_)))
local macro_rules | `(tactic| walk_at "a51176d3b") => `(tactic| ((with_reducible refine' call_law_runs ?h0 (fun p H' hn he hp => ?_)); (case h0 => walk_at "sd")))
local macro_rules | `(tactic| walk_at "a99b2fe25") => `(tactic| ((with_reducible refine' call_law_number_code ?h0 ?h1 (fun H' he => ?_)); (case h0 => walk_at "sd"); (case h1 => walk_at "sd")))
local macro_rules | `(tactic| walk_at "a79370720") => `(tactic| ((with_reducible refine' call_law_codes ?h0 ?h1 (fun p H' hn he hp => ?_)); (case h0 => walk_at "sd"); (case h1 => walk_at "sd")))
local macro_rules | `(tactic| walk_at "a66292a6d") => `(tactic| ((with_reducible refine' intB_ ?_)))
local macro_rules | `(tactic| walk_at "a67f98044") => `(tactic| ((with_reducible refine' call_Row_heads ?h0 (fun p H' ts hn he hp hd => ?_)); (case h0 => walk_at "row")))
local macro_rules | `(tactic| walk_at "a360f8aad") => `(tactic| ((with_reducible refine' call_Row_codes ?h0 (fun p H' hn he hp => ?_)); (case h0 => walk_at "row")))
local macro_rules | `(tactic| walk_at "ac1dcd89c") => `(tactic| ((with_reducible refine' isLL_ ?h0 ?_); (case h0 => walk_at "lk")))
local macro_rules | `(tactic| walk_at "a0631d19f") => `(tactic| ((with_reducible refine' neI ?_)))
local macro_rules | `(tactic| walk_at "abbd69ac7") => `(tactic| ((with_reducible refine' izip_ ?_)))
local macro_rules | `(tactic| walk_at "a7fe4a2b4") => `(tactic| ((with_reducible refine' zzip_ ?h0 ?h1 ?_); (case h0 => walk_at "lk"); (case h1 => walk_at "lk")))
local macro_rules | `(tactic| walk_at "aa8f1afbe") => `(tactic| ((with_reducible refine' isTT_ ?h0 ?_); (case h0 => walk_at "lk")))
local macro_rules | `(tactic| walk_at "aa4098cfb") => `(tactic| ((with_reducible refine' lenU ?h0 ?_); (case h0 => walk_at "lk")))
local macro_rules | `(tactic| walk_at "a4d105e21") => `(tactic| ((with_reducible refine' truth_ ?_)))
local macro_rules | `(tactic| walk_at "a1c248bac") => `(tactic| ((with_reducible refine' call_law_whole ?_)))
local macro_rules | `(tactic| walk_at "aa4050c9e") => `(tactic| ((with_reducible refine' ztru_b ?_)))
local macro_rules | `(tactic| walk_at "aee0885fa") => `(tactic| ((with_reducible refine' chain_ ?_)))
local macro_rules | `(tactic| walk_at "ac807d586") => `(tactic| ((with_reducible refine' zlink_dt ?h0 ?_); (case h0 => walk_at "sd")))
local macro_rules | `(tactic| walk_at "a7db866f9") => `(tactic| ((with_reducible refine' call_law_head ?h0 ?h1 (fun p H' m hn he hp hm => ?_)); (case h0 => walk_at "sd"); (case h1 => walk_at "sd")))
local macro_rules | `(tactic| walk_at "a485ea804") => `(tactic| ((with_reducible refine' neSS ?_)))
local macro_rules | `(tactic| walk_at "a018c9fb9") => `(tactic| ((with_reducible refine' zor_f ?_)))
local macro_rules | `(tactic| walk_at "a2be3a988") => `(tactic| ((with_reducible refine' call_law_code ?h0 ?h1 (fun H' he => ?_)); (case h0 => walk_at "sd"); (case h1 => walk_at "sd")))
local macro_rules | `(tactic| walk_at "ae44a36cf") => `(tactic| ((with_reducible refine' par3_ ?_)))
local macro_rules | `(tactic| walk_at "a75238d54") => `(tactic| ((with_reducible refine' zpar3_ ?_)))
local macro_rules | `(tactic| walk_at "a20677623") => `(tactic| ((with_reducible refine' eqII ?_)))
local macro_rules | `(tactic| walk_at "a287a4903") => `(tactic| ((with_reducible refine' call_Row_room ?h0 (fun H' he => ?_)); (case h0 => walk_at "row")))
local macro_rules | `(tactic| walk_at "a603f4d20") => `(tactic| ((with_reducible refine' eqSS ?_)))
local macro_rules | `(tactic| walk_at "a33ef3711") => `(tactic| ((with_reducible refine' ientK_ ?_)))
local macro_rules | `(tactic| walk_at "a26bb9237") => `(tactic| ((with_reducible refine' zenK_ ?h0 ?h1 ?_); (case h0 => walk_at "sd"); (case h1 => walk_at "sd")))
local macro_rules | `(tactic| walk_at "a5e4d02d8") => `(tactic| ((with_reducible refine' neS ?_)))
local macro_rules | `(tactic| walk_at "a59380daa") => `(tactic| ((with_reducible refine' intS_ ?h0 ?_); (case h0 => assumption)))
local macro_rules | `(tactic| walk_at "a503841f1") => `(tactic| ((with_reducible refine' idivI ?h0 ?h1 ?_); (case h0 => walk_at "sd"); (case h1 => walk_at "sd")))
local macro_rules | `(tactic| walk_at "a2b221546") => `(tactic| ((with_reducible refine' aug_ ?h0 ?_); (case h0 => exact rfl)))
local macro_rules | `(tactic| walk_at "a70b9c554") => `(tactic| ((with_reducible refine' imulI ?h0 ?h1 ?_); (case h0 => walk_at "sd"); (case h1 => walk_at "sd")))
local macro_rules | `(tactic| walk_at "a8f3de42f") => `(tactic| ((with_reducible refine' iaddS ?h0 ?_); (case h0 => walk_at "sd")))
local macro_rules | `(tactic| walk_at "a46806286") => `(tactic| ((with_reducible refine' call_other_bit ?h0 ?_); (case h0 => assumption)))
local macro_rules | `(tactic| walk_at "a539a4fa3") => `(tactic| ((with_reducible refine' zif_nT ?_)))
local macro_rules | `(tactic| walk_at "a4720205a") => `(tactic| ((with_reducible refine' call_read_plain ?h0 ?h1 ?h2 (fun H' he => ?_)); (case h0 => assumption); (case h1 => walk_at "sd"); (case h2 => walk_at "sd")))
local macro_rules | `(tactic| walk_at "a078429d8") => `(tactic| ((with_reducible refine' call_read_runs ?h0 ?h1 ?h2 (fun H' he => ?_)); (case h0 => assumption); (case h1 => walk_at "sd"); (case h2 => walk_at "sd")))
local macro_rules | `(tactic| walk_at "adf5d9063") => `(tactic| ((with_reducible refine' call_Row_told ?h0 (fun H' he => ?_)); (case h0 => walk_at "row")))
local macro_rules | `(tactic| walk_at "a92202ac4") => `(tactic| ((with_reducible refine' strZS_ ?_)))
local macro_rules | `(tactic| walk_at "afc056343") => `(tactic| ((with_reducible refine' joined_ ?_)))
local macro_rules | `(tactic| walk_at "abddc1dc2") => `(tactic| ((with_reducible refine' js_ ?_)))
local macro_rules | `(tactic| walk_at "ab27078af") => `(tactic| ((with_reducible refine' zjs_ ?h0 ?_); (case h0 => walk_at "sd")))
local macro_rules | `(tactic| walk_at "a260e2e15") => `(tactic| ((with_reducible refine' fmt_ ?_)))
local macro_rules | `(tactic| walk_at "a1e1c4e90") => `(tactic| ((with_reducible refine' zfmtS_ ?h0 ?_); (case h0 => walk_at "sd")))
local macro_rules | `(tactic| walk_at "a124dfa37") => `(tactic| ((with_reducible refine' zfmtI_ ?h0 ?h1 ?_); (case h0 => walk_at "sd"); (case h1 => walk_at "sd")))
local macro_rules | `(tactic| walk_at "a364bf6fa") => `(tactic| ((with_reducible refine' jsn_ ?_)))
local macro_rules | `(tactic| walk_at "abf1fe2f0") => `(tactic| ((with_reducible refine' ownR_ ?h0 ?_); (case h0 => walk_at "row")))
local macro_rules | `(tactic| walk_at "a864961d0") => `(tactic| ((with_reducible refine' zsp_ ?h0 ?_); (case h0 => (dsimp only [List.cons_append, List.nil_append, List.append_nil] <;> exact rfl))))
local macro_rules | `(tactic| walk_at "a20923723") => `(tactic| ((with_reducible refine' call_Row_len ?h0 ?_); (case h0 => walk_at "row")))
local macro_rules | `(tactic| walk_at "a5fd2d66a") => `(tactic| ((with_reducible refine' isLen_ ?h0 ?_); (case h0 => walk_at "sd")))
local macro_rules | `(tactic| walk_at "aaa788875") => `(tactic| ((with_reducible refine' call_Row_str ?h0 (fun H' he => ?_)); (case h0 => walk_at "row")))
local macro_rules | `(tactic| walk_at "a79b2481a") => `(tactic| ((with_reducible refine' isTxt_ ?_)))
local macro_rules | `(tactic| walk_at "a73460f0a") => `(tactic| ((with_reducible refine' isLenB_ ?h0 ?_); (case h0 => walk_at "sd")))
local macro_rules | `(tactic| walk_at "a33a3f648") => `(tactic| ((with_reducible refine' call_Row_repr ?h0 (fun H' he => ?_)); (case h0 => walk_at "row")))
local macro_rules | `(tactic| walk_at "a64b801b7") => `(tactic| ((with_reducible refine' zif_nF ?_)))
local macro_rules | `(tactic| walk_at "aa73590da") => `(tactic| ((with_reducible refine' isR_ ?h0 ?h1 ?h2 ?_); (case h0 => walk_at "row"); (case h1 => assumption); (case h2 => assumption)))
local macro_rules | `(tactic| walk_at "a0f5af2e7") => `(tactic| ((with_reducible refine' eqXS_ ?h0 ?h1 ?h2 ?_); (case h0 => assumption); (case h1 => walk_at "pk"); (case h2 => walk_at "pk")))
local macro_rules | `(tactic| walk_at "a1d02c975") => `(tactic| ((with_reducible refine' cs_Row_eq ?h0 ?h1 ?h2 (fun H' s => ?_)); (case h0 => assumption); (case h1 => walk_at "pk"); (case h2 => walk_at "pk")))
local macro_rules | `(tactic| walk_at "ac9dfb40e") => `(tactic| ((with_reducible refine' exB_ ?_)))
local macro_rules | `(tactic| walk_at "abebd801b") => `(tactic| ((with_reducible refine' neXS_ ?h0 ?h1 ?h2 ?_); (case h0 => assumption); (case h1 => walk_at "pk"); (case h2 => walk_at "pk")))
local macro_rules | `(tactic| walk_at "a87bbd38c") => `(tactic| ((with_reducible refine' exN_ ?_)))
local macro_rules | `(tactic| walk_at "a5a35570c") => `(tactic| ((with_reducible refine' zlst_ ?h0 (new_S ?n0 fun p H' s => ?_)); (case h0 => walk_at "sd"); (case n0 => with_reducible assumption)))
local macro_rules | `(tactic| walk_at "a667a4238") => `(tactic| ((with_reducible refine' irng1_ ?_)))
local macro_rules | `(tactic| walk_at "af540029c") => `(tactic| ((with_reducible refine' min2_ ?_)))
local macro_rules | `(tactic| walk_at "a85357d03") => `(tactic| ((with_reducible refine' max2_ ?_)))
local macro_rules | `(tactic| walk_at "a02753dc7") => `(tactic| ((with_reducible refine' zrng1_ ?h0 ?h1 ?_); (case h0 => walk_at "sd"); (case h1 => walk_at "sd")))
local macro_rules | `(tactic| walk_at "a174a02dd") => `(tactic| ((with_reducible refine' cs_law_urn ?h0 ?h1 ?h2 ?h3 ?h4 (fun u H' s => ?_)); (case h0 => assumption); (case h1 => walk_at "sq"); (case h2 => walk_at "sd"); (case h3 => walk_at "sd"); (case h4 => walk_at "sd")))
local macro_rules | `(tactic| walk_at "abca2a96c") => `(tactic| ((with_reducible refine' cs_law_draw ?h0 ?h1 ?h2 ?h3 ?h4 (fun d H' h0 h1 s => ?_)); (case h0 => assumption); (case h1 => walk_at "pk"); (case h2 => walk_at "sd"); (case h3 => walk_at "sd"); (case h4 => walk_at "sd")))
local macro_rules | `(tactic| walk_at "ab1715b67") => `(tactic| ((with_reducible refine' cs_law_bits ?h0 ?h1 ?h2 ?h3 ?h4 (fun l H' h0 h1 s => ?_)); (case h0 => assumption); (case h1 => walk_at "pk"); (case h2 => walk_at "sd"); (case h3 => walk_at "sd"); (case h4 => walk_at "sd")))
local macro_rules | `(tactic| walk_at "a5fac1184") => `(tactic| ((with_reducible refine' cs_law_wide ?h0 ?h1 ?h2 (fun z H' h0 h1 s => ?_)); (case h0 => assumption); (case h1 => walk_at "pk"); (case h2 => walk_at "sd")))
local macro_rules | `(tactic| walk_at "ab1ef576b") => `(tactic| ((with_reducible refine' kk_ ?_)))
local macro_rules | `(tactic| walk_at "a11bd1e70") => `(tactic| ((with_reducible refine' cs_mk_Row ?h0 ?h1 ?h2 ?h3 ?h4 ?h5 ?h6 ?h7 (fun x H' s => ?_)); (case h0 => assumption); (case h1 => rfl); (case h2 => rfl); (case h3 => exact fun _ => rfl); (case h4 => assumption); (case h5 => walk_at "sd"); (case h6 => walk_at "sd"); (case h7 => walk_at "sd")))
local macro_rules | `(tactic| walk_at "a1d9c2e1b") => `(tactic| ((with_reducible refine' ztup_ ?h0 (new_S ?n0 fun p H' s => ?_)); (case h0 => walk_at "sd"); (case n0 => with_reducible assumption)))
local macro_rules | `(tactic| walk_at "ad286a858") => `(tactic| ((with_reducible refine' cs_law_row_right ?h0 ?h1 ?h2 (fun H' s => ?_)); (case h0 => assumption); (case h1 => walk_at "pk"); (case h2 => walk_at "sd")))
local macro_rules | `(tactic| walk_at "ac0cc0477") => `(tactic| ((with_reducible refine' zmethS_ ?h0 ?h1 ?h2 ?_); (case h0 => assumption); (case h1 => walk_at "pk"); (case h2 => exact fun _ _ _ _ _ => rfl)))
local macro_rules | `(tactic| walk_at "ac0de799a") => `(tactic| ((with_reducible refine' append_ ?h0 ?h1 (mut_S ?m0 ?m1 ?m2 fun H' s => ?_)); (case h0 => walk_at "lk"); (case h1 => walk_at "sd"); (case m0 => with_reducible assumption); (case m1 => walk_at "rp"); (case m2 => rfl)))
local macro_rules | `(tactic| walk_at "acf1952ee") => `(tactic| ((with_reducible refine' bmC_ ?_)))
local macro_rules | `(tactic| walk_at "ab33a4331") => `(tactic| ((with_reducible refine' clear_S ?h0 ?h1 (fun H' s => ?_)); (case h0 => assumption); (case h1 => walk_at "rp")))
local macro_rules | `(tactic| walk_at "a4af47245") => `(tactic| ((with_reducible refine' ownS_ ?h0 ?h1 ?_); (case h0 => assumption); (case h1 => walk_at "pk")))
local macro_rules | `(tactic| walk_at "ad25357b4") => `(tactic| ((with_reducible refine' cs_Row_repr ?h0 ?h1 (fun H' s => ?_)); (case h0 => assumption); (case h1 => walk_at "pk")))
section
variable {P : Program} {w : World} {K : PySem.W.Frag} {mg : Str → Option Value} {base : Heap} {C_CountError C_NoCode C_NoBits C_NoPlace C_Row : Addr}
set_option maxHeartbeats 4000000 in
theorem ok_law_urn {f : Addr} {fd : FuncData} {dV kV : Value} (g : G mg)
    (F : Txt K "_law_urn" "_law_urn" (defArgs st_law_urn) (defBody st_law_urn) (defScope st_law_urn) dV kV f fd) :
    FnG P w K mg base 1 f fd ["_law_script", "_law_spot"] (sp_law_urn K) := by
  refine z_fn F sc_law_urn (fun vs H Q E h => by
    obtain ⟨a, ns, i, rfl, h1, h2, h3, h4, k⟩ := h
    rfl) (fun cd A outer s H vs Q E hr ng h => ?_)
  obtain ⟨a, ns, i, rfl, h1, h2, h3, h4, k⟩ := h
  refine ⟨_, [_, _, none, none], rfl, (pss_cons (ps_set (i := 2) sc_law_urn.nd rfl (Or.inl rfl) pe_int)
      (Evl.pss_cut (ps_if (pt_cmpR z_lt (pv 1) (pe_callB (k_len (K := K)) (by rfl) g.b_len bt_len (pa_cons (pv 0) pa_nil)) (nomark _)) (pss_one (ps_set (i := 2) sc_law_urn.nd rfl (Or.inl rfl) (pe_ix (k_ix (K := K)) (pv 0) (pv 1) (fun _ _ => rfl)))) pss_nil)
      (pss_cons (ps_set (i := 3) sc_law_urn.nd rfl (Or.inl rfl) (pe_callB z_abs (by rfl) g.b_abs bt_abs (pa_cons (pv 2) pa_nil)))
      (Evl.pss_cut (ps_if (pt_cmpR z_lt (pv 3) (pe_op z_pow pe_int pe_int) (nomark _)) (pss_one (ps_set (i := 3) sc_law_urn.nd rfl (Or.inl rfl) pe_int)) pss_nil)
      (pss_one (ps_ret (pe_lst (pa_cons (pv 3) (pa_cons (pe_op (k_add (K := K)) (pe_op (k_add (K := K)) (pe_op (k_add (K := K)) (pe_op z_mod (pv 2) pe_int) (pe_op z_mul (pe_op z_mul pe_int (pv 1)) (pv 1))) (pe_op z_mul pe_int (pv 1))) pe_int) (pa_cons pe_int pa_nil)))))))))), ?_⟩
  have hmul : 97 * i * i < 1000000 ∧ 0 ≤ 97 * i * i := by
    have h5 : i * i ≤ 63 * 63 := Int.mul_le_mul (by omega) (by omega) h3 (by omega)
    have h6 : 0 ≤ i * i := Int.mul_nonneg h3 h3
    have e : 97 * i * i = 97 * (i * i) := Int.mul_assoc _ _ _
    omega
  (walk_at "a85c4f338"; walk_at "ad15d6c32"; walk_at "a3d76496c")
  refine cut_ (fun σ H' => ∃ c : Int, σ = [some (.ref a), some (.int i), some (.int c), none] ∧ H' = H) ?_ ?_
  · (walk_at "ae44f4543"; walk_at "a668f72f2"; walk_at "a2c441c41"; walk_at "ad25b13d2"; walk_at "a33f2f4b5"; walk_at "ae1f83bb8"; walk_at "ad25b13d2"; walk_at "afef05d44"; walk_at "a1547b0ad"; walk_at "a3d0fbaf8"; walk_at "a8a699a1b")
    rw [List.length_map]
    refine zif_d (fun hq => ?_) (fun hq => ?_)
    · have ha : atI (ns.map V.int) i = some (V.int (ns.getD i.toNat 0)) := by
        have e : i = ((i.toNat : Nat) : Int) := by omega
        rw [e]
        refine atI_nat ?_
        rw [List.getElem?_map, List.getD_eq_getElem?_getD, Int.toNat_natCast, List.getElem?_eq_getElem (by omega)]
        rfl
      (walk_at "a7f6d4dcc"; walk_at "a2c441c41"; walk_at "ad25b13d2"; walk_at "ad25b13d2"; walk_at "a69494a1c"; walk_at "a3d76496c"; walk_at "a28557e3a")
      exact ⟨_, rfl, rfl⟩
    · (walk_at "a3cf0dcf0"; walk_at "a28557e3a")
      exact ⟨_, rfl, rfl⟩
  · rintro σ H' ⟨c, rfl, rfl⟩
    have hc1 : 0 ≤ c % 1000000000000000003 := Int.emod_nonneg _ (by omega)
    have hc2 : c % 1000000000000000003 < 1000000000000000003 := Int.emod_lt_of_pos _ (by omega)
    have hg : (0 : Int) ≤ (if c < 0 then -c else c) := by split <;> omega
    (walk_at "a85c4f338"; walk_at "a33f2f4b5"; walk_at "ae1f83bb8"; walk_at "ad25b13d2"; walk_at "afef05d44"; walk_at "a2b8e5920"; walk_at "a3d76496c")
    refine cut_ (fun σ H'' => ∃ g : Int, σ = [some (.ref a), some (.int i), some (.int c), some (.int g)] ∧ 0 ≤ g ∧ H'' = H') ?_ ?_
    · (walk_at "ae44f4543"; walk_at "a668f72f2"; walk_at "a2c441c41"; walk_at "ad25b13d2"; walk_at "a2c441c41"; walk_at "ad15d6c32"; walk_at "ad15d6c32"; walk_at "af089cc0c"; walk_at "a3d0fbaf8"; walk_at "a8a699a1b")
      refine zif_d (fun hq => ?_) (fun hq => ?_)
      · (walk_at "a7f6d4dcc"; walk_at "ad15d6c32"; walk_at "a3d76496c"; walk_at "a28557e3a")
        exact ⟨0, rfl, by omega, rfl⟩
      · (walk_at "a3cf0dcf0"; walk_at "a28557e3a")
        exact ⟨_, rfl, hg, rfl⟩
    · rintro σ H'' ⟨g1, rfl, hg1, rfl⟩
      (walk_at "ac39ddb8c"; walk_at "afaa010ed"; walk_at "ae1f83bb8"; walk_at "ad25b13d2"; walk_at "ae1f83bb8"; walk_at "a2c441c41"; walk_at "a2c441c41"; walk_at "a2c441c41"; walk_at "a2c441c41"; walk_at "ad25b13d2"; walk_at "ad15d6c32"; walk_at "a2b2fa54d"; walk_at "a2c441c41"; walk_at "a2c441c41"; walk_at "ad15d6c32"; walk_at "ad25b13d2"; walk_at "a7bf746b0"; walk_at "ad25b13d2"; walk_at "a7bf746b0"; walk_at "a470d4ce9"; walk_at "a2c441c41"; walk_at "ad15d6c32"; walk_at "ad25b13d2"; walk_at "a7bf746b0"; walk_at "a470d4ce9"; walk_at "ad15d6c32"; walk_at "a470d4ce9"; walk_at "ae1f83bb8"; walk_at "ad15d6c32"; walk_at "afef05d44"; walk_at "a22972083"; walk_at "a8f7cfc14")
      rename_i p H1 hn he hp
      exact k _ _ hn he ⟨_, _, _, hp, by omega, by omega, by omega, by omega, by omega⟩
end
section
variable {P : Program} {w : World} {K : PySem.W.Frag} {mg : Str → Option Value} {base : Heap} {C_CountError C_NoCode C_NoBits C_NoPlace C_Row : Addr}
set_option maxHeartbeats 4000000 in
theorem ok_law_draw {f : Addr} {fd : FuncData} {dV kV : Value} (g : G mg)
    (F : Txt K "_law_draw" "_law_draw" (defArgs st_law_draw) (defBody st_law_draw) (defScope st_law_draw) dV kV f fd) :
    FnG P w K mg base 1 f fd ["_law_urn_here", "_law_wide_here"] (sp_law_draw) := by
  refine z_fn F sc_law_draw (fun vs H Q E h => by
    obtain ⟨u, n, m, rfl, ⟨g0, c, k0, hu, g1, c1, c2, k1, k2⟩, hn, m1, m2, k⟩ := h
    rfl) (fun cd A outer s H vs Q E hr ng h => ?_)
  obtain ⟨u, n, m, rfl, ⟨g0, c, k0, hu, g1, c1, c2, k1, k2⟩, hn, m1, m2, k⟩ := h
  refine ⟨_, [_, _, none, none, none, none, none], rfl, (pss_cons (ps_if (pt_cmpR z_gt (pe_ix (k_ix (K := K)) (pv 0) pe_int (fun _ _ => rfl)) pe_int (nomark _)) (pss_cons (ps_set (i := 2) sc_law_draw.nd rfl (Or.inl rfl) (pe_op z_mod (pe_ix (k_ix (K := K)) (pv 0) pe_int (fun _ _ => rfl)) (pv 1)))
      (pss_cons (ps_asg (pe_op z_fdiv (pe_ix (k_ix (K := K)) (pv 0) pe_int (fun _ _ => rfl)) (pv 1)) (pg_sub (pv 0) pe_int set_list))
      (pss_one (ps_ret (pv 2))))) pss_nil)
      (pss_cons (ps_set (i := 3) sc_law_draw.nd rfl (Or.inl rfl) (pe_tup (pa_cons pe_int (pa_cons pe_int (pa_cons pe_int (pa_cons pe_int (pa_cons pe_int (pa_cons pe_int (pa_cons pe_int pa_nil)))))))))
      (pss_cons (ps_asg (pe_op (k_add (K := K)) (pe_ix (k_ix (K := K)) (pv 0) pe_int (fun _ _ => rfl)) pe_int) (pg_sub (pv 0) pe_int set_list))
      (pss_cons (ps_set (i := 4) sc_law_draw.nd rfl (Or.inl rfl) (pe_ix (k_ix (K := K)) (pv 0) pe_int (fun _ _ => rfl)))
      (pss_cons (ps_set (i := 5) sc_law_draw.nd rfl (Or.inl rfl) (pe_op (k_add (K := K)) (pe_op (k_add (K := K)) (pe_op z_mul (pe_ix (k_ix (K := K)) (pv 0) pe_int (fun _ _ => rfl)) (pe_op (k_add (K := K)) (pe_op z_mul pe_int (pv 4)) pe_int)) (pe_op z_mul (pe_op z_mul pe_int (pv 4)) (pv 4))) pe_int))
      (pss_cons (ps_set (i := 6) sc_law_draw.nd rfl (Or.inl rfl) (pe_op z_mod (pe_op z_pow (pv 5) pe_int) (pe_ix (k_ix (K := K)) (pv 3) (pe_op z_mod (pv 4) pe_int) (fun _ _ => rfl))))
      (pss_one (ps_ret (pe_op z_mod (pe_op z_fdiv (pe_op z_mod (pe_op z_mul (pv 6) (pe_op (k_add (K := K)) (pe_op z_fdiv (pv 6) pe_int) (pv 4))) (pe_ix (k_ix (K := K)) (pv 3) (pe_op z_mod (pe_op (k_add (K := K)) (pv 4) pe_int) pe_int) (fun _ _ => rfl))) pe_int) (pv 1)))))))))), ?_⟩
  have hk : (k0 + 1) * (k0 + 1) ≤ 1000000001 * 1000000001 := Int.mul_le_mul (by omega) (by omega) (by omega) (by omega)
  have hk0 : 0 ≤ (k0 + 1) * (k0 + 1) := Int.mul_nonneg (by omega) (by omega)
  have hc : c * (2 * (k0 + 1) + 1) ≤ 1152921504606846976 * 3000000003 := Int.mul_le_mul (by omega) (by omega) (by omega) (by omega)
  have hc0 : 0 ≤ c * (2 * (k0 + 1) + 1) := Int.mul_nonneg (by omega) (by omega)
  have e6 : 6007 * (k0 + 1) * (k0 + 1) = 6007 * ((k0 + 1) * (k0 + 1)) := Int.mul_assoc _ _ _
  have hpow : CPowW (c * (2 * (k0 + 1) + 1) + 6007 * (k0 + 1) * (k0 + 1) + 53) 3 := by
    have hb : (c * (2 * (k0 + 1) + 1) + 6007 * (k0 + 1) * (k0 + 1) + 53).natAbs < 2 ^ 200 := by
      have : (2 : Nat) ^ 200 = 1606938044258990275541962092341162602522202993782792835301376 := by decide
      omega
    have := intBits_le hb
    refine ⟨by omega, ?_⟩
    have e : (2 : Int) ^ 27 = 134217728 := by decide
    omega
  have hpr : ∀ i : Int, 0 ≤ i → i < 7 → ∃ p : Int, atI [V.int 2147483647, V.int 2147483629, V.int 2147483587, V.int 2147483579, V.int 2147483563, V.int 2147483549, V.int 2147483543] i = some (V.int p) ∧ 0 < p ∧ p < 2147483648 := by
    intro i h0 h7
    have : i = 0 ∨ i = 1 ∨ i = 2 ∨ i = 3 ∨ i = 4 ∨ i = 5 ∨ i = 6 := by omega
    rcases this with rfl | rfl | rfl | rfl | rfl | rfl | rfl
    all_goals exact ⟨_, rfl, by omega, by omega⟩
  obtain ⟨p1, hp1, p1a, p1b⟩ := hpr ((k0 + 1) % 7) (by omega) (by omega)
  obtain ⟨p2, hp2, p2a, p2b⟩ := hpr ((k0 + 1 + 3) % 7) (by omega) (by omega)
  have hmod : ∀ z : Int, 0 ≤ z % p1 ∧ z % p1 < p1 := fun z => ⟨Int.emod_nonneg _ (by omega), Int.emod_lt_of_pos _ p1a⟩
  (walk_at "a4584bbba"; walk_at "a668f72f2"; walk_at "a2c441c41"; walk_at "a2c441c41"; walk_at "ad25b13d2"; walk_at "ad15d6c32"; walk_at "a5c5685b7"; walk_at "ad15d6c32"; walk_at "a2251479c"; walk_at "a8a699a1b")
  refine zif_d (fun hq => ?_) (fun hq => ?_)
  · (walk_at "a85c4f338"; walk_at "a2c441c41"; walk_at "a2c441c41"; walk_at "ad25b13d2"; walk_at "ad15d6c32"; walk_at "a5c5685b7"; walk_at "ad25b13d2"; walk_at "a2b2fa54d"; walk_at "a3d76496c"; walk_at "a43bf46d2"; walk_at "a2c441c41"; walk_at "a2c441c41"; walk_at "ad25b13d2"; walk_at "ad15d6c32"; walk_at "a5c5685b7"; walk_at "ad25b13d2"; walk_at "a9f846afb"; walk_at "a114ee3de"; walk_at "ad25b13d2"; walk_at "ad15d6c32"; walk_at "a9857b6e3"; walk_at "ac39ddb8c"; walk_at "ad25b13d2"; walk_at "a8f7cfc14")
    rename_i H1 hp hb
    exact k _ _ (Int.emod_nonneg _ (by omega)) (Int.emod_lt_of_pos _ m1) ⟨_, _, _, hp, Int.ediv_nonneg g1 (by omega), c1, c2, k1, by omega⟩ hb
  · (walk_at "a3cf0dcf0"; walk_at "a85c4f338"; walk_at "ab6f4d09a"; walk_at "ae1f83bb8"; walk_at "ad15d6c32"; walk_at "ae1f83bb8"; walk_at "ad15d6c32"; walk_at "ae1f83bb8"; walk_at "ad15d6c32"; walk_at "ae1f83bb8"; walk_at "ad15d6c32"; walk_at "ae1f83bb8"; walk_at "ad15d6c32"; walk_at "ae1f83bb8"; walk_at "ad15d6c32"; walk_at "ae1f83bb8"; walk_at "ad15d6c32"; walk_at "afef05d44"; walk_at "a0139b3e0"; walk_at "a3d76496c"; walk_at "a43bf46d2"; walk_at "a2c441c41"; walk_at "a2c441c41"; walk_at "ad25b13d2"; walk_at "ad15d6c32"; walk_at "a5c5685b7"; walk_at "ad15d6c32"; walk_at "a470d4ce9"; walk_at "a114ee3de"; walk_at "ad25b13d2"; walk_at "ad15d6c32"; walk_at "a9857b6e3"; walk_at "a85c4f338"; walk_at "a2c441c41"; walk_at "ad25b13d2"; walk_at "ad15d6c32"; walk_at "a5c5685b7"; walk_at "a3d76496c"; walk_at "a85c4f338"; walk_at "a2c441c41"; walk_at "a2c441c41"; walk_at "a2c441c41"; walk_at "a2c441c41"; walk_at "ad25b13d2"; walk_at "ad15d6c32"; walk_at "a5c5685b7"; walk_at "a2c441c41"; walk_at "a2c441c41"; walk_at "ad15d6c32"; walk_at "ad25b13d2"; walk_at "a7bf746b0"; walk_at "ad15d6c32"; walk_at "a470d4ce9"; walk_at "a7bf746b0"; walk_at "a2c441c41"; walk_at "a2c441c41"; walk_at "ad15d6c32"; walk_at "ad25b13d2"; walk_at "a7bf746b0"; walk_at "ad25b13d2"; walk_at "a7bf746b0"; walk_at "a470d4ce9"; walk_at "ad15d6c32"; walk_at "a470d4ce9"; walk_at "a3d76496c"; walk_at "a85c4f338"; walk_at "a2c441c41"; walk_at "a2c441c41"; walk_at "ad25b13d2"; walk_at "ad15d6c32"; walk_at "af089cc0c"; walk_at "a2c441c41"; walk_at "ad25b13d2"; walk_at "a2c441c41"; walk_at "ad25b13d2"; walk_at "ad15d6c32"; walk_at "a2b2fa54d"; walk_at "a2cdecdaf"; walk_at "a2b2fa54d"; walk_at "a3d76496c"; walk_at "ac39ddb8c"; walk_at "a2c441c41"; walk_at "a2c441c41"; walk_at "a2c441c41"; walk_at "a2c441c41"; walk_at "ad25b13d2"; walk_at "a2c441c41"; walk_at "a2c441c41"; walk_at "ad25b13d2"; walk_at "ad15d6c32"; walk_at "a9f846afb"; walk_at "ad25b13d2"; walk_at "a470d4ce9")
    have hm := hmod ((c * (2 * (k0 + 1) + 1) + 6007 * (k0 + 1) * (k0 + 1) + 53) ^ (3 : Int).toNat)
    (walk_at "a7bf746b0"; walk_at "a2c441c41"; walk_at "ad25b13d2"; walk_at "a2c441c41"; walk_at "a2c441c41"; walk_at "ad25b13d2"; walk_at "ad15d6c32"; walk_at "a470d4ce9"; walk_at "ad15d6c32"; walk_at "a2b2fa54d"; walk_at "a2cdecdaf"; walk_at "a2b2fa54d"; walk_at "ad15d6c32"; walk_at "a9f846afb"; walk_at "ad25b13d2"; walk_at "a2b2fa54d"; walk_at "a8f7cfc14")
    rename_i q H1 hn1 he1 hp1' H2 hp2' hb2
    refine k _ _ (Int.emod_nonneg _ (by omega)) (Int.emod_lt_of_pos _ m1) ⟨_, _, _, hp2', g1, c1, c2, by omega, by omega⟩ ?_
    intro b o nb hbo
    exact hb2 b o nb (he1 b o hbo)
end
section
variable {P : Program} {w : World} {K : PySem.W.Frag} {mg : Str → Option Value} {base : Heap} {C_CountError C_NoCode C_NoBits C_NoPlace C_Row : Addr}
set_option maxHeartbeats 4000000 in
theorem ok_law_bits {f : Addr} {fd : FuncData} {dV kV : Value} (g : G mg)
    (F : Txt K "_law_bits" "_law_bits" (defArgs st_law_bits) (defBody st_law_bits) (defScope st_law_bits) dV kV f fd)
    (D_law_draw : Def P w K mg base 1 "_law_draw" [] (sp_law_draw)) :
    FnG P w K mg base 2 f fd ["_law_urn_here", "_law_most"] (sp_law_bits) := by
  refine z_fn F sc_law_bits (fun vs H Q E h => by
    obtain ⟨u, n, m, rfl, hu, hn, m1, m2, k⟩ := h
    rfl) (fun cd A outer s H vs Q E hr ng h => ?_)
  obtain ⟨u, n, m, rfl, hu, hn, m1, m2, k⟩ := h
  refine ⟨_, [_, _, none, none, none, none], rfl, (pss_cons (ps_set (i := 2) sc_law_bits.nd rfl (Or.inl rfl) (pe_f D_law_draw (hr.mono (by decide)) ng (by rfl) (tkW (takes_ rfl rfl rfl rfl)) (pa_cons (pv 0) (pa_cons (pe_op (k_add (K := K)) (pv 1) pe_int) pa_nil))))
      (pss_cons (ps_par (i := 3) (j := 4) (by rfl) sc_law_bits.nd rfl rfl (by decide) rfl rfl (pa_cons (pe_f D_law_draw (hr.mono (by decide)) ng (by rfl) (tkW (takes_ rfl rfl rfl rfl)) (pa_cons (pv 0) (pa_cons pe_int pa_nil))) (pa_cons (pe_f D_law_draw (hr.mono (by decide)) ng (by rfl) (tkW (takes_ rfl rfl rfl rfl)) (pa_cons (pv 0) (pa_cons pe_int pa_nil))) pa_nil)) (by rfl))
      (pss_cons (ps_set (i := 5) sc_law_bits.nd rfl (Or.inl rfl) (z_str lit_3))
      (pss_cons (ps_while (passes_of rfl) (pt_cmpR z_lt (pe_callB (k_len (K := K)) (by rfl) g.b_len bt_len (pa_cons (pv 5) pa_nil)) (pv 2) (nomark _)) (pss_one (ps_if (pt_cmpR (k_eq (K := K) hr.units) (pv 3) pe_int (nomark _)) (pss_one (ps_set (i := 5) sc_law_bits.nd rfl (Or.inl rfl) (pe_op (k_add (K := K)) (pv 5) (pe_ix (k_ix (K := K)) (z_str lit_11) (pe_f D_law_draw (hr.mono (by decide)) ng (by rfl) (tkW (takes_ rfl rfl rfl rfl)) (pa_cons (pv 0) (pa_cons pe_int pa_nil))) (fun _ _ => rfl))))) (pss_one (ps_if (pt_cmpR (k_eq (K := K) hr.units) (pv 3) pe_int (nomark _)) (pss_cons (ps_set (i := 5) sc_law_bits.nd rfl (Or.inl rfl) (pe_op (k_add (K := K)) (pv 5) (pe_op z_mul (pe_ix (k_ix (K := K)) (z_str lit_11) (pv 4) (fun _ _ => rfl)) (pe_op (k_add (K := K)) pe_int (pe_f D_law_draw (hr.mono (by decide)) ng (by rfl) (tkW (takes_ rfl rfl rfl rfl)) (pa_cons (pv 0) (pa_cons (pe_ix (k_ix (K := K)) (pe_lst (pa_cons pe_int (pa_cons pe_int (pa_cons pe_int pa_nil)))) (pe_f D_law_draw (hr.mono (by decide)) ng (by rfl) (tkW (takes_ rfl rfl rfl rfl)) (pa_cons (pv 0) (pa_cons pe_int pa_nil))) (fun _ _ => rfl)) pa_nil)))))))
      (pss_one (ps_set (i := 4) sc_law_bits.nd rfl (Or.inl rfl) (pe_op z_sub pe_int (pv 4))))) (pss_one (ps_if (pt_cmpR (k_eq (K := K) hr.units) (pv 3) pe_int (nomark _)) (pss_one (ps_set (i := 5) sc_law_bits.nd rfl (Or.inl rfl) (pe_op (k_add (K := K)) (pv 5) (pe_op z_mul (pe_ix (k_ix (K := K)) (z_str lit_11) (pv 4) (fun _ _ => rfl)) (pv 2))))) (pss_one (ps_set (i := 5) sc_law_bits.nd rfl (Or.inl rfl) (pe_op (k_add (K := K)) (pe_op (k_add (K := K)) (pv 5) (pe_op z_mul (z_str lit_4) (pe_f D_law_draw (hr.mono (by decide)) ng (by rfl) (tkW (takes_ rfl rfl rfl rfl)) (pa_cons (pv 0) (pa_cons pe_int pa_nil))))) (z_str lit_7)))))))))))
      (pss_one (ps_ret (pe_slice (k_sl (K := K)) (pv 5) po_none (po_some (pv 2))))))))), ?_⟩
  (walk_at "a85c4f338"; walk_at "acdbb3963"; walk_at "ae1f83bb8"; walk_at "ad25b13d2"; walk_at "ae1f83bb8"; walk_at "a2c441c41"; walk_at "ad25b13d2"; walk_at "ad15d6c32"; walk_at "a470d4ce9"; walk_at "afef05d44"; walk_at "a36af51d3"; walk_at "a3d76496c"; walk_at "a91c550d3"; walk_at "ae1f83bb8"; walk_at "acdbb3963"; walk_at "ae1f83bb8"; walk_at "ad25b13d2"; walk_at "ae1f83bb8"; walk_at "ad15d6c32"; walk_at "afef05d44"; walk_at "a36af51d3"; walk_at "ae1f83bb8"; walk_at "acdbb3963"; walk_at "ae1f83bb8"; walk_at "ad25b13d2"; walk_at "ae1f83bb8"; walk_at "ad15d6c32"; walk_at "afef05d44"; walk_at "a36af51d3"; walk_at "afef05d44"; walk_at "a843fc401"; walk_at "a3d76496c"; walk_at "a85c4f338"; walk_at "ad15d6c32"; walk_at "a3d76496c"; walk_at "a8253931e")
  rename_i am H1 am0 am1 hu1 hb1 way H2 way0 way1 hu2 hb2 sg H3 sg0 sg1 hu3 hb3
  have hb0 : But u H H3 := (hb1.trans hb2).trans hb3
  have bit01 : ∀ d : Int, 0 ≤ d → d < 2 → ∃ c, atI [48, 49] d = some c ∧ Bit c := by
    intro d h0 h1
    have : d = 0 ∨ d = 1 := by omega
    rcases this with rfl | rfl
    · exact ⟨48, rfl, .inl rfl⟩
    · exact ⟨49, rfl, .inr rfl⟩
  refine seq_while (fun j σ H' => ∃ (t : List Nat) (sg : Int) (r : Nat), σ = [some (.ref u), some (.int m), some (.int am), some (.int way), some (.int sg), some (T t)] ∧ 0 ≤ sg ∧ sg < 2 ∧ Bits t ∧ t.length ≤ 2100 ∧ j = am.toNat - t.length ∧ r + 2 * j ≤ n + 2050 ∧ Urn H' u r ∧ But u H H') am.toNat
    ⟨[], sg, n + 1 + 1 + 1, rfl, sg0, sg1, Bits.nil, by simp, by simp, by omega, hu3, hb0⟩ ?_
  rintro j σ H4 ⟨t, sg, r, rfl, s0, s1, ht, htl, ej, hr, hur, hbb⟩
  (walk_at "a668f72f2"; walk_at "a2c441c41"; walk_at "a33f2f4b5"; walk_at "ae1f83bb8"; walk_at "ad25b13d2"; walk_at "afef05d44"; walk_at "a6ebb81e6"; walk_at "ad25b13d2"; walk_at "a3d0fbaf8"; walk_at "a8a699a1b")
  refine zwh_d (fun hq => ?_) (fun hq => ?_)
  · obtain ⟨c, hc, hcb⟩ := bit01 sg s0 s1
    (walk_at "ae44f4543"; walk_at "a668f72f2"; walk_at "a2c441c41"; walk_at "ad25b13d2"; walk_at "ad15d6c32"; walk_at "ab84a1bc3"; walk_at "a8a699a1b")
    refine zif_d (fun w0 => ?_) (fun w0 => ?_)
    · (walk_at "a7f6d4dcc"; walk_at "a2c441c41"; walk_at "ad25b13d2"; walk_at "a2c441c41"; walk_at "ad15d6c32"; walk_at "acdbb3963"; walk_at "ae1f83bb8"; walk_at "ad25b13d2"; walk_at "ae1f83bb8"; walk_at "ad15d6c32"; walk_at "afef05d44"; walk_at "a36af51d3")
      rename_i d H5 d0 d1 hu5 hb5
      obtain ⟨c2, hc2, hcb2⟩ := bit01 d d0 d1
      (walk_at "a4657a1b3"; walk_at "a4e0c8928"; walk_at "a3d76496c"; walk_at "a28557e3a")
      exact less_ (am.toNat - (t.length + 1)) (by omega) ⟨_, _, r + 1, rfl, s0, s1, ht.app (Bits.one hcb2), by simp; omega, by simp, by omega, hu5, hbb.trans hb5⟩
    · (walk_at "ae44f4543"; walk_at "a668f72f2"; walk_at "a2c441c41"; walk_at "ad25b13d2"; walk_at "ad15d6c32"; walk_at "ab84a1bc3"; walk_at "a8a699a1b")
      refine zif_d (fun w1 => ?_) (fun w1 => ?_)
      · (walk_at "a85c4f338"; walk_at "a2c441c41"; walk_at "ad25b13d2"; walk_at "a2c441c41"; walk_at "a2c441c41"; walk_at "ad15d6c32"; walk_at "ad25b13d2"; walk_at "a4657a1b3"; walk_at "a2c441c41"; walk_at "ad15d6c32"; walk_at "acdbb3963"; walk_at "ae1f83bb8"; walk_at "ad25b13d2"; walk_at "ae1f83bb8"; walk_at "a2c441c41"; walk_at "afaa010ed"; walk_at "ae1f83bb8"; walk_at "ad15d6c32"; walk_at "ae1f83bb8"; walk_at "ad15d6c32"; walk_at "ae1f83bb8"; walk_at "ad15d6c32"; walk_at "afef05d44"; walk_at "a22972083"; walk_at "acdbb3963"; walk_at "ae1f83bb8"; walk_at "ad25b13d2"; walk_at "ae1f83bb8"; walk_at "ad15d6c32"; walk_at "afef05d44"; walk_at "a36af51d3")
        rename_i p H5 hn5 he5 hp5 d H6 d0 d1 hu6 hb6
        have ha : ∃ z : Int, atI [V.int 4, V.int 20, V.int 70] d = some (V.int z) ∧ 0 < z ∧ z ≤ 70 := by
          have : d = 0 ∨ d = 1 ∨ d = 2 := by omega
          rcases this with rfl | rfl | rfl
          · exact ⟨4, rfl, by omega, by omega⟩
          · exact ⟨20, rfl, by omega, by omega⟩
          · exact ⟨70, rfl, by omega, by omega⟩
        obtain ⟨z, hz, z0, z1⟩ := ha
        (walk_at "a5c5685b7"; walk_at "afef05d44"; walk_at "a36af51d3"; walk_at "a470d4ce9"; walk_at "a1d30e24a"; walk_at "a4e0c8928"; walk_at "a3d76496c"; walk_at "a7f6d4dcc"; walk_at "a2c441c41"; walk_at "ad15d6c32"; walk_at "ad25b13d2"; walk_at "a8c4e17e3"; walk_at "a3d76496c"; walk_at "a28557e3a")
        rename_i e H7 e0 e1 hu7 hb7
        have el : (1 + e).toNat = e.toNat + 1 := by omega
        have hl : ([c] : List Nat).length * (1 + e).toNat ≤ 70 := by simp; omega
        skip
        refine less_ (am.toNat - (t.length + (1 + e).toNat)) (by omega) ⟨_, _, r + 1 + 1, rfl, by omega, by omega, ht.app ((Bits.one hcb).rep _), ?_, ?_, by omega, hu7, ((hbb.ext he5).trans hb6).trans hb7⟩
        · rw [List.length_append, rep_len]; simp; omega
        · rw [List.length_append, rep_len]; simp
      · (walk_at "ae44f4543"; walk_at "a668f72f2"; walk_at "a2c441c41"; walk_at "ad25b13d2"; walk_at "ad15d6c32"; walk_at "ab84a1bc3"; walk_at "a8a699a1b")
        refine zif_d (fun w2 => ?_) (fun w2 => ?_)
        · have hl : ([c] : List Nat).length * am.toNat ≤ 1000 := by simp; omega
          (walk_at "a7f6d4dcc"; walk_at "a2c441c41"; walk_at "ad25b13d2"; walk_at "a2c441c41"; walk_at "a2c441c41"; walk_at "ad15d6c32"; walk_at "ad25b13d2"; walk_at "a4657a1b3"; walk_at "ad25b13d2"; walk_at "a1d30e24a"; walk_at "a4e0c8928"; walk_at "a3d76496c"; walk_at "a28557e3a")
          refine less_ (am.toNat - (t.length + am.toNat)) (by omega) ⟨_, _, r, rfl, s0, s1, ht.app ((Bits.one hcb).rep _), ?_, ?_, by omega, hur, hbb⟩
          · rw [List.length_append, rep_len]; simp; omega
          · rw [List.length_append, rep_len]; simp
        · (walk_at "a7f6d4dcc"; walk_at "a2c441c41"; walk_at "a2c441c41"; walk_at "ad25b13d2"; walk_at "a2c441c41"; walk_at "ad15d6c32"; walk_at "acdbb3963"; walk_at "ae1f83bb8"; walk_at "ad25b13d2"; walk_at "ae1f83bb8"; walk_at "ad15d6c32"; walk_at "afef05d44"; walk_at "a36af51d3"; walk_at "a1d30e24a"; walk_at "a4e0c8928"; walk_at "ad15d6c32"; walk_at "a4e0c8928"; walk_at "a3d76496c"; walk_at "a28557e3a")
          rename_i d H5 d0 d1 hu5 hb5
          have hl : ([48] : List Nat).length * d.toNat ≤ 9 := by simp; omega
          skip
          refine less_ (am.toNat - (t.length + d.toNat + 1)) (by omega) ⟨_, _, r + 1, rfl, s0, s1, (ht.app ((Bits.one (.inl rfl)).rep _)).app (Bits.one (.inr rfl)), ?_, ?_, by omega, hu5, hbb.trans hb5⟩
          · rw [List.length_append, List.length_append, rep_len]; simp; omega
          · rw [List.length_append, List.length_append, rep_len]; simp
  · (walk_at "ac39ddb8c"; walk_at "a1e0e6469"; walk_at "ad25b13d2"; walk_at "a67128e29"; walk_at "a0ebae3b6"; walk_at "ad25b13d2"; walk_at "a6a11b937"; walk_at "a55f8cc73"; walk_at "a8f7cfc14")
    rw [cut_to _ _ am0]
    refine k _ _ (ht.take _) ?_ (hur.mono (by omega)) hbb
    rw [List.length_take]
    omega
end
section
variable {P : Program} {w : World} {K : PySem.W.Frag} {mg : Str → Option Value} {base : Heap} {C_CountError C_NoCode C_NoBits C_NoPlace C_Row : Addr}
set_option maxHeartbeats 4000000 in
theorem ok_head_of {f : Addr} {fd : FuncData} {dV kV : Value} (g : G mg)
    (F : Txt K "head_of" "head_of" (defArgs st_head_of) (defBody st_head_of) (defScope st_head_of) dV kV f fd) :
    FnG P w K mg base 1 f fd ["bits"] (sp_head_of) := by
  refine z_fn F sc_head_of (fun vs H Q E h => by
    obtain ⟨l, rfl, hb, h0, h1, k⟩ := h
    rfl) (fun cd A outer s H vs Q E hr ng h => ?_)
  obtain ⟨l, rfl, hb, h0, h1, k⟩ := h
  refine ⟨_, [_, none, none, none], rfl, (pss_cons (ps_set (i := 1) sc_head_of.nd rfl (Or.inl rfl) pe_int)
      (pss_cons (ps_set (i := 2) sc_head_of.nd rfl (Or.inl rfl) (pe_lst pa_nil))
      (pss_cons (ps_for (passes_of rfl) rfl (pi_str (pv 0)) (pg_name (i := 3) sc_head_of.nd rfl (Or.inl rfl)) (pss_cons (ps_aug (i := 1) sc_head_of.nd rfl (Or.inl rfl) (pe_ifExp (pt_cmpR (k_eq (K := K) hr.units) (pv 3) (z_str lit_7) (nomark _)) pe_int (pe_un un_neg pe_int)) z_iadd)
      (pss_one (ps_expr (pe_bm PySem.F.plainAttrs_list PySem.F.slot_list_append PySem.F.type_list_append mt_append (pv 2) (pa_cons (pv 1) pa_nil))))))
      (pss_one (ps_ret (pe_tup (pa_cons (pe_callB (k_len (K := K)) (by rfl) g.b_len bt_len (pa_cons (pv 0) pa_nil)) (pa_cons (pe_op z_fdiv (pe_op (k_add (K := K)) (pe_callB (k_len (K := K)) (by rfl) g.b_len bt_len (pa_cons (pv 0) pa_nil)) (pv 1)) pe_int) (pa_cons (pe_callB (k_min1 (K := K) rfl) (by rfl) g.b_min bt_min (pa_cons (pv 2) pa_nil)) pa_nil))))))))), ?_⟩
  (walk_at "a85c4f338"; walk_at "ad15d6c32"; walk_at "a3d76496c"; walk_at "a85c4f338"; walk_at "afaa010ed"; walk_at "afef05d44"; walk_at "a22972083"; walk_at "a3d76496c"; walk_at "a1fccfa88"; walk_at "aacce3769"; walk_at "ad25b13d2"; walk_at "a04585a94")
  rename_i p H1 hn he hp
  refine forT (fun i σ H' => ∃ v : Option V, σ = [some (T l), some (.int (dep (l.take i))), some (.ref p), v] ∧ Ex H H' ∧ H' p = some (.lst (((deps l).take i).map V.int))) ⟨none, rfl, he, hp⟩ ?_ ?_
  · rintro i c σ H2 hc ⟨v, rfl, ex, hp2⟩
    have hi : i < l.length := (List.getElem?_eq_some_iff.mp hc).1
    have hd := dep_take hc
    have ht := deps_take hi
    have hlen : ((deps l).take i).length ≤ 1000 := by rw [List.length_take, deps_len]; omega
    (walk_at "a3d76496c"; walk_at "a1fdb1a90"; walk_at "a3f49daff"; walk_at "a668f72f2"; walk_at "a2c441c41"; walk_at "ad25b13d2"; walk_at "ad15d6c32"; walk_at "ae5260597"; walk_at "a8a699a1b")
    refine zife_d (fun hq => ?_) (fun hq => ?_)
    · have hq2 : c = 49 := by simpa using hq
      rw [if_pos hq2] at hd
      (walk_at "ad15d6c32"; walk_at "a66a76921"; walk_at "a3d76496c"; walk_at "a5ba7d5f5"; walk_at "ad1b438b8"; walk_at "ad25b13d2"; walk_at "a39154dd1"; walk_at "ae1f83bb8"; walk_at "ad25b13d2"; walk_at "afef05d44"; walk_at "a320e47f0"; walk_at "a28557e3a")
      rename_i H4 hp3 hb4
      refine ⟨_, by rw [hd], hb4.ex ex hn, ?_⟩
      rw [hp3, ht, hd, List.map_append]
      rfl
    · have hq2 : ¬ c = 49 := by simpa using hq
      rw [if_neg hq2] at hd
      (walk_at "af5a97b89"; walk_at "ad15d6c32"; walk_at "a250d16b4"; walk_at "a66a76921"; walk_at "a3d76496c"; walk_at "a5ba7d5f5"; walk_at "ad1b438b8"; walk_at "ad25b13d2"; walk_at "a39154dd1"; walk_at "ae1f83bb8"; walk_at "ad25b13d2"; walk_at "afef05d44"; walk_at "a320e47f0"; walk_at "a28557e3a")
      rename_i H4 hp3 hb4
      refine ⟨_, by rw [hd], hb4.ex ex hn, ?_⟩
      rw [hp3, ht, hd, List.map_append]
      rfl
  · rintro σ H2 ⟨v, rfl, ex, hp2⟩
    rw [List.take_length]
    rw [← deps_len, List.take_length] at hp2
    have e2 : ((l.length : Int) + dep l) / 2 = (l.count 49 : Nat) := by unfold dep; omega
    (walk_at "ac39ddb8c"; walk_at "ab6f4d09a"; walk_at "ae1f83bb8"; walk_at "a33f2f4b5"; walk_at "ae1f83bb8"; walk_at "ad25b13d2"; walk_at "afef05d44"; walk_at "a6ebb81e6"; walk_at "ae1f83bb8"; walk_at "a2c441c41"; walk_at "a2c441c41"; walk_at "a33f2f4b5"; walk_at "ae1f83bb8"; walk_at "ad25b13d2"; walk_at "afef05d44"; walk_at "a6ebb81e6"; walk_at "ad25b13d2"; walk_at "a470d4ce9"; walk_at "ad15d6c32"; walk_at "a9f846afb"; walk_at "ae1f83bb8"; walk_at "a33f2f4b5"; walk_at "ae1f83bb8"; walk_at "ad25b13d2"; walk_at "afef05d44")
    refine min1_ hp2 (by rw [deps_len]; exact h0) fun m hm1 hm2 => ?_
    (walk_at "afef05d44"; walk_at "a0139b3e0"; walk_at "a8f7cfc14")
    rename_i q H3 hn3 he3 hp3
    rw [e2] at hp3
    exact k _ _ m (ex.back hn3) (ex.trans he3) hp3 ⟨hm1, hm2⟩
end
section
variable {P : Program} {w : World} {K : PySem.W.Frag} {mg : Str → Option Value} {base : Heap} {C_CountError C_NoCode C_NoBits C_NoPlace C_Row : Addr}
set_option maxHeartbeats 4000000 in
theorem ok_code_plain {f : Addr} {fd : FuncData} {dV kV : Value} (g : G mg)
    (F : Txt K "code_plain" "code_plain" (defArgs st_code_plain) (defBody st_code_plain) (defScope st_code_plain) dV kV f fd) :
    FnG P w K mg base 1 f fd ["bits"] (sp_code_plain) := by
  refine z_fn F sc_code_plain (fun vs H Q E h => by
    obtain ⟨l, rfl, h1, k⟩ := h
    rfl) (fun cd A outer s H vs Q E hr ng h => ?_)
  obtain ⟨l, rfl, h1, k⟩ := h
  refine ⟨_, [_], rfl, (pss_one (ps_ret (pe_op (k_add (K := K)) (z_str lit_5) (pv 0)))), ?_⟩
  (walk_at "ac39ddb8c"; walk_at "a2c441c41"; walk_at "ad15d6c32"; walk_at "ad25b13d2"; walk_at "a4e0c8928"; walk_at "a8f7cfc14")
  exact k _ (Ex.refl _)
end
section
variable {P : Program} {w : World} {K : PySem.W.Frag} {mg : Str → Option Value} {base : Heap} {C_CountError C_NoCode C_NoBits C_NoPlace C_Row : Addr}
set_option maxHeartbeats 4000000 in
theorem ok_figures_of {f : Addr} {fd : FuncData} {dV kV : Value} (g : G mg)
    (F : Txt K "figures_of" "figures_of" (defArgs st_figures_of) (defBody st_figures_of) (defScope st_figures_of) dV kV f fd) :
    FnG P w K mg base 1 f fd ["number"] (sp_figures_of) := by
  refine z_fn F sc_figures_of (fun vs H Q E h => by
    obtain ⟨i, rfl, h1, h2, k⟩ := h
    rfl) (fun cd A outer s H vs Q E hr ng h => ?_)
  obtain ⟨i, rfl, h1, h2, k⟩ := h
  obtain ⟨_, c_BITS⟩ := g.c_BITS
  refine ⟨_, [_, none, none], rfl, (pss_cons (ps_set (i := 1) sc_figures_of.nd rfl (Or.inl rfl) (z_str lit_3))
      (pss_cons (ps_while (passes_of rfl) (pt_cmpR z_gt (pv 0) pe_int (nomark _)) (pss_cons (ps_asg (pe_callB z_divmod (by rfl) g.b_divmod bt_divmod (pa_cons (pv 0) (pa_cons pe_int pa_nil))) (k_tup (K := K) (n := 2) (by rfl) (pgs_cons (pg_name (i := 0) sc_figures_of.nd rfl (Or.inl rfl)) (pgs_cons (pg_name (i := 2) sc_figures_of.nd rfl (Or.inl rfl)) pgs_nil))))
      (pss_one (ps_set (i := 1) sc_figures_of.nd rfl (Or.inl rfl) (pe_op (k_add (K := K)) (pe_ix (k_ix (K := K)) (pe_glob (v := T [48, 49]) (by rfl) c_BITS ⟨_, rfl⟩) (pv 2) (fun _ _ => rfl)) (pv 1))))))
      (pss_one (ps_ret (pv 1))))), ?_⟩
  (walk_at "a85c4f338"; walk_at "ad15d6c32"; walk_at "a3d76496c"; walk_at "a8253931e")
  refine seq_while (fun n σ H' => ∃ (t : List Nat) (v : Option V), σ = [some (.int (n : Int)), some (T t), v] ∧ figs i.toNat = figs n ++ t ∧ n < 1048576 ∧ Ex H H') i.toNat ⟨[], none, by rw [Int.toNat_of_nonneg h1], by simp, by omega, Ex.refl H⟩ ?_
  rintro n σ H1 ⟨t, v, rfl, e, hn, ex⟩
  have hl : t.length ≤ 20 := by
    have := figs_len (k := 20) (n := i.toNat) (by omega)
    rw [e, List.length_append] at this
    omega
  (walk_at "a668f72f2"; walk_at "a2c441c41"; walk_at "ad25b13d2"; walk_at "ad15d6c32"; walk_at "a2251479c"; walk_at "a8a699a1b")
  refine zwh_d (fun hp => ?_) (fun hp => ?_)
  · have ha : atI [48, 49] ((n : Int) % 2) = some (48 + n % 2) := by
      rcases Nat.mod_two_eq_zero_or_one n with z | z
      · have : ((n : Int) % 2) = ((0 : Nat) : Int) := by omega
        rw [this, z]; rfl
      · have : ((n : Int) % 2) = ((1 : Nat) : Int) := by omega
        rw [this, z]; rfl
    (walk_at "a43bf46d2"; walk_at "a33f2f4b5"; walk_at "ae1f83bb8"; walk_at "ad25b13d2"; walk_at "ae1f83bb8"; walk_at "ad15d6c32"; walk_at "afef05d44"; walk_at "a59adc9ff"; walk_at "afbecc87a"; walk_at "a54305b80"; walk_at "a3beb7cd4"; walk_at "a54305b80"; walk_at "a3beb7cd4"; walk_at "abc6e375f"; walk_at "a3d76496c"; walk_at "a7f6d4dcc"; walk_at "a2c441c41"; walk_at "a2c441c41"; walk_at "ad15d6c32"; walk_at "ad25b13d2"; walk_at "a4657a1b3"; walk_at "ad25b13d2"; walk_at "a4e0c8928"; walk_at "a3d76496c"; walk_at "a28557e3a")
    refine less_ (n / 2) (by omega) ⟨[48 + n % 2] ++ t, _, rfl, ?_, by omega, ex.trans (by assumption)⟩
    rw [e, figs_step (by omega : 0 < n), List.append_assoc]
  · have z : n = 0 := by omega
    subst z
    rw [figs_zero, List.nil_append] at e
    (walk_at "ac39ddb8c"; walk_at "ad25b13d2"; walk_at "a8f7cfc14")
    rw [← e]
    exact k _ ex
end
section
variable {P : Program} {w : World} {K : PySem.W.Frag} {mg : Str → Option Value} {base : Heap} {C_CountError C_NoCode C_NoBits C_NoPlace C_Row : Addr}
set_option maxHeartbeats 4000000 in
theorem ok_number_code {f : Addr} {fd : FuncData} {dV kV : Value} (g : G mg)
    (F : Txt K "number_code" "number_code" (defArgs st_number_code) (defBody st_number_code) (defScope st_number_code) dV kV f fd)
    (D_figures_of : Def P w K mg base 1 "figures_of" [] (sp_figures_of)) :
    FnG P w K mg base 2 f fd ["number"] (sp_number_code) := by
  refine z_fn F sc_number_code (fun vs H Q E h => by
    obtain ⟨i, rfl, h1, h2, k⟩ := h
    rfl) (fun cd A outer s H vs Q E hr ng h => ?_)
  obtain ⟨i, rfl, h1, h2, k⟩ := h
  refine ⟨_, [_, none], rfl, (pss_cons (ps_set (i := 1) sc_number_code.nd rfl (Or.inl rfl) (pe_f D_figures_of (hr.mono (by decide)) ng (by rfl) (tkW (takes_ rfl rfl rfl rfl)) (pa_cons (pv 0) pa_nil)))
      (pss_one (ps_ret (pe_op (k_add (K := K)) (pe_op z_mul (z_str lit_4) (pe_op z_sub (pe_callB (k_len (K := K)) (by rfl) g.b_len bt_len (pa_cons (pv 1) pa_nil)) pe_int)) (pv 1))))), ?_⟩
  have hl := figs_len (k := 20) (n := i.toNat) (by omega)
  have hp := figs_pos (n := i.toNat) (by omega)
  (walk_at "a85c4f338"; walk_at "acdbb3963"; walk_at "ae1f83bb8"; walk_at "ad25b13d2"; walk_at "afef05d44"; walk_at "a0449213e"; walk_at "a3d76496c"; walk_at "ac39ddb8c"; walk_at "a2c441c41"; walk_at "a2c441c41"; walk_at "ad15d6c32"; walk_at "a2c441c41"; walk_at "a33f2f4b5"; walk_at "ae1f83bb8"; walk_at "ad25b13d2"; walk_at "afef05d44"; walk_at "a6ebb81e6"; walk_at "ad15d6c32"; walk_at "a8c4e17e3"; walk_at "a1d30e24a"; walk_at "ad25b13d2"; walk_at "a4e0c8928"; walk_at "a8f7cfc14")
  have e : (((figs i.toNat).length : Nat) : Int) - 1 = (((figs i.toNat).length - 1 : Nat) : Int) := by omega
  rw [e, Int.toNat_natCast]
  exact k _ (by assumption)
end
section
variable {P : Program} {w : World} {K : PySem.W.Frag} {mg : Str → Option Value} {base : Heap} {C_CountError C_NoCode C_NoBits C_NoPlace C_Row : Addr}
set_option maxHeartbeats 4000000 in
theorem ok_runs_of {f : Addr} {fd : FuncData} {dV kV : Value} (g : G mg)
    (F : Txt K "runs_of" "runs_of" (defArgs st_runs_of) (defBody st_runs_of) (defScope st_runs_of) dV kV f fd) :
    FnG P w K mg base 1 f fd ["bits"] (sp_runs_of) := by
  refine z_fn F sc_runs_of (fun vs H Q E h => by
    obtain ⟨l, rfl, h1, k⟩ := h
    rfl) (fun cd A outer s H vs Q E hr ng h => ?_)
  obtain ⟨l, rfl, h1, k⟩ := h
  refine ⟨_, [_, none, none, none], rfl, (pss_cons (ps_set (i := 1) sc_runs_of.nd rfl (Or.inl rfl) (pe_lst pa_nil))
      (pss_cons (ps_set (i := 2) sc_runs_of.nd rfl (Or.inl rfl) (z_str lit_3))
      (pss_cons (ps_for (passes_of rfl) rfl (pi_str (pv 0)) (pg_name (i := 3) sc_runs_of.nd rfl (Or.inl rfl)) (pss_cons (ps_if (pt_cmpR (k_eq (K := K) hr.units) (pv 3) (pv 2) (nomark _)) (pss_one (ps_augS (pv 1) (pe_un un_neg pe_int) (k_get (K := K)) pe_int z_iadd set_list)) (pss_one (ps_expr (pe_bm PySem.F.plainAttrs_list PySem.F.slot_list_append PySem.F.type_list_append mt_append (pv 1) (pa_cons pe_int pa_nil)))))
      (pss_one (ps_set (i := 2) sc_runs_of.nd rfl (Or.inl rfl) (pv 3)))))
      (pss_one (ps_ret (pv 1)))))), ?_⟩
  (walk_at "a85c4f338"; walk_at "afaa010ed"; walk_at "afef05d44"; walk_at "a22972083"; walk_at "a3d76496c"; walk_at "a85c4f338"; walk_at "ad15d6c32"; walk_at "a3d76496c"; walk_at "a1fccfa88"; walk_at "aacce3769"; walk_at "ad25b13d2"; walk_at "a04585a94")
  rename_i p H1 hn he hp
  refine forT (fun i σ H' => ∃ v : Option V, σ = [some (T l), some (.ref p), some (T (rsAll (l.take i)).2), v] ∧ Ex H H' ∧ H' p = some (.lst ((rsAll (l.take i)).1.map fun n => V.int (n : Nat)))) ⟨none, rfl, he, hp⟩ ?_ ?_
  · rintro i c σ H2 hc ⟨v, rfl, ex, hp2⟩
    have hi : i < l.length := (List.getElem?_eq_some_iff.mp hc).1
    have hl := rsAll_len l i (by omega)
    (walk_at "a3d76496c"; walk_at "a4584bbba"; walk_at "a668f72f2"; walk_at "a2c441c41"; walk_at "ad25b13d2"; walk_at "ad25b13d2"; walk_at "ae5260597"; walk_at "a8a699a1b")
    refine zif_d (fun hq => ?_) (fun hq => ?_)
    · have hi0 : 0 < i := by
        rcases Nat.eq_zero_or_pos i with z | z
        · subst z; simp [rsAll] at hq
        · exact z
      have hlen := hl.2 hi0
      generalize ea : rsAll (l.take i) = s at *
      have hat : atI (s.1.map fun n => V.int (n : Nat)) (-1) = some (V.int ((s.1.getD (s.1.length - 1) 0 : Nat) : Int)) := by
        unfold atI ixN
        simp only [List.length_map]
        rw [if_neg (by omega), if_pos (by omega)]
        have e : ((-1 : Int) + (s.1.length : Int)).toNat = s.1.length - 1 := by omega
        rw [e]
        show (s.1.map fun n => V.int (n : Nat))[s.1.length - 1]? = _
        rw [List.getElem?_map, List.getD_eq_getElem?_getD, List.getElem?_eq_getElem (by omega)]
        rfl
      have hix : ixN (s.1.map fun n => V.int (n : Nat)).length (-1) = some (s.1.length - 1) := by
        unfold ixN
        simp only [List.length_map]
        rw [if_neg (by omega), if_pos (by omega)]
        congr 1
        omega
      (walk_at "a59e1a248"; walk_at "ad25b13d2"; walk_at "af5a97b89"; walk_at "ad15d6c32"; walk_at "a250d16b4"; walk_at "a8da086e8"; walk_at "ad15d6c32"; walk_at "a66a76921"; walk_at "a9857b6e3"; walk_at "a7f6d4dcc"; walk_at "ad25b13d2"; walk_at "a3d76496c"; walk_at "a28557e3a")
      rename_i H3 hp3 hb
      have er : rsAll (l.take (i + 1)) = (bump s.1, [c]) := by rw [rsAll_take hc, ea]; unfold rs; rw [if_pos hq]
      refine ⟨_, by rw [er], But.ex hb ex hn, ?_⟩
      rw [hp3, er]
      unfold bump
      rw [List.map_set]
      rfl
    · (walk_at "a5ba7d5f5"; walk_at "ad1b438b8"; walk_at "ad25b13d2"; walk_at "a39154dd1"; walk_at "ae1f83bb8"; walk_at "ad15d6c32"; walk_at "afef05d44"; walk_at "a320e47f0"; walk_at "a7f6d4dcc"; walk_at "ad25b13d2"; walk_at "a3d76496c"; walk_at "a28557e3a")
      rename_i H3 hp3 hb
      have er : rsAll (l.take (i + 1)) = ((rsAll (l.take i)).1 ++ [1], [c]) := by rw [rsAll_take hc]; unfold rs; rw [if_neg hq]
      refine ⟨_, by rw [er], But.ex hb ex hn, ?_⟩
      rw [hp3, er, List.map_append]
      rfl
  · rintro σ H2 ⟨v, rfl, ex, hp2⟩
    (walk_at "ac39ddb8c"; walk_at "ad25b13d2"; walk_at "a8f7cfc14")
    rw [List.take_length] at hp2
    exact k _ _ hn ex hp2
end
section
variable {P : Program} {w : World} {K : PySem.W.Frag} {mg : Str → Option Value} {base : Heap} {C_CountError C_NoCode C_NoBits C_NoPlace C_Row : Addr}
set_option maxHeartbeats 4000000 in
theorem ok_code_runs {f : Addr} {fd : FuncData} {dV kV : Value} (g : G mg)
    (F : Txt K "code_runs" "code_runs" (defArgs st_code_runs) (defBody st_code_runs) (defScope st_code_runs) dV kV f fd)
    (D_number_code : Def P w K mg base 2 "number_code" [] (sp_number_code))
    (D_runs_of : Def P w K mg base 1 "runs_of" [] (sp_runs_of)) :
    FnG P w K mg base 3 f fd ["bits"] (sp_code_runs) := by
  refine z_fn F sc_code_runs (fun vs H Q E h => by
    obtain ⟨l, rfl, h0, h1, k⟩ := h
    rfl) (fun cd A outer s H vs Q E hr ng h => ?_)
  obtain ⟨l, rfl, h0, h1, k⟩ := h
  refine ⟨_, [_, none, none], rfl, (pss_cons (ps_set (i := 1) sc_code_runs.nd rfl (Or.inl rfl) (pe_ix (k_ix (K := K)) (pv 0) pe_int (fun _ _ => rfl)))
      (pss_one (ps_ret (pe_op (k_add (K := K)) (pe_op (k_add (K := K)) (z_str lit_6) (pv 1)) (k_join (K := K) (z_str lit_3) (pe_lc (own := [("many", 2)]) (by rfl) sc_code_runs.nd (k_list (K := K) (pe_f D_runs_of (hr.mono (by decide)) ng (by rfl) (tkW (takes_ rfl rfl rfl rfl)) (pa_cons (pv 0) pa_nil))) (blkOk_by (own := [("many", 2)]) (N := nm_code_runs) (sc := defScope st_code_runs) (by decide +kernel)) (fun _ _ _ _ _ => (pg_name (i := 2) sc_code_runs.nd rfl (Or.inl rfl))) (fun _ _ _ _ _ => pts_nil) (fun _ _ _ _ _ => (pe_f D_number_code (hr.mono (by decide)) ng (by rfl) tk0 (pa_cons (pv 2) pa_nil))))))))), ?_⟩
  have hat : atI l 0 = some (l.getD 0 48) := by
    refine atI_nat (j := 0) ?_
    rw [List.getD_eq_getElem?_getD, List.getElem?_eq_getElem h0]
    rfl
  have hr := runs_len l
  have hz : ∀ n ∈ runs l, (ncode n).length ≤ 20 := fun n hn => ncode_len (k := 10) (by have := runs_le l n hn; omega)
  have hf := flat_len hz
  (walk_at "a85c4f338"; walk_at "a2c441c41"; walk_at "ad25b13d2"; walk_at "ad15d6c32"; walk_at "a4657a1b3"; walk_at "a3d76496c"; walk_at "ac39ddb8c"; walk_at "a2c441c41"; walk_at "a2c441c41"; walk_at "ad15d6c32"; walk_at "ad25b13d2"; walk_at "a4e0c8928"; walk_at "af6af6ffb"; walk_at "ad15d6c32"; walk_at "a90efc992"; walk_at "a2eb9ad30"; walk_at "a27ff4d3c"; walk_at "acdbb3963"; walk_at "ae1f83bb8"; walk_at "ad25b13d2"; walk_at "afef05d44"; walk_at "a60ffaf0d"; walk_at "a4e297517")
  refine lcL (ys := (runs l).map fun n => T (ncode n)) (SqL.of (by assumption)) (by simp) (by simp; omega) (fun _ => rfl) ?_ ?_
  · intro D i x H1 hD hx m
    rw [List.getElem?_map] at hx
    obtain ⟨n, hn, rfl⟩ := Option.map_eq_some_iff.mp hx
    have hm : n ∈ runs l := List.mem_of_getElem? hn
    have h2 := runs_pos l n hm
    have h3 := runs_le l n hm
    (walk_at "acdbb3963"; walk_at "ae1f83bb8"; walk_at "ad25b13d2"; walk_at "afef05d44"; walk_at "a85adec00")
    refine lm_put hD m (by assumption) ?_ (by simp; omega)
    rw [List.getElem?_map, hn, Int.toNat_natCast]
    rfl
  · intro D H1 hD ex hd
    have e : ((runs l).map fun n => T (ncode n)) = ((runs l).map ncode).map T := by rw [List.map_map]; rfl
    rw [e] at hd
    refine join_ hd (by rw [hf.2, List.length_nil]; omega) ?_
    rw [joinT_nil]
    (walk_at "a4e0c8928"; walk_at "a8f7cfc14")
    exact k _ (Ex.trans (by assumption) ex)
end
section
variable {P : Program} {w : World} {K : PySem.W.Frag} {mg : Str → Option Value} {base : Heap} {C_CountError C_NoCode C_NoBits C_NoPlace C_Row : Addr}
set_option maxHeartbeats 4000000 in
theorem ok_code_of {f : Addr} {fd : FuncData} {dV kV : Value} (g : G mg)
    (F : Txt K "code_of" "code_of" (defArgs st_code_of) (defBody st_code_of) (defScope st_code_of) dV kV f fd)
    (D_code_plain : Def P w K mg base 1 "code_plain" [] (sp_code_plain))
    (D_code_runs : Def P w K mg base 3 "code_runs" [] (sp_code_runs)) :
    FnG P w K mg base 4 f fd ["bits"] (sp_code_of) := by
  refine z_fn F sc_code_of (fun vs H Q E h => by
    obtain ⟨l, rfl, h0, h1, k⟩ := h
    rfl) (fun cd A outer s H vs Q E hr ng h => ?_)
  obtain ⟨l, rfl, h0, h1, k⟩ := h
  refine ⟨_, [_, none, none], rfl, (pss_cons (ps_par (i := 1) (j := 2) (by rfl) sc_code_of.nd rfl rfl (by decide) rfl rfl (pa_cons (pe_f D_code_plain (hr.mono (by decide)) ng (by rfl) (tkW (takes_ rfl rfl rfl rfl)) (pa_cons (pv 0) pa_nil)) (pa_cons (pe_f D_code_runs (hr.mono (by decide)) ng (by rfl) (tkW (takes_ rfl rfl rfl rfl)) (pa_cons (pv 0) pa_nil)) pa_nil)) (by rfl))
      (pss_one (ps_ret (pe_ifExp (pt_cmpR z_le (pe_callB (k_len (K := K)) (by rfl) g.b_len bt_len (pa_cons (pv 1) pa_nil)) (pe_callB (k_len (K := K)) (by rfl) g.b_len bt_len (pa_cons (pv 2) pa_nil)) (nomark _)) (pv 1) (pv 2))))), ?_⟩
  have hr := rcode_len h1
  (walk_at "a91c550d3"; walk_at "ae1f83bb8"; walk_at "acdbb3963"; walk_at "ae1f83bb8"; walk_at "ad25b13d2"; walk_at "afef05d44"; walk_at "a9fb61089"; walk_at "ae1f83bb8"; walk_at "acdbb3963"; walk_at "ae1f83bb8"; walk_at "ad25b13d2"; walk_at "afef05d44"; walk_at "a93f87247"; walk_at "afef05d44"; walk_at "a843fc401"; walk_at "a3d76496c"; walk_at "ac39ddb8c"; walk_at "a3f49daff"; walk_at "a668f72f2"; walk_at "a2c441c41"; walk_at "a33f2f4b5"; walk_at "ae1f83bb8"; walk_at "ad25b13d2"; walk_at "afef05d44"; walk_at "a6ebb81e6"; walk_at "a33f2f4b5"; walk_at "ae1f83bb8"; walk_at "ad25b13d2"; walk_at "afef05d44"; walk_at "a6ebb81e6"; walk_at "af2623f90"; walk_at "a8a699a1b")
  rename_i H1 e1 H2 e2
  refine zife_d (fun hq => ?_) (fun hq => ?_)
  · have e : scode l = 112 :: l := if_pos (by omega)
    rw [e] at k
    (walk_at "ad25b13d2"; walk_at "a8f7cfc14")
    exact k _ (e1.trans e2)
  · have e : scode l = rcode l := if_neg (by omega)
    rw [e] at k
    (walk_at "ad25b13d2"; walk_at "a8f7cfc14")
    exact k _ (e1.trans e2)
end
section
variable {P : Program} {w : World} {K : PySem.W.Frag} {mg : Str → Option Value} {base : Heap} {C_CountError C_NoCode C_NoBits C_NoPlace C_Row : Addr}
set_option maxHeartbeats 4000000 in
theorem ok_Row_fill {f : Addr} {fd : FuncData} {dV kV : Value} (g : G mg)
    (F : Txt K "fill" "Row.fill" (defArgs st_Row_fill) (defBody st_Row_fill) (defScope st_Row_fill) dV kV f fd)
    (fc_Row : FC_Row K C_Row)
    (D_head_of : Def P w K mg base 1 "head_of" [] (sp_head_of))
    (D_code_of : Def P w K mg base 4 "code_of" [] (sp_code_of)) :
    FnG P w K mg base 5 f fd ["self", "first", "last", "bits"] (sp_Row_fill C_Row) := by
  refine z_fn F sc_Row_fill (fun vs H Q E h => by
    obtain ⟨r, fp, sz, bks, op, hn, n, m, l, rfl, R, hb, h0, h1, h2, k⟩ := h
    rfl) (fun cd A outer s H vs Q E hr ng h => ?_)
  obtain ⟨r, fp, sz, bks, op, hn, n, m, l, rfl, R, hb, h0, h1, h2, k⟩ := h
  have no_Row_code_rows := fc_Row.code_rows
  have no_Row_head_rows := fc_Row.head_rows
  have no_Row_size := fc_Row.size
  have cl_Row := fc_Row.cls
  refine ⟨_, [_, _, _, _, none, none, none], rfl, (pss_cons (ps_setLc (i := 4) (own := [("at", 5)]) rfl sc_Row_fill.nd rfl rfl (sw_true rfl rfl rfl (by decide +kernel)) (pi_range3 (by rfl) g.b_range (pa_cons pe_int (pa_cons (pe_callB (k_len (K := K)) (by rfl) g.b_len bt_len (pa_cons (pv 3) pa_nil)) (pa_cons (k_fld (K := K) (pv 0) rfl) pa_nil)))) (blkOk_by (own := [("at", 5)]) (N := nm_Row_fill) (sc := defScope st_Row_fill) (by decide +kernel)) (fun _ _ _ _ _ => (pg_name (i := 5) sc_Row_fill.nd rfl (Or.inl rfl))) (fun _ _ _ _ _ => pts_nil) (fun _ _ _ _ _ => (pe_slice (k_sl (K := K)) (pv 3) (po_some (pv 5)) (po_some (pe_op (k_add (K := K)) (pv 5) (k_fld (K := K) (pv 0) rfl))))))
      (pss_cons (ps_asg (pe_lc (own := [("part", 6)]) (by rfl) sc_Row_fill.nd (k_list (K := K) (pv 4)) (blkOk_by (own := [("part", 6)]) (N := nm_Row_fill) (sc := defScope st_Row_fill) (by decide +kernel)) (fun _ _ _ _ _ => (pg_name (i := 6) sc_Row_fill.nd rfl (Or.inl rfl))) (fun _ _ _ _ _ => pts_nil) (fun _ _ _ _ _ => (pe_f D_head_of (hr.mono (by decide)) ng (by rfl) tk0 (pa_cons (pv 6) pa_nil)))) (pg_slice (k_fld (K := K) (pv 0) rfl) (po_some (pv 1)) (po_some (pv 2))))
      (pss_one (ps_asg (pe_lc (own := [("part", 6)]) (by rfl) sc_Row_fill.nd (k_list (K := K) (pv 4)) (blkOk_by (own := [("part", 6)]) (N := nm_Row_fill) (sc := defScope st_Row_fill) (by decide +kernel)) (fun _ _ _ _ _ => (pg_name (i := 6) sc_Row_fill.nd rfl (Or.inl rfl))) (fun _ _ _ _ _ => pts_nil) (fun _ _ _ _ _ => (pe_f D_code_of (hr.mono (by decide)) ng (by rfl) tk0 (pa_cons (pv 6) pa_nil)))) (pg_slice (k_fld (K := K) (pv 0) rfl) (po_some (pv 1)) (po_some (pv 2))))))), ?_⟩
  obtain ⟨dx, a, b, c, ts, rfl, e1, e2, hd, e3, e4, n1, n2, n3⟩ := R.ex
  have s4 := R.s4
  have s64 := R.s64
  have fw := R.few2
  have hp1 : 0 < sz := by omega
  have hcnt : (((l.length : Int) + (sz : Nat) - 1) / (sz : Nat)).toNat = (l.length + sz - 1) / sz := by
    have e : ((l.length : Int) + (sz : Nat) - 1) = ((l.length + sz - 1 : Nat) : Int) := by omega
    rw [e, ← Int.natCast_ediv, Int.toNat_natCast]
  have hpl := parts_len sz l
  have hfew : (parts sz l).length ≤ 1000 := by
    have := len_flat_pos (bks := parts sz l) fun x hx => (parts_mem hp1 hx).1
    rw [parts_flat hp1] at this
    omega
  (walk_at "a85c4f338"; walk_at "a2eb9ad30"; walk_at "a4975cdfa"; walk_at "ae1f83bb8"; walk_at "ad15d6c32"; walk_at "ae1f83bb8"; walk_at "a33f2f4b5"; walk_at "ae1f83bb8"; walk_at "ad25b13d2"; walk_at "afef05d44"; walk_at "a6ebb81e6"; walk_at "ae1f83bb8"; walk_at "aa641d4b3"; walk_at "ad25b13d2"; walk_at "abfee9271"; walk_at "afef05d44"; walk_at "a83f44b7e")
  rw [hcnt]
  refine lcRC (ys := (parts sz l).map T) (by rw [List.length_map, hpl]) (by rw [List.length_map]; omega) (fun _ => rfl) ?_ ?_
  · intro D i H1 hD hi m
    have ex1 := m.ex
    obtain ⟨hat, hlt⟩ := parts_at hp1 l hi
    have hi0 : 0 ≤ (0 : Int) + (i : Nat) * (sz : Nat) := by
      have := Int.mul_nonneg (Int.natCast_nonneg i) (Int.natCast_nonneg sz)
      omega
    (walk_at "a1e0e6469"; walk_at "ad25b13d2"; walk_at "a0ebae3b6"; walk_at "ad25b13d2"; walk_at "a6a11b937"; walk_at "a0ebae3b6"; walk_at "a2c441c41"; walk_at "ad25b13d2"; walk_at "aa641d4b3"; walk_at "ad25b13d2"; walk_at "abfee9271"; walk_at "a470d4ce9"; walk_at "a6a11b937"; walk_at "a55f8cc73")
    rw [cut_mid _ _ _ hi0 (by omega)]
    have e6 : ((0 : Int) + (i : Nat) * (sz : Nat)).toNat = i * sz := by
      have : (0 : Int) + (i : Nat) * (sz : Nat) = ((i * sz : Nat) : Int) := by rw [Int.natCast_mul]; omega
      rw [this, Int.toNat_natCast]
    have e7 : (((0 : Int) + (i : Nat) * (sz : Nat) + (sz : Nat)) - ((0 : Int) + (i : Nat) * (sz : Nat))).toNat = sz := by omega
    rw [e6, e7]
    refine lm_put hD m (Ex.refl _) ?_ (by rw [List.length_map]; omega)
    rw [List.getElem?_map, hat]
    rfl
  · intro D1 H1 hD1 ex1 hd1
    (walk_at "a3d76496c"; walk_at "a43bf46d2"; walk_at "a2eb9ad30"; walk_at "a27ff4d3c"; walk_at "ad25b13d2"; walk_at "a4e297517")
    refine lcW (walk_list (xs := (parts sz l).map T)) (fun D2 i H' => ∃ us : List Addr, H' D2 = some (.lst (us.map V.ref)) ∧ Heads H' us ((parts sz l).take i) ∧ Ex H1 H') ?_ ?_ ?_ ?_
    · intro D2 H2 hD2 ex2 hd2
      exact ⟨[], hd2, by rw [List.take_zero]; exact Heads.nil _, ex2⟩
    · rintro D2 i H2 _ ⟨us, q1, q2, q3⟩
      exact SqL.of (q3.at_ hd1)
    · rintro D2 i x H2 _ hD2 hi ⟨us, q1, q2, q3⟩ ⟨rfl, hx⟩
      rw [List.getElem?_map] at hx
      obtain ⟨y, hy, rfl⟩ := Option.map_eq_some_iff.mp hx
      have hm := parts_mem hp1 (List.mem_of_getElem? hy)
      have hby : Bits y := fun c hc => hb c (hm.2.2 c hc)
      (walk_at "a3beb7cd4"; walk_at "af96afe5f"; walk_at "a35c9178e"; walk_at "a97db19fa"; walk_at "acdbb3963"; walk_at "ae1f83bb8"; walk_at "ad25b13d2"; walk_at "afef05d44"; walk_at "ad2d1ffb7")
      rename_i p H3 mm n9 x9 h9 lm9
      refine zput1_ (x9.at_ q1) (by
        have := q2.len
        rw [List.length_take] at this
        rw [List.length_map]
        omega) fun H4 q4 b4 => ⟨us ++ [p], by rw [q4, List.map_append]; rfl, ?_, ?_⟩
      · have e : (parts sz l).take (i + 1) = (parts sz l).take i ++ [y] := by rw [List.take_succ, hy]; rfl
        rw [e]
        have nt : ∀ {t xs}, H3 t = some (.tup xs) → t ≠ D2 := fun {t xs} h z => by
          rw [z, x9.at_ q1] at h
          cases h
        refine Heads.app (q2.keep fun t xs h => b4 _ _ (nt (x9 _ _ h)) (x9 _ _ h)) ⟨rfl, fun j t z ht hz => ?_⟩
        cases j with
        | zero =>
          cases ht
          cases hz
          exact ⟨mm, b4 _ _ (nt h9) h9, lm9⟩
        | succ j => cases ht
      · exact b4.ex (q3.trans x9) hD2
    · rintro D2 H2 hD2 ⟨us, q1, q2, q3⟩
      rw [List.length_map, List.take_length] at q2
      have hul := q2.len
      have naD : D2 ≠ a := fun z => by
        rw [z] at hD2
        rw [ex1.at_ e2] at hD2
        cases hD2
      have fr : ∀ {x o}, H x = some o → H2 x = some o := fun {x o} h => q3.at_ (ex1.at_ h)
      have g1 := fr e1
      have g2 := fr e2
      have g3 := fr e3
      have g4 := fr e4
      have gD1 : H2 D1 = _ := q3.at_ hd1
      have nD1a : D1 ≠ a := fun z => by
        rw [z] at hD1
        rw [e2] at hD1
        cases hD1
      have nra : r ≠ a := fun z => by
        rw [z, e2] at e1
        cases e1
      have htl := hd.len
      (walk_at "ad524b7b3"; walk_at "aa641d4b3"; walk_at "ad25b13d2"; walk_at "a2bbc0fda"; walk_at "a0ebae3b6"; walk_at "ad25b13d2"; walk_at "a6a11b937"; walk_at "a0ebae3b6"; walk_at "ad25b13d2"; walk_at "a6a11b937"; walk_at "a494fa65e"; walk_at "aee1b00cb"; walk_at "a2eb9ad30"; walk_at "a27ff4d3c"; walk_at "ad25b13d2"; walk_at "a4e297517")
      rename_i H3 q4 b4
      simp only [Int.toNat_natCast, ← List.map_take, ← List.map_drop, ← List.map_append] at q4
      have k3 : ∀ {x o}, x ≠ a → H x = some o → H3 x = some o := fun {x o} nx h => b4 _ _ nx (fr h)
      have nt : ∀ {t xs}, H t = some (.tup xs) → t ≠ a := fun {t xs} h z => by
        rw [z, e2] at h
        cases h
      refine lcL (ys := (parts sz l).map fun x => T (scode x)) (SqL.of (b4 _ _ nD1a gD1)) (by simp) (by rw [List.length_map]; omega) (fun _ => rfl) ?_ ?_
      · intro D3 i x H4 hD3 hx m3
        rw [List.getElem?_map] at hx
        obtain ⟨y, hy, rfl⟩ := Option.map_eq_some_iff.mp hx
        have hm := parts_mem hp1 (List.mem_of_getElem? hy)
        (walk_at "acdbb3963"; walk_at "ae1f83bb8"; walk_at "ad25b13d2"; walk_at "afef05d44"; walk_at "ac3e219a9")
        refine lm_put hD3 m3 (by assumption) ?_ (by rw [List.length_map]; omega)
        rw [List.getElem?_map, hy]
        rfl
      · intro D3 H4 hD3 ex4 hd3
        have j1 := ex4.at_ (k3 nra e1)
        have j3 := ex4.at_ (k3 n1.symm e3)
        have j4 := ex4.at_ (k3 n2.symm e4)
        have j2 := ex4.at_ q4
        have nbD : b ≠ D3 := fun z => by
          rw [← z, k3 n1.symm e3] at hD3
          cases hD3
        (walk_at "ad524b7b3"; walk_at "aa641d4b3"; walk_at "ad25b13d2"; walk_at "a2bbc0fda"; walk_at "a0ebae3b6"; walk_at "ad25b13d2"; walk_at "a6a11b937"; walk_at "a0ebae3b6"; walk_at "ad25b13d2"; walk_at "a6a11b937"; walk_at "a494fa65e"; walk_at "a28557e3a")
        rename_i H5 q5 b5
        simp only [Int.toNat_natCast, ← List.map_take, ← List.map_drop] at q5
        have nrb : r ≠ b := fun z => by
          rw [z, e3] at e1
          cases e1
        have ntb : ∀ {t xs}, H t = some (.tup xs) → t ≠ b := fun {t xs} h z => by
          rw [z, e3] at h
          cases h
        have k5 : ∀ {x o}, x ≠ a → x ≠ b → H x = some o → H5 x = some o := fun {x o} nx nb h => b5 _ _ nb (ex4.at_ (k3 nx h))
        have kt : ∀ t xs, H2 t = some (.tup xs) → H5 t = some (.tup xs) := fun t xs h => by
          have na : t ≠ a := fun z => by
            rw [z, g2] at h
            cases h
          have nb : t ≠ b := fun z => by
            rw [z, g3] at h
            cases h
          exact b5 _ _ nb (ex4.at_ (b4 _ _ na h))
        refine k H5 ⟨⟨dx, a, b, c, ts.take n ++ us ++ ts.drop m, rfl, k5 nra nrb e1, b5 _ _ n1 j2, ?_, ?_, b5 _ _ n3.symm j4, n1, n2, n3⟩, ?_, R.s4, R.s64, h2⟩ ?_
        · exact (((hd.keep fun t xs h => fr h).take n).app q2 |>.app ((hd.keep fun t xs h => fr h).drop m)).keep kt
        · rw [q5, List.map_append, List.map_append]
        · intro x hx
          rcases List.mem_append.mp hx with z | z
          · rcases List.mem_append.mp z with z | z
            · exact R.ok x (List.mem_of_mem_take z)
            · have hm := parts_mem hp1 z
              exact ⟨fun c hc => hb c (hm.2.2 c hc), hm.1, hm.2.1⟩
          · exact R.ok x (List.mem_of_mem_drop z)
        · intro x o nx h
          refine k5 ?_ ?_ h
          · intro z; exact nx (by rw [z]; simp)
          · intro z; exact nx (by rw [z]; simp)
end
section
variable {P : Program} {w : World} {K : PySem.W.Frag} {mg : Str → Option Value} {base : Heap} {C_CountError C_NoCode C_NoBits C_NoPlace C_Row : Addr}
set_option maxHeartbeats 4000000 in
theorem ok_Row_count_bits {f : Addr} {fd : FuncData} {dV kV : Value} (g : G mg)
    (F : Txt K "count_bits" "Row.count_bits" (defArgs st_Row_count_bits) (defBody st_Row_count_bits) (defScope st_Row_count_bits) dV kV f fd)
    (fc_Row : FC_Row K C_Row) :
    FnG P w K mg base 1 f fd ["self"] (sp_Row_count_bits C_Row) := by
  refine z_fn F sc_Row_count_bits (fun vs H Q E h => by
    obtain ⟨r, fp, sz, bks, op, hn, rfl, R, k⟩ := h
    rfl) (fun cd A outer s H vs Q E hr ng h => ?_)
  obtain ⟨r, fp, sz, bks, op, hn, rfl, R, k⟩ := h
  have no_Row_head_rows := fc_Row.head_rows
  have no_Row_held_signs := fc_Row.held_signs
  have cl_Row := fc_Row.cls
  refine ⟨_, [_, none, none, none], rfl, (pss_one (ps_fld (pv 0) (pe_op z_mul (pe_lst (pa_cons pe_int pa_nil)) (pe_callB (k_sum (K := K) rfl) (by rfl) g.b_sum bt_sum (pa_cons (pe_lc (own := [("many", 1), ("ones", 2), ("least", 3)]) (by rfl) sc_Row_count_bits.nd (k_list (K := K) (k_fld (K := K) (pv 0) rfl)) (blkOk_by (own := [("many", 1), ("ones", 2), ("least", 3)]) (N := nm_Row_count_bits) (sc := defScope st_Row_count_bits) (by decide +kernel)) (fun _ _ _ _ _ => (k_tup (K := K) (n := 3) (by rfl) (pgs_cons (pg_name (i := 1) sc_Row_count_bits.nd rfl (Or.inl rfl)) (pgs_cons (pg_name (i := 2) sc_Row_count_bits.nd rfl (Or.inl rfl)) (pgs_cons (pg_name (i := 3) sc_Row_count_bits.nd rfl (Or.inl rfl)) pgs_nil))))) (fun _ _ _ _ _ => pts_nil) (fun _ _ _ _ _ => (pv 1))) pa_nil))) rfl)), ?_⟩
  obtain ⟨dx, a, b, c, ts, rfl, e1, e2, hd, e3, e4, n1, n2, n3⟩ := R.ex
  have fw := R.few2
  have fw2 := R.few
  (walk_at "aaab3d0ba"; walk_at "a2c441c41"; walk_at "afaa010ed"; walk_at "ae1f83bb8"; walk_at "ad15d6c32"; walk_at "afef05d44"; walk_at "a22972083"; walk_at "a33f2f4b5"; walk_at "ae1f83bb8"; walk_at "a2eb9ad30"; walk_at "a27ff4d3c"; walk_at "aa641d4b3"; walk_at "ad25b13d2"; walk_at "a2bbc0fda"; walk_at "a4e297517")
  refine lcLg (ys := bks.map fun l => V.int (l.length : Nat)) (SqL.of (by walk_at "lk")) (by rw [List.length_map, List.length_map, hd.len]) (by rw [List.length_map]; omega) ?_ ?_
  · rintro D i x H1 hD hx m
    rw [List.getElem?_map] at hx
    obtain ⟨t, ht, rfl⟩ := Option.map_eq_some_iff.mp hx
    have hi : i < bks.length := by rw [← hd.len]; exact (List.getElem?_eq_some_iff.mp ht).1
    obtain ⟨mm, e5, _⟩ := hd.at_ i t _ ht (List.getElem?_eq_getElem hi)
    have ex1 := m.ex
    (walk_at "afbecc87a"; walk_at "a54305b80"; walk_at "a3beb7cd4"; walk_at "a54305b80"; walk_at "a3beb7cd4"; walk_at "a54305b80"; walk_at "a3beb7cd4"; walk_at "abc6e375f"; walk_at "af96afe5f"; walk_at "ad25b13d2")
    refine lm_put hD m (Ex.refl _) ?_ (by rw [List.length_map]; omega)
    rw [List.getElem?_map, List.getElem?_eq_getElem hi]
    rfl
  · intro D H1 hD ex hd1
    have em : (bks.map fun l => V.int (l.length : Nat)) = (bks.map fun l => ((l.length : Nat) : Int)).map V.int := by rw [List.map_map]; rfl
    rw [em] at hd1
    (walk_at "afef05d44")
    refine sum_ hd1 ?_
    rw [sum_lens]
    (walk_at "a22093df9"; walk_at "ad25b13d2"; walk_at "aec654b28"; walk_at "a28557e3a")
    rename_i p1 G1 m1 x1 q1 p2 G2 m2 x2 q2 G3 q3 b3
    rw [Int.toNat_natCast, rep_list] at q2
    have ec : G2 c = _ := (x1.trans (ex.trans x2)).at_ e4
    have ea : G2 a = _ := (x1.trans (ex.trans x2)).at_ e2
    have eb : G2 b = _ := (x1.trans (ex.trans x2)).at_ e3
    have nr : ∀ {x o}, G2 x = some (HO.lst o) → x ≠ r := fun {x o} h z => by
      rw [z, (x1.trans (ex.trans x2)).at_ e1] at h
      cases h
    have new : H p2 = none := (x1.trans ex).back m2
    refine k G3 [r, a, b, p2] ⟨⟨dx, a, b, p2, ts, rfl, q3, b3 _ _ (nr ea) ea, ?_, b3 _ _ (nr eb) eb, b3 _ _ (nr q2) q2, n1, ne_of_none e2 new, ne_of_none e3 new⟩, R.ok, R.s4, R.s64, R.few⟩ (((x1.trans ex).trans x2).bst b3.bs) ?_
    · refine (hd.keep fun t xs e => (x1.trans (ex.trans x2)).at_ e).keep fun t xs e => b3 _ _ (fun z => ?_) e
      rw [z, (x1.trans (ex.trans x2)).at_ e1] at e
      cases e
    · intro x hx
      simp only [List.mem_cons, List.not_mem_nil, or_false] at hx
      rcases hx with rfl | rfl | rfl | rfl
      · exact .inl (by simp)
      · exact .inl (by simp)
      · exact .inl (by simp)
      · exact .inr new
end
section
variable {P : Program} {w : World} {K : PySem.W.Frag} {mg : Str → Option Value} {base : Heap} {C_CountError C_NoCode C_NoBits C_NoPlace C_Row : Addr}
set_option maxHeartbeats 4000000 in
theorem ok_NoBits_init {f : Addr} {fd : FuncData} {dV kV : Value} (g : G mg)
    (F : Txt K "__init__" "NoBits.__init__" (defArgs st_NoBits_init) (defBody st_NoBits_init) (defScope st_NoBits_init) dV kV f fd)
    (TE : ErrC K C_NoBits "ValueError.__new__" "ValueError.__init__")
    (no_f : PySem.W.findIn K (.ref C_NoBits) "at" = some none)
    (gl_CountError : mg "CountError" = some (.ref C_CountError))
    (rd_CountError : PySem.W.readsIn K C_CountError (.type "type") = true)
    (ga_CountError : PySem.W.specialIn K (.ref C_CountError) "__getattribute__" = some (some (.builtin "type.__getattribute__")))
    (vV_CountError : PySem.W.findCls K (.ref C_CountError) (.type "type") "__init__" = some (.val (.builtin "ValueError.__init__"))) :
    FnG P w K mg base 1 f fd ["self", "at"] (spErr C_NoBits "at") := by
  refine z_fn F sc_NoBits_init (fun vs H Q E h => by
    obtain ⟨a, v, rfl, ha, k⟩ := h
    rfl) (fun cd A outer s H vs Q E hr ng h => ?_)
  obtain ⟨a, v, rfl, ha, k⟩ := h
  refine ⟨_, [_, _], rfl, (pss_cons (ps_expr (pe_cinit (newId := "ValueError.__new__") (initId := "ValueError.__init__") (by rfl) gl_CountError rd_CountError ga_CountError vV_CountError (pa_cons (pv 0) (pa_cons (z_str lit_1) pa_nil)) (by decide +kernel)))
      (pss_one (ps_errS (newId := "ValueError.__new__") (initId := "ValueError.__init__") (pv 0) (pv 1)))), ?_⟩
  (walk_at "a29d25caa"; walk_at "a1994a4b5"; walk_at "ae1f83bb8"; walk_at "ad25b13d2"; walk_at "ae1f83bb8"; walk_at "ad15d6c32"; walk_at "afef05d44"; walk_at "a0205dc8a"; walk_at "a02880656"; walk_at "ad25b13d2"; walk_at "ad25b13d2"; walk_at "ac74702f2"; walk_at "a28557e3a")
  rename_i dx nd ne
  exact k _ nd ne
end
section
variable {P : Program} {w : World} {K : PySem.W.Frag} {mg : Str → Option Value} {base : Heap} {C_CountError C_NoCode C_NoBits C_NoPlace C_Row : Addr}
set_option maxHeartbeats 4000000 in
theorem ok_look_bits {f : Addr} {fd : FuncData} {dV kV : Value} (g : G mg)
    (F : Txt K "look_bits" "look_bits" (defArgs st_look_bits) (defBody st_look_bits) (defScope st_look_bits) dV kV f fd)
    (X_NoBits : MkErr P w K mg base 1 "NoBits" C_NoBits "at") :
    FnG P w K mg base 3 f fd ["thing"] (sp_look_bits) := by
  refine z_fn F sc_look_bits (fun vs H Q E h => by
    obtain ⟨l, rfl, hb, hl, k⟩ := h
    rfl) (fun cd A outer s H vs Q E hr ng h => ?_)
  obtain ⟨l, rfl, hb, hl, k⟩ := h
  obtain ⟨_, c_MOST_BITS_rows⟩ := g.c_MOST_BITS_rows
  obtain ⟨_, c_BITS⟩ := g.c_BITS
  refine ⟨_, [_, none, none], rfl, (pss_cons (ps_if (PW.pt (pw_or (pt_not (pt_val (pe_callB (k_isi (K := K)) (by rfl) g.b_isinstance bt_isinstance (pa_cons (pv 0) (pa_cons (pe_bltn (v := .ty "str") (by rfl) g.b_str bt_str rfl) pa_nil))))) (pw_or1 (pt_cmpR z_gt (pe_callB (k_len (K := K)) (by rfl) g.b_len bt_len (pa_cons (pv 0) pa_nil)) (pe_glob (v := .int 1000) (by rfl) c_MOST_BITS_rows ⟨_, rfl⟩) (nomark _))))) (pss_one (ps_raiseE rfl (takes_ rfl rfl rfl rfl) X_NoBits (hr.mono (by decide)) ng (by rfl) (pa_cons pe_non pa_nil))) pss_nil)
      (pss_one (ps_for (passes_of rfl) rfl (z_enumS (by rfl) g.b_enumerate (pa_cons (pv 0) pa_nil)) (k_tup (K := K) (n := 2) (by rfl) (pgs_cons (pg_name (i := 1) sc_look_bits.nd rfl (Or.inl rfl)) (pgs_cons (pg_name (i := 2) sc_look_bits.nd rfl (Or.inl rfl)) pgs_nil))) (pss_one (ps_if (pt_cmpR (k_ni (K := K)) (pv 2) (pe_glob (v := T [48, 49]) (by rfl) c_BITS ⟨_, rfl⟩) rfl) (pss_one (ps_raiseE rfl (takes_ rfl rfl rfl rfl) X_NoBits (hr.mono (by decide)) ng (by rfl) (pa_cons (pv 1) pa_nil))) pss_nil))))), ?_⟩
  (walk_at "a4584bbba"; walk_at "a2c422e4c"; walk_at "a35e1d11b"; walk_at "a5ca36a29"; walk_at "a33f2f4b5"; walk_at "ae1f83bb8"; walk_at "ad25b13d2"; walk_at "ae1f83bb8"; walk_at "ad15d6c32"; walk_at "afef05d44"; walk_at "af08ba47b"; walk_at "a8a699a1b"; walk_at "ad25f38df"; walk_at "a668f72f2"; walk_at "a2c441c41"; walk_at "a33f2f4b5"; walk_at "ae1f83bb8"; walk_at "ad25b13d2"; walk_at "afef05d44"; walk_at "a6ebb81e6"; walk_at "ad15d6c32"; walk_at "a2251479c"; walk_at "a8a699a1b"; walk_at "a1fcbcf3e"; walk_at "a3cf0dcf0"; walk_at "ae4e945db"; walk_at "a5c94feb2"; walk_at "ae1f83bb8"; walk_at "ad25b13d2"; walk_at "afef05d44"; walk_at "a113e001c")
  refine forEnT (fun i σ H' => ∃ v1 v2 : Option V, σ = [some (T l), v1, v2] ∧ Ex H H') ⟨none, none, rfl, Ex.refl H⟩ ?_ ?_
  · rintro i c σ H1 H2 hc ⟨v1, v2, rfl, ex⟩ hx
    have hm : c ∈ [48, 49] := by
      rcases hb c (List.mem_of_getElem? hc) with z | z
      · rw [z]; simp
      · rw [z]; simp
    (walk_at "a3d76496c"; walk_at "ae44f4543"; walk_at "a668f72f2"; walk_at "a2c441c41"; walk_at "ad25b13d2"; walk_at "ad15d6c32"; walk_at "a9fc98b3a"; walk_at "a8a699a1b"; walk_at "a61eea2e0"; walk_at "a3cf0dcf0"; walk_at "a28557e3a")
    exact ⟨_, _, rfl, ex.trans hx⟩
  · rintro σ H1 ⟨v1, v2, rfl, ex⟩
    (walk_at "a28557e3a")
    exact k _ ex
end
section
variable {P : Program} {w : World} {K : PySem.W.Frag} {mg : Str → Option Value} {base : Heap} {C_CountError C_NoCode C_NoBits C_NoPlace C_Row : Addr}
set_option maxHeartbeats 4000000 in
theorem ok_Row_init {f : Addr} {fd : FuncData} {dV kV : Value} (g : G mg)
    (F : Txt K "__init__" "Row.__init__" (defArgs st_Row_init) (defBody st_Row_init) (defScope st_Row_init) dV kV f fd)
    (fc_Row : FC_Row K C_Row)
    (N_Row_count_bits : MthK P w K mg base 1 C_Row "count_bits" 1 [] (fun vs _ => vs) (sp_Row_count_bits C_Row))
    (N_Row_fill : MthK P w K mg base 5 C_Row "fill" 4 [] (fun vs _ => vs) (sp_Row_fill C_Row))
    (D_look_bits : Def P w K mg base 3 "look_bits" [] (sp_look_bits)) :
    FnG P w K mg base 6 f fd ["self", "bits", "size"] (sp_Row_init C_Row) := by
  refine z_fn F sc_Row_init (fun vs H Q E h => by
    obtain ⟨r, dx, sz, l, rfl, er, hb, h0, s4, s64, k⟩ := h
    rfl) (fun cd A outer s H vs Q E hr ng h => ?_)
  obtain ⟨r, dx, sz, l, rfl, er, hb, h0, s4, s64, k⟩ := h
  obtain ⟨_, c_SIZE⟩ := g.c_SIZE
  have no_Row_code_rows := fc_Row.code_rows
  have no_Row_head_rows := fc_Row.head_rows
  have no_Row_held_signs := fc_Row.held_signs
  have no_Row_opens := fc_Row.opens
  have no_Row_size := fc_Row.size
  have cl_Row := fc_Row.cls
  refine ⟨_, [_, _, _], rfl, (pss_cons (ps_expr (pe_f D_look_bits (hr.mono (by decide)) ng (by rfl) (tkW (takes_ rfl rfl rfl rfl)) (pa_cons (pv 1) pa_nil)))
      (pss_cons (ps_fld (pv 0) (pv 2) rfl)
      (pss_cons (ps_fld (pv 0) (pe_lst pa_nil) rfl)
      (pss_cons (ps_fld (pv 0) (pe_lst pa_nil) rfl)
      (pss_cons (ps_fld (pv 0) pe_int rfl)
      (pss_cons (ps_fld (pv 0) (pe_lst pa_nil) rfl)
      (pss_cons (ps_expr (pe_mk1 (pv 0) N_Row_fill (hr.mono (by decide)) ng (tkW (takes_ rfl rfl rfl rfl)) (pa_cons pe_int (pa_cons pe_int (pa_cons (pv 1) pa_nil)))))
      (pss_one (ps_expr (pe_mk0 (pv 0) N_Row_count_bits (hr.mono (by decide)) ng (tkW (takes_ rfl rfl rfl rfl)))))))))))), ?_⟩
  (walk_at "a29d25caa"; walk_at "acdbb3963"; walk_at "ae1f83bb8"; walk_at "ad25b13d2"; walk_at "afef05d44"; walk_at "a57fa1fa6"; walk_at "af7513220"; walk_at "ad25b13d2"; walk_at "ad25b13d2"; walk_at "aec654b28"; walk_at "af7513220"; walk_at "afaa010ed"; walk_at "afef05d44"; walk_at "a22972083"; walk_at "ad25b13d2"; walk_at "aec654b28"; walk_at "af7513220"; walk_at "afaa010ed"; walk_at "afef05d44"; walk_at "a22972083"; walk_at "ad25b13d2"; walk_at "aec654b28"; walk_at "af7513220"; walk_at "ad15d6c32"; walk_at "ad25b13d2"; walk_at "aec654b28"; walk_at "af7513220"; walk_at "afaa010ed"; walk_at "afef05d44"; walk_at "a22972083"; walk_at "ad25b13d2"; walk_at "aec654b28"; walk_at "a29d25caa"; walk_at "abe2830cc"; walk_at "ad25b13d2"; walk_at "af3be9463"; walk_at "ae1f83bb8"; walk_at "ad15d6c32"; walk_at "ae1f83bb8"; walk_at "ad15d6c32"; walk_at "ae1f83bb8"; walk_at "ad25b13d2"; walk_at "afef05d44"; walk_at "afef05d44"; walk_at "a16f6b169")
  rename_i G1 x1 G2 q2 b2 p3 G3 n3 x3 q3 G4 q4 b4 p5 G5 n5 x5 q5 G6 q6 b6 G7 q7 b7 p8 G8 n8 x8 q8 G9 q9 b9
  have m3 : p3 ≠ r := Ne.symm (ne_new n3 q2)
  have m5 : p5 ≠ r := Ne.symm (ne_new n5 q4)
  have m8 : p8 ≠ r := Ne.symm (ne_new n8 q7)
  have l37 : G7 p3 = some (.lst []) := b7 _ _ m3 (b6 _ _ m3 (x5 _ _ (b4 _ _ m3 q3)))
  have l57 : G7 p5 = some (.lst []) := b7 _ _ m5 (b6 _ _ m5 q5)
  have R0 : RowAt C_Row G9 r [r, p3, p5, p8] sz [] 0 0 := ⟨⟨dx, p3, p5, p8, [], rfl, q9, b9 _ _ m3 (x8 _ _ l37), Heads.nil _, b9 _ _ m5 (x8 _ _ l57), b9 _ _ m8 q8, ne_new n5 (b4 _ _ m3 q3), ne_new n8 l37, ne_new n8 l57⟩, (fun l h => nomatch h), s4, s64, by simp⟩
  have pf := parts_flat (show 0 < sz by omega) l
  have c1 : Bs [r] H G2 := x1.bst b2.bs
  have c2 : Bs [r] H G4 := (c1.ext x3).trans b4.bs
  have c3 : Bs [r] H G7 := ((c2.ext x5).trans b6.bs).trans b7.bs
  have c4 : Bs [r] H G9 := (c3.ext x8).trans b9.bs
  have back : ∀ {p : Addr} {G : Hp}, Bs [r] H G → p ≠ r → G p = none → H p = none := fun {p G} b n e => by
    cases q : H p with
    | none => rfl
    | some o => rw [b _ _ (fun z => n (List.mem_singleton.mp z)) q] at e; cases e
  have fr : ∀ x ∈ [r, p3, p5, p8], x ∈ [r] ∨ H x = none := by
    intro x hx
    simp only [List.mem_cons, List.not_mem_nil, or_false] at hx
    rcases hx with rfl | rfl | rfl | rfl
    · exact .inl (by simp)
    · exact .inr (back c1 m3 n3)
    · exact .inr (back c2 m5 n5)
    · exact .inr (back c3 m8 n8)
  refine call_Row_fill (n := 0) (m := 0) R0 hb (Nat.le_refl _) h0 (by simpa [pf] using h0) fun H10 R10 b10 => ?_
  simp only [List.take_nil, List.nil_append, List.drop_nil, List.append_nil] at R10
  (walk_at "a5ba7d5f5"; walk_at "abe2830cc"; walk_at "ad25b13d2"; walk_at "ad49e4b9c"; walk_at "afef05d44"; walk_at "afef05d44"; walk_at "a16f6b169"; walk_at "a51a77144"; walk_at "a28557e3a")
  rename_i H11 fp11 R11 b11 g11
  rw [pf] at R11
  have c5 : Bs [r] H H10 := b10.old c4 fr
  refine k _ _ R11 (c5.trans b11) fun x hx => ?_
  rcases g11 x hx with z | z
  · exact fr x z
  · by_cases e : x = r
    · exact .inl (by rw [e]; simp)
    · exact .inr (back c5 e z)
end
section
variable {P : Program} {w : World} {K : PySem.W.Frag} {mg : Str → Option Value} {base : Heap} {C_CountError C_NoCode C_NoBits C_NoPlace C_Row : Addr}
set_option maxHeartbeats 4000000 in
theorem ok_Row_heads {f : Addr} {fd : FuncData} {dV kV : Value} (g : G mg)
    (F : Txt K "heads" "Row.heads" (defArgs st_Row_heads) (defBody st_Row_heads) (defScope st_Row_heads) dV kV f fd)
    (fc_Row : FC_Row K C_Row) :
    FnG P w K mg base 1 f fd ["self"] (sp_Row_heads C_Row) := by
  refine z_fn F sc_Row_heads (fun vs H Q E h => by
    obtain ⟨r, fp, sz, bks, op, hn, rfl, R, k⟩ := h
    rfl) (fun cd A outer s H vs Q E hr ng h => ?_)
  obtain ⟨r, fp, sz, bks, op, hn, rfl, R, k⟩ := h
  have no_Row_head_rows := fc_Row.head_rows
  have cl_Row := fc_Row.cls
  refine ⟨_, [_], rfl, (pss_one (ps_ret (pe_callTy (k_listR (K := K) rfl) (by rfl) g.b_list bt_list (pa_cons (k_fld (K := K) (pv 0) rfl) pa_nil)))), ?_⟩
  obtain ⟨dx, a, b, c, ts, rfl, e1, e2, hd, e3, e4, n1, n2, n3⟩ := R.ex
  (walk_at "ac39ddb8c"; walk_at "a33f2f4b5"; walk_at "ae1f83bb8"; walk_at "aa641d4b3"; walk_at "ad25b13d2"; walk_at "a2bbc0fda"; walk_at "afef05d44"; walk_at "a54b21fd8"; walk_at "a8f7cfc14")
  rename_i p G1 n9 x9 h9
  exact k _ _ ts n9 x9 h9 (hd.keep fun t xs e => x9.at_ e)
end
section
variable {P : Program} {w : World} {K : PySem.W.Frag} {mg : Str → Option Value} {base : Heap} {C_CountError C_NoCode C_NoBits C_NoPlace C_Row : Addr}
set_option maxHeartbeats 4000000 in
theorem ok_Row_codes {f : Addr} {fd : FuncData} {dV kV : Value} (g : G mg)
    (F : Txt K "codes" "Row.codes" (defArgs st_Row_codes) (defBody st_Row_codes) (defScope st_Row_codes) dV kV f fd)
    (fc_Row : FC_Row K C_Row) :
    FnG P w K mg base 1 f fd ["self"] (sp_Row_codes C_Row) := by
  refine z_fn F sc_Row_codes (fun vs H Q E h => by
    obtain ⟨r, fp, sz, bks, op, hn, rfl, R, k⟩ := h
    rfl) (fun cd A outer s H vs Q E hr ng h => ?_)
  obtain ⟨r, fp, sz, bks, op, hn, rfl, R, k⟩ := h
  have no_Row_code_rows := fc_Row.code_rows
  have cl_Row := fc_Row.cls
  refine ⟨_, [_], rfl, (pss_one (ps_ret (pe_callTy (k_listR (K := K) rfl) (by rfl) g.b_list bt_list (pa_cons (k_fld (K := K) (pv 0) rfl) pa_nil)))), ?_⟩
  obtain ⟨dx, a, b, c, ts, rfl, e1, e2, hd, e3, e4, n1, n2, n3⟩ := R.ex
  (walk_at "ac39ddb8c"; walk_at "a33f2f4b5"; walk_at "ae1f83bb8"; walk_at "aa641d4b3"; walk_at "ad25b13d2"; walk_at "a2bbc0fda"; walk_at "afef05d44"; walk_at "a54b21fd8"; walk_at "a8f7cfc14")
  rename_i p G1 n9 x9 h9
  exact k _ _ n9 x9 h9
end
section
variable {P : Program} {w : World} {K : PySem.W.Frag} {mg : Str → Option Value} {base : Heap} {C_CountError C_NoCode C_NoBits C_NoPlace C_Row : Addr}
set_option maxHeartbeats 4000000 in
theorem ok_Row_room {f : Addr} {fd : FuncData} {dV kV : Value} (g : G mg)
    (F : Txt K "room" "Row.room" (defArgs st_Row_room) (defBody st_Row_room) (defScope st_Row_room) dV kV f fd)
    (fc_Row : FC_Row K C_Row)
    (D_figures_of : Def P w K mg base 1 "figures_of" [] (sp_figures_of)) :
    FnG P w K mg base 2 f fd ["self"] (sp_Row_room C_Row) := by
  refine z_fn F sc_Row_room (fun vs H Q E h => by
    obtain ⟨r, fp, sz, bks, op, hn, rfl, R, k⟩ := h
    rfl) (fun cd A outer s H vs Q E hr ng h => ?_)
  obtain ⟨r, fp, sz, bks, op, hn, rfl, R, k⟩ := h
  have no_Row_code_rows := fc_Row.code_rows
  have no_Row_size := fc_Row.size
  have cl_Row := fc_Row.cls
  refine ⟨_, [_, none], rfl, (pss_one (ps_ret (z_sumK (K := K) rfl (by rfl) g.b_sum (pa_cons (pe_lc (own := [("code", 1)]) (by rfl) sc_Row_room.nd (k_list (K := K) (k_fld (K := K) (pv 0) rfl)) (blkOk_by (own := [("code", 1)]) (N := nm_Row_room) (sc := defScope st_Row_room) (by decide +kernel)) (fun _ _ _ _ _ => (pg_name (i := 1) sc_Row_room.nd rfl (Or.inl rfl))) (fun _ _ _ _ _ => pts_nil) (fun _ _ _ _ _ => (pe_callB (k_len (K := K)) (by rfl) g.b_len bt_len (pa_cons (pv 1) pa_nil)))) pa_nil) (pk_cons (pe_op z_mul (pe_op z_mul pe_int (pe_callB (k_len (K := K)) (by rfl) g.b_len bt_len (pa_cons (pe_f D_figures_of (hr.mono (by decide)) ng (by rfl) (tkW (takes_ rfl rfl rfl rfl)) (pa_cons (k_fld (K := K) (pv 0) rfl) pa_nil)) pa_nil))) (pe_callB (k_len (K := K)) (by rfl) g.b_len bt_len (pa_cons (k_fld (K := K) (pv 0) rfl) pa_nil))) pk_nil)))), ?_⟩
  obtain ⟨dx, a, b, c, ts, hfp, e1, e2, hd, e3, e4, n1, n2, n3⟩ := R.ex
  have s64 := R.s64
  have s4 := R.s4
  have fw := R.few2
  have fg := figs64 (sz := sz) (by omega) s64
  have e0 : ((sz : Int)).toNat = sz := Int.toNat_natCast sz
  (walk_at "ac39ddb8c"; walk_at "a91805707"; walk_at "ae1f83bb8"; walk_at "a2eb9ad30"; walk_at "a27ff4d3c"; walk_at "aa641d4b3"; walk_at "ad25b13d2"; walk_at "a2bbc0fda"; walk_at "a4e297517")
  refine lcL (ys := bks.map fun l => V.int ((scode l).length : Nat)) (SqL.of (by walk_at "lk")) (by simp) (by rw [List.length_map]; omega) (fun _ => rfl) ?_ ?_
  · intro D i x H1 hD hx m
    rw [List.getElem?_map] at hx
    obtain ⟨l, hl, rfl⟩ := Option.map_eq_some_iff.mp hx
    obtain ⟨b0, b1, b2⟩ := R.ok l (List.mem_of_getElem? hl)
    have sl := scode_len l
    (walk_at "a33f2f4b5"; walk_at "ae1f83bb8"; walk_at "ad25b13d2"; walk_at "afef05d44"; walk_at "a6ebb81e6")
    refine lm_put hD m (Ex.refl _) ?_ (by rw [List.length_map]; omega)
    rw [List.getElem?_map, hl]
    rfl
  · intro D H1 hD ex hd1
    have em : (bks.map fun l => V.int ((scode l).length : Nat)) = (bks.map fun l => (((scode l).length : Nat) : Int)).map V.int := by rw [List.map_map]; rfl
    rw [em] at hd1
    (walk_at "afef05d44"; walk_at "ae1f83bb8"; walk_at "a2c441c41"; walk_at "a2c441c41"; walk_at "ad15d6c32"; walk_at "a33f2f4b5"; walk_at "ae1f83bb8"; walk_at "acdbb3963"; walk_at "ae1f83bb8"; walk_at "aa641d4b3"; walk_at "ad25b13d2"; walk_at "abfee9271"; walk_at "afef05d44"; walk_at "a0449213e"; walk_at "afef05d44")
    rw [e0]
    have pm : 3 * (figs sz).length * bks.length ≤ 21 * 1000 := Nat.mul_le_mul (by omega) fw
    have ep : (3 * ((figs sz).length : Int) * ((bks.map fun l => T (scode l)).length : Nat)) = ((3 * (figs sz).length * bks.length : Nat) : Int) := by
      rw [List.length_map, Int.natCast_mul, Int.natCast_mul]
      rfl
    (walk_at "a6ebb81e6"; walk_at "a7bf746b0"; walk_at "a33f2f4b5"; walk_at "ae1f83bb8"; walk_at "aa641d4b3"; walk_at "ad25b13d2"; walk_at "a2bbc0fda"; walk_at "afef05d44"; walk_at "a77f93157"; walk_at "a7bf746b0"; walk_at "afef05d44"; walk_at "a6b0b43bd"; walk_at "a8f7cfc14")
    rw [ep]
    skip
    have es : ((bks.map fun l => (((scode l).length : Nat) : Int)).sum) = (((bks.map fun l => (scode l).length).sum : Nat) : Int) := by
      rw [← sum_natcast, List.map_map]
      rfl
    rw [es, ← Int.natCast_add]
    exact k _ (by walk_at "ex")
end
section
variable {P : Program} {w : World} {K : PySem.W.Frag} {mg : Str → Option Value} {base : Heap} {C_CountError C_NoCode C_NoBits C_NoPlace C_Row : Addr}
set_option maxHeartbeats 4000000 in
theorem ok_law_whole {f : Addr} {fd : FuncData} {dV kV : Value} (g : G mg)
    (F : Txt K "_law_whole" "_law_whole" (defArgs st_law_whole) (defBody st_law_whole) (defScope st_law_whole) dV kV f fd) :
    FnG P w K mg base 1 f fd ["_law_thing"] (sp_law_whole) := by
  refine z_fn F sc_law_whole (fun vs H Q E h => by
    obtain ⟨i, rfl, k⟩ := h
    rfl) (fun cd A outer s H vs Q E hr ng h => ?_)
  obtain ⟨i, rfl, k⟩ := h
  refine ⟨_, [_], rfl, (pss_one (ps_ret (pe_and (pe_callB (k_isi (K := K)) (by rfl) g.b_isinstance bt_isinstance (pa_cons (pv 0) (pa_cons (pe_bltn (v := .ty "int") (by rfl) g.b_int bt_int rfl) pa_nil))) (pe_one (pe_not (pe_callB (k_isi (K := K)) (by rfl) g.b_isinstance bt_isinstance (pa_cons (pv 0) (pa_cons (pe_bltn (v := .ty "bool") (by rfl) g.b_bool bt_bool rfl) pa_nil)))))))), ?_⟩
  (walk_at "ac39ddb8c"; walk_at "a4c4c815b"; walk_at "a33f2f4b5"; walk_at "ae1f83bb8"; walk_at "ad25b13d2"; walk_at "ae1f83bb8"; walk_at "ad15d6c32"; walk_at "afef05d44"; walk_at "a6b70d538"; walk_at "a5012d8eb"; walk_at "a3ec61437"; walk_at "a33f2f4b5"; walk_at "ae1f83bb8"; walk_at "ad25b13d2"; walk_at "ae1f83bb8"; walk_at "ad15d6c32"; walk_at "afef05d44"; walk_at "a506fd48c"; walk_at "adffed13f"; walk_at "a8f7cfc14")
  exact k
end
section
variable {P : Program} {w : World} {K : PySem.W.Frag} {mg : Str → Option Value} {base : Heap} {C_CountError C_NoCode C_NoBits C_NoPlace C_Row : Addr}
set_option maxHeartbeats 4000000 in
theorem ok_law_head {f : Addr} {fd : FuncData} {dV kV : Value} (g : G mg)
    (F : Txt K "_law_head" "_law_head" (defArgs st_law_head) (defBody st_law_head) (defScope st_law_head) dV kV f fd) :
    FnG P w K mg base 1 f fd ["_law_row_text"] (sp_law_head) := by
  refine z_fn F sc_law_head (fun vs H Q E h => by
    obtain ⟨l, rfl, h0, h1, k⟩ := h
    rfl) (fun cd A outer s H vs Q E hr ng h => ?_)
  obtain ⟨l, rfl, h0, h1, k⟩ := h
  refine ⟨_, [_, none, none], rfl, (pss_cons (ps_set (i := 1) sc_law_head.nd rfl (Or.inl rfl) (pe_lst pa_nil))
      (pss_cons (ps_for (passes_of rfl) rfl (pi_range2 (by rfl) g.b_range (pa_cons pe_int (pa_cons (pe_op (k_add (K := K)) (pe_callB (k_len (K := K)) (by rfl) g.b_len bt_len (pa_cons (pv 0) pa_nil)) pe_int) pa_nil))) (pg_name (i := 2) sc_law_head.nd rfl (Or.inl rfl)) (pss_one (ps_expr (pe_bm PySem.F.plainAttrs_list PySem.F.slot_list_append PySem.F.type_list_append mt_append (pv 1) (pa_cons (pe_op z_sub (pe_op z_mul pe_int (z_count (pe_slice (k_sl (K := K)) (pv 0) po_none (po_some (pv 2))) (z_str lit_7))) (pv 2)) pa_nil)))))
      (pss_one (ps_ret (pe_tup (pa_cons (pe_callB (k_len (K := K)) (by rfl) g.b_len bt_len (pa_cons (pv 0) pa_nil)) (pa_cons (z_count (pv 0) (z_str lit_7)) (pa_cons (pe_callB (k_min1 (K := K) rfl) (by rfl) g.b_min bt_min (pa_cons (pv 1) pa_nil)) pa_nil)))))))), ?_⟩
  (walk_at "a85c4f338"; walk_at "afaa010ed"; walk_at "afef05d44"; walk_at "a22972083"; walk_at "a3d76496c"; walk_at "a1fccfa88"; walk_at "acc1d1fd7"; walk_at "ae1f83bb8"; walk_at "ad15d6c32"; walk_at "ae1f83bb8"; walk_at "a2c441c41"; walk_at "a33f2f4b5"; walk_at "ae1f83bb8"; walk_at "ad25b13d2"; walk_at "afef05d44"; walk_at "a6ebb81e6"; walk_at "ad15d6c32"; walk_at "a470d4ce9"; walk_at "afef05d44"; walk_at "a02aad737")
  rename_i p H1 hn he hp
  have en : (((l.length : Nat) : Int) + 1 - 1).toNat = l.length := by omega
  rw [en]
  refine forR (fun i σ H' => ∃ v : Option V, σ = [some (T l), some (.ref p), v] ∧ Ex H H' ∧ H' p = some (.lst (((deps l).take i).map V.int))) ⟨none, rfl, he, hp⟩ ?_ ?_
  · rintro i σ H2 hi ⟨v, rfl, ex, hp2⟩
    have ht := deps_take hi
    have hlen : ((deps l).take i).length ≤ 1000 := by rw [List.length_take, deps_len]; omega
    have hcut : cut l none (some (1 + (i : Int))) = l.take (i + 1) := by rw [cut_to _ _ (by omega)]; congr 1; omega
    (walk_at "a3d76496c"; walk_at "a5ba7d5f5"; walk_at "ad1b438b8"; walk_at "ad25b13d2"; walk_at "a39154dd1"; walk_at "ae1f83bb8"; walk_at "a2c441c41"; walk_at "a2c441c41"; walk_at "ad15d6c32"; walk_at "af6af6ffb"; walk_at "a1e0e6469"; walk_at "ad25b13d2"; walk_at "a67128e29"; walk_at "a0ebae3b6"; walk_at "ad25b13d2"; walk_at "a6a11b937"; walk_at "a55f8cc73"; walk_at "a90efc992"; walk_at "ad15d6c32"; walk_at "a31fe18c6"; walk_at "a7bf746b0"; walk_at "ad25b13d2"; walk_at "a8c4e17e3"; walk_at "afef05d44"; walk_at "a320e47f0"; walk_at "a28557e3a")
    rename_i H4 hp3 hb4
    refine ⟨_, rfl, hb4.ex ex hn, ?_⟩
    rw [hp3, ht, List.map_append, hcut]
    have : (2 : Int) * ((l.take (i + 1)).count 49 : Nat) - (1 + (i : Int)) = dep (l.take (i + 1)) := by unfold dep; rw [List.length_take]; omega
    rw [this]
    rfl
  · rintro σ H2 ⟨v, rfl, ex, hp2⟩
    rw [← deps_len, List.take_length] at hp2
    (walk_at "ac39ddb8c"; walk_at "ab6f4d09a"; walk_at "ae1f83bb8"; walk_at "a33f2f4b5"; walk_at "ae1f83bb8"; walk_at "ad25b13d2"; walk_at "afef05d44"; walk_at "a6ebb81e6"; walk_at "ae1f83bb8"; walk_at "af6af6ffb"; walk_at "ad25b13d2"; walk_at "a90efc992"; walk_at "ad15d6c32"; walk_at "a31fe18c6"; walk_at "ae1f83bb8"; walk_at "a33f2f4b5"; walk_at "ae1f83bb8"; walk_at "ad25b13d2"; walk_at "afef05d44")
    refine min1_ hp2 (by rw [deps_len]; exact h0) fun m hm1 hm2 => ?_
    (walk_at "afef05d44"; walk_at "a0139b3e0"; walk_at "a8f7cfc14")
    rename_i q H3 hn3 he3 hp3
    exact k _ _ m (ex.back hn3) (ex.trans he3) hp3 ⟨hm1, hm2⟩
end
section
variable {P : Program} {w : World} {K : PySem.W.Frag} {mg : Str → Option Value} {base : Heap} {C_CountError C_NoCode C_NoBits C_NoPlace C_Row : Addr}
set_option maxHeartbeats 4000000 in
theorem ok_law_number_code {f : Addr} {fd : FuncData} {dV kV : Value} (g : G mg)
    (F : Txt K "_law_number_code" "_law_number_code" (defArgs st_law_number_code) (defBody st_law_number_code) (defScope st_law_number_code) dV kV f fd) :
    FnG P w K mg base 1 f fd ["_law_number"] (sp_law_number_code) := by
  refine z_fn F sc_law_number_code (fun vs H Q E h => by
    obtain ⟨i, rfl, h1, h2, k⟩ := h
    rfl) (fun cd A outer s H vs Q E hr ng h => ?_)
  obtain ⟨i, rfl, h1, h2, k⟩ := h
  refine ⟨_, [_, none], rfl, (pss_cons (ps_set (i := 1) sc_law_number_code.nd rfl (Or.inl rfl) (z_str lit_3))
      (pss_cons (ps_while (passes_of rfl) (pt_cmpR z_gt (pv 0) pe_int (nomark _)) (pss_cons (ps_set (i := 1) sc_law_number_code.nd rfl (Or.inl rfl) (pe_op (k_add (K := K)) (pe_callTy z_strZ (by rfl) g.b_str bt_str (pa_cons (pe_op z_mod (pv 0) pe_int) pa_nil)) (pv 1)))
      (pss_one (ps_set (i := 0) sc_law_number_code.nd rfl (Or.inl rfl) (pe_op z_fdiv (pv 0) pe_int)))))
      (pss_one (ps_ret (pe_op (k_add (K := K)) (pe_op z_mul (z_str lit_4) (pe_op z_sub (pe_callB (k_len (K := K)) (by rfl) g.b_len bt_len (pa_cons (pv 1) pa_nil)) pe_int)) (pv 1)))))), ?_⟩
  (walk_at "a85c4f338"; walk_at "ad15d6c32"; walk_at "a3d76496c"; walk_at "a8253931e")
  refine seq_while (fun n σ H' => ∃ (t : List Nat), σ = [some (.int (n : Int)), some (T t)] ∧ figs i.toNat = figs n ++ t ∧ n < 1048576 ∧ Ex H H') i.toNat ⟨[], by rw [Int.toNat_of_nonneg (by omega)], by simp, by omega, Ex.refl H⟩ ?_
  rintro n σ H1 ⟨t, rfl, e, hn, ex⟩
  have hl : t.length ≤ 20 := by
    have := figs_len (k := 20) (n := i.toNat) (by omega)
    rw [e, List.length_append] at this
    omega
  (walk_at "a668f72f2"; walk_at "a2c441c41"; walk_at "ad25b13d2"; walk_at "ad15d6c32"; walk_at "a2251479c"; walk_at "a8a699a1b")
  refine zwh_d (fun hp => ?_) (fun hp => ?_)
  · have ha : intL ((n : Int) % 2) = [48 + n % 2] := by
      rcases Nat.mod_two_eq_zero_or_one n with z | z
      · have : ((n : Int) % 2) = 0 := by omega
        rw [this, z]; decide +kernel
      · have : ((n : Int) % 2) = 1 := by omega
        rw [this, z]; decide +kernel
    have hl2 : (intL ((n : Int) % 2)).length = 1 := by rw [ha]; rfl
    (walk_at "a85c4f338"; walk_at "a2c441c41"; walk_at "a33f2f4b5"; walk_at "ae1f83bb8"; walk_at "a2c441c41"; walk_at "ad25b13d2"; walk_at "ad15d6c32"; walk_at "a2b2fa54d"; walk_at "afef05d44"; walk_at "ad0a676ba"; walk_at "ad25b13d2"; walk_at "a4e0c8928"; walk_at "a3d76496c"; walk_at "a7f6d4dcc"; walk_at "a2c441c41"; walk_at "ad25b13d2"; walk_at "ad15d6c32"; walk_at "a9f846afb"; walk_at "a3d76496c"; walk_at "a28557e3a")
    refine less_ (n / 2) (by omega) ⟨[48 + n % 2] ++ t, by rw [ha]; rfl, ?_, by omega, ex⟩
    rw [e, figs_step (by omega : 0 < n), List.append_assoc]
  · have z : n = 0 := by omega
    subst z
    rw [figs_zero, List.nil_append] at e
    have hl := figs_len (k := 20) (n := i.toNat) (by omega)
    have hp := figs_pos (n := i.toNat) (by omega)
    subst e
    (walk_at "ac39ddb8c"; walk_at "a2c441c41"; walk_at "a2c441c41"; walk_at "ad15d6c32"; walk_at "a2c441c41"; walk_at "a33f2f4b5"; walk_at "ae1f83bb8"; walk_at "ad25b13d2"; walk_at "afef05d44"; walk_at "a6ebb81e6"; walk_at "ad15d6c32"; walk_at "a8c4e17e3"; walk_at "a1d30e24a"; walk_at "ad25b13d2"; walk_at "a4e0c8928"; walk_at "a8f7cfc14")
    have e2 : (((figs i.toNat).length : Nat) : Int) - 1 = (((figs i.toNat).length - 1 : Nat) : Int) := by omega
    rw [e2, Int.toNat_natCast]
    exact k _ ex
end
section
variable {P : Program} {w : World} {K : PySem.W.Frag} {mg : Str → Option Value} {base : Heap} {C_CountError C_NoCode C_NoBits C_NoPlace C_Row : Addr}
set_option maxHeartbeats 4000000 in
theorem ok_law_runs {f : Addr} {fd : FuncData} {dV kV : Value} (g : G mg)
    (F : Txt K "_law_runs" "_law_runs" (defArgs st_law_runs) (defBody st_law_runs) (defScope st_law_runs) dV kV f fd) :
    FnG P w K mg base 1 f fd ["_law_row_text"] (sp_law_runs) := by
  refine z_fn F sc_law_runs (fun vs H Q E h => by
    obtain ⟨l, rfl, h1, k⟩ := h
    rfl) (fun cd A outer s H vs Q E hr ng h => ?_)
  obtain ⟨l, rfl, h1, k⟩ := h
  refine ⟨_, [_, none, none, none], rfl, (pss_cons (ps_set (i := 1) sc_law_runs.nd rfl (Or.inl rfl) (pe_lst pa_nil))
      (pss_cons (ps_for (passes_of rfl) rfl (z_enumS (by rfl) g.b_enumerate (pa_cons (pv 0) pa_nil)) (k_tup (K := K) (n := 2) (by rfl) (pgs_cons (pg_name (i := 2) sc_law_runs.nd rfl (Or.inl rfl)) (pgs_cons (pg_name (i := 3) sc_law_runs.nd rfl (Or.inl rfl)) pgs_nil))) (pss_one (ps_if (PW.pt (pw_and (pt_cmpR z_gt (pv 2) pe_int (nomark _)) (pw_and1 (pt_cmpR (k_eq (K := K) hr.units) (pe_ix (k_ix (K := K)) (pv 0) (pe_op z_sub (pv 2) pe_int) (fun _ _ => rfl)) (pv 3) (nomark _))))) (pss_one (ps_asg (pe_op (k_add (K := K)) (pe_ix (k_ix (K := K)) (pv 1) (pe_un un_neg pe_int) (fun _ _ => rfl)) pe_int) (pg_sub (pv 1) (pe_un un_neg pe_int) set_list))) (pss_one (ps_expr (pe_bm PySem.F.plainAttrs_list PySem.F.slot_list_append PySem.F.type_list_append mt_append (pv 1) (pa_cons pe_int pa_nil)))))))
      (pss_one (ps_ret (pv 1))))), ?_⟩
  (walk_at "a85c4f338"; walk_at "afaa010ed"; walk_at "afef05d44"; walk_at "a22972083"; walk_at "a3d76496c"; walk_at "a1fccfa88"; walk_at "a5c94feb2"; walk_at "ae1f83bb8"; walk_at "ad25b13d2"; walk_at "afef05d44"; walk_at "a113e001c")
  rename_i p H1 hn he hp
  refine forEnT (fun i σ H' => ∃ v w : Option V, σ = [some (T l), some (.ref p), v, w] ∧ Ex H H' ∧ H' p = some (.lst ((rsAll (l.take i)).1.map fun n => V.int (n : Nat)))) ⟨none, none, rfl, he, hp⟩ ?_ ?_
  · rintro i c σ H2 H3 hc ⟨v, w, rfl, ex, hp2⟩ hx
    have hi : i < l.length := (List.getElem?_eq_some_iff.mp hc).1
    have hl := rsAll_len l i (by omega)
    have hpx : H3 p = _ := hx.at_ hp2
    have ex3 := ex.trans hx
    have hlast : 0 < i → ∃ d, atI l ((0 + (i : Int)) - 1) = some d ∧ (rsAll (l.take i)).2 = [d] := fun hi0 => by
      refine ⟨l[i - 1], ?_, ?_⟩
      · have : (0 + (i : Int)) - 1 = ((i - 1 : Nat) : Int) := by omega
        rw [this]
        exact atI_nat (List.getElem?_eq_getElem (by omega))
      · rw [rsAll_last, List.length_take, Nat.min_eq_left (by omega), List.drop_take]
        have e1 : i - (i - 1) = 1 := by omega
        rw [e1, List.drop_eq_getElem_cons (by omega)]
        rfl
    have app : ¬ [c] = (rsAll (l.take i)).2 → rsAll (l.take (i + 1)) = ((rsAll (l.take i)).1 ++ [1], [c]) := fun hq => by rw [rsAll_take hc]; unfold rs; rw [if_neg hq]
    (walk_at "a3d76496c"; walk_at "ae44f4543"; walk_at "a641c25ec"; walk_at "a668f72f2"; walk_at "a2c441c41"; walk_at "ad25b13d2"; walk_at "ad15d6c32"; walk_at "a2251479c"; walk_at "a8a699a1b")
    refine zand_d (fun hq => ?_) (fun hq => ?_)
    · obtain ⟨d, hd1, hd2⟩ := hlast (by omega)
      (walk_at "a668f72f2"; walk_at "a2c441c41"; walk_at "a2c441c41"; walk_at "ad25b13d2"; walk_at "a2c441c41"; walk_at "ad25b13d2"; walk_at "ad15d6c32"; walk_at "a8c4e17e3"; walk_at "a4657a1b3"; walk_at "ad25b13d2"; walk_at "ae5260597"; walk_at "a8a699a1b")
      refine zif_d (fun hq2 => ?_) (fun hq2 => ?_)
      · have hlen := hl.2 (by omega)
        have er : rsAll (l.take (i + 1)) = (bump (rsAll (l.take i)).1, [c]) := by rw [rsAll_take hc]; unfold rs; rw [if_pos (by rw [hd2]; exact hq2.symm)]
        generalize ea : rsAll (l.take i) = s at *
        have hat : atI (s.1.map fun n => V.int (n : Nat)) (-1) = some (V.int ((s.1.getD (s.1.length - 1) 0 : Nat) : Int)) := by
          unfold atI ixN
          simp only [List.length_map]
          rw [if_neg (by omega), if_pos (by omega)]
          have e : ((-1 : Int) + (s.1.length : Int)).toNat = s.1.length - 1 := by omega
          rw [e]
          show (s.1.map fun n => V.int (n : Nat))[s.1.length - 1]? = _
          rw [List.getElem?_map, List.getD_eq_getElem?_getD, List.getElem?_eq_getElem (by omega)]
          rfl
        have hix : ixN (s.1.map fun n => V.int (n : Nat)).length (-1) = some (s.1.length - 1) := by
          unfold ixN
          simp only [List.length_map]
          rw [if_neg (by omega), if_pos (by omega)]
          congr 1
          omega
        (walk_at "aee1b00cb"; walk_at "a2c441c41"; walk_at "a2c441c41"; walk_at "ad25b13d2"; walk_at "af5a97b89"; walk_at "ad15d6c32"; walk_at "a250d16b4"; walk_at "a5c5685b7"; walk_at "ad15d6c32"; walk_at "a470d4ce9"; walk_at "a114ee3de"; walk_at "ad25b13d2"; walk_at "af5a97b89"; walk_at "ad15d6c32"; walk_at "a250d16b4"; walk_at "a9857b6e3"; walk_at "a28557e3a")
        rename_i H4 hp3 hb
        refine ⟨_, _, rfl, But.ex hb ex3 hn, ?_⟩
        rw [hp3, er]
        unfold bump
        rw [List.map_set]
        rfl
      · (walk_at "a5ba7d5f5"; walk_at "ad1b438b8"; walk_at "ad25b13d2"; walk_at "a39154dd1"; walk_at "ae1f83bb8"; walk_at "ad15d6c32"; walk_at "afef05d44"; walk_at "a320e47f0"; walk_at "a28557e3a")
        rename_i H4 hp3 hb
        refine ⟨_, _, rfl, But.ex hb ex3 hn, ?_⟩
        rw [hp3, app (by rw [hd2]; exact fun z => hq2 z.symm), List.map_append]
        rfl
    · have hi0 : i = 0 := by omega
      subst hi0
      (walk_at "a7b130abd"; walk_at "a5ba7d5f5"; walk_at "ad1b438b8"; walk_at "ad25b13d2"; walk_at "a39154dd1"; walk_at "ae1f83bb8"; walk_at "ad15d6c32"; walk_at "afef05d44"; walk_at "a320e47f0"; walk_at "a28557e3a")
      rename_i H4 hp3 hb
      refine ⟨_, _, rfl, But.ex hb ex3 hn, ?_⟩
      rw [hp3, app (by simp [rsAll]), List.map_append]
      rfl
  · rintro σ H2 ⟨v, w, rfl, ex, hp2⟩
    (walk_at "ac39ddb8c"; walk_at "ad25b13d2"; walk_at "a8f7cfc14")
    rw [List.take_length] at hp2
    exact k _ _ hn ex hp2
end
section
variable {P : Program} {w : World} {K : PySem.W.Frag} {mg : Str → Option Value} {base : Heap} {C_CountError C_NoCode C_NoBits C_NoPlace C_Row : Addr}
set_option maxHeartbeats 4000000 in
theorem ok_law_codes {f : Addr} {fd : FuncData} {dV kV : Value} (g : G mg)
    (F : Txt K "_law_codes" "_law_codes" (defArgs st_law_codes) (defBody st_law_codes) (defScope st_law_codes) dV kV f fd)
    (D_law_number_code : Def P w K mg base 1 "_law_number_code" [] (sp_law_number_code))
    (D_law_runs : Def P w K mg base 1 "_law_runs" [] (sp_law_runs)) :
    FnG P w K mg base 2 f fd ["_law_row_text"] (sp_law_codes) := by
  refine z_fn F sc_law_codes (fun vs H Q E h => by
    obtain ⟨l, rfl, h0, h1, k⟩ := h
    rfl) (fun cd A outer s H vs Q E hr ng h => ?_)
  obtain ⟨l, rfl, h0, h1, k⟩ := h
  refine ⟨_, [_, none, none], rfl, (pss_cons (ps_setLc (i := 1) (own := [("_law_number", 2)]) rfl sc_law_codes.nd rfl rfl (sw_true rfl rfl rfl (by decide +kernel)) (k_list (K := K) (pe_f D_law_runs (hr.mono (by decide)) ng (by rfl) (tkW (takes_ rfl rfl rfl rfl)) (pa_cons (pv 0) pa_nil))) (blkOk_by (own := [("_law_number", 2)]) (N := nm_law_codes) (sc := defScope st_law_codes) (by decide +kernel)) (fun _ _ _ _ _ => (pg_name (i := 2) sc_law_codes.nd rfl (Or.inl rfl))) (fun _ _ _ _ _ => pts_nil) (fun _ _ _ _ _ => (pe_f D_law_number_code (hr.mono (by decide)) ng (by rfl) tk0 (pa_cons (pv 2) pa_nil))))
      (pss_one (ps_ret (pe_tup (pa_cons (pe_op (k_add (K := K)) (z_str lit_5) (pv 0)) (pa_cons (pe_op (k_add (K := K)) (pe_op (k_add (K := K)) (z_str lit_6) (pe_ix (k_ix (K := K)) (pv 0) pe_int (fun _ _ => rfl))) (k_join (K := K) (z_str lit_3) (pv 1))) pa_nil)))))), ?_⟩
  have hat : atI l 0 = some (l.getD 0 48) := by
    refine atI_nat (j := 0) ?_
    rw [List.getD_eq_getElem?_getD, List.getElem?_eq_getElem h0]
    rfl
  have hr := runs_len l
  have hz : ∀ n ∈ runs l, (ncode n).length ≤ 20 := fun n hn => ncode_len (k := 10) (by have := runs_le l n hn; omega)
  have hf := flat_len hz
  (walk_at "a85c4f338"; walk_at "a2eb9ad30"; walk_at "a27ff4d3c"; walk_at "acdbb3963"; walk_at "ae1f83bb8"; walk_at "ad25b13d2"; walk_at "afef05d44"; walk_at "a51176d3b"; walk_at "a4e297517")
  refine lcL (ys := (runs l).map fun n => T (ncode n)) (SqL.of (by assumption)) (by simp) (by simp; omega) (fun _ => rfl) ?_ ?_
  · intro D i x H1 hD hx m
    rw [List.getElem?_map] at hx
    obtain ⟨n, hn, rfl⟩ := Option.map_eq_some_iff.mp hx
    have hm : n ∈ runs l := List.mem_of_getElem? hn
    have h2 := runs_pos l n hm
    have h3 := runs_le l n hm
    (walk_at "acdbb3963"; walk_at "ae1f83bb8"; walk_at "ad25b13d2"; walk_at "afef05d44"; walk_at "a99b2fe25")
    refine lm_put hD m (by assumption) ?_ (by simp; omega)
    rw [List.getElem?_map, hn, Int.toNat_natCast]
    rfl
  · intro D H1 hD ex hd
    have e : ((runs l).map fun n => T (ncode n)) = ((runs l).map ncode).map T := by rw [List.map_map]; rfl
    rw [e] at hd
    (walk_at "a3d76496c"; walk_at "ac39ddb8c"; walk_at "ab6f4d09a"; walk_at "ae1f83bb8"; walk_at "a2c441c41"; walk_at "ad15d6c32"; walk_at "ad25b13d2"; walk_at "a4e0c8928"; walk_at "ae1f83bb8"; walk_at "a2c441c41"; walk_at "a2c441c41"; walk_at "ad15d6c32"; walk_at "a2c441c41"; walk_at "ad25b13d2"; walk_at "ad15d6c32"; walk_at "a4657a1b3"; walk_at "a4e0c8928"; walk_at "af6af6ffb"; walk_at "ad15d6c32"; walk_at "a90efc992"; walk_at "ad25b13d2")
    refine join_ hd (by rw [hf.2, List.length_nil]; omega) ?_
    rw [joinT_nil]
    (walk_at "a4e0c8928"; walk_at "afef05d44"; walk_at "a0139b3e0"; walk_at "a8f7cfc14")
    rename_i p1 H2 hn1 he1 hp1 p2 H3 hn2 he2 hp2
    exact k _ _ ((Ex.trans he1 ex).back hn2) (Ex.trans (Ex.trans he1 ex) he2) hp2
end
section
variable {P : Program} {w : World} {K : PySem.W.Frag} {mg : Str → Option Value} {base : Heap} {C_CountError C_NoCode C_NoBits C_NoPlace C_Row : Addr}
set_option maxHeartbeats 4000000 in
theorem ok_law_code {f : Addr} {fd : FuncData} {dV kV : Value} (g : G mg)
    (F : Txt K "_law_code" "_law_code" (defArgs st_law_code) (defBody st_law_code) (defScope st_law_code) dV kV f fd)
    (D_law_codes : Def P w K mg base 2 "_law_codes" [] (sp_law_codes)) :
    FnG P w K mg base 3 f fd ["_law_row_text"] (sp_law_code) := by
  refine z_fn F sc_law_code (fun vs H Q E h => by
    obtain ⟨l, rfl, h0, h1, k⟩ := h
    rfl) (fun cd A outer s H vs Q E hr ng h => ?_)
  obtain ⟨l, rfl, h0, h1, k⟩ := h
  refine ⟨_, [_, none, none], rfl, (pss_cons (ps_asg (pe_f D_law_codes (hr.mono (by decide)) ng (by rfl) (tkW (takes_ rfl rfl rfl rfl)) (pa_cons (pv 0) pa_nil)) (k_tup (K := K) (n := 2) (by rfl) (pgs_cons (pg_name (i := 1) sc_law_code.nd rfl (Or.inl rfl)) (pgs_cons (pg_name (i := 2) sc_law_code.nd rfl (Or.inl rfl)) pgs_nil))))
      (pss_one (ps_ret (pe_ix (k_ix (K := K)) (pe_lst (pa_cons (pv 2) (pa_cons (pv 1) pa_nil))) (pe_callTy z_int_of (by rfl) g.b_int bt_int (pa_cons (pe_cmpR z_le (pe_callB (k_len (K := K)) (by rfl) g.b_len bt_len (pa_cons (pv 1) pa_nil)) (pe_callB (k_len (K := K)) (by rfl) g.b_len bt_len (pa_cons (pv 2) pa_nil)) (nomark _)) pa_nil)) (fun _ _ => rfl))))), ?_⟩
  have hr := rcode_len h1
  by_cases hq : (112 :: l).length ≤ (rcode l).length
  · have e : scode l = 112 :: l := if_pos hq
    have hat : ∀ x y : V, atI [x, y] (if decide ((((112 :: l).length : Nat) : Int) ≤ (((rcode l).length : Nat) : Int)) = true then 1 else 0) = some y := by
      intro x y
      rw [decide_eq_true (by omega)]
      rfl
    rw [e] at k
    (walk_at "a43bf46d2"; walk_at "acdbb3963"; walk_at "ae1f83bb8"; walk_at "ad25b13d2"; walk_at "afef05d44"; walk_at "a79370720"; walk_at "afbecc87a"; walk_at "a54305b80"; walk_at "a3beb7cd4"; walk_at "a54305b80"; walk_at "a3beb7cd4"; walk_at "abc6e375f"; walk_at "a3d76496c"; walk_at "ac39ddb8c"; walk_at "a2c441c41"; walk_at "afaa010ed"; walk_at "ae1f83bb8"; walk_at "ad25b13d2"; walk_at "ae1f83bb8"; walk_at "ad25b13d2"; walk_at "afef05d44"; walk_at "a22972083"; walk_at "a33f2f4b5"; walk_at "ae1f83bb8"; walk_at "a2c441c41"; walk_at "a33f2f4b5"; walk_at "ae1f83bb8"; walk_at "ad25b13d2"; walk_at "afef05d44"; walk_at "a6ebb81e6"; walk_at "a33f2f4b5"; walk_at "ae1f83bb8"; walk_at "ad25b13d2"; walk_at "afef05d44"; walk_at "a6ebb81e6"; walk_at "af2623f90"; walk_at "afef05d44"; walk_at "a66292a6d")
    rename_i p H1 hn he hp q H2 hn2 he2 hp2
    refine ixL hp2 (hat _ _) ?_
    (walk_at "a8f7cfc14")
    exact k _ (he.trans he2)
  · have e : scode l = rcode l := if_neg hq
    have hat : ∀ x y : V, atI [x, y] (if decide ((((112 :: l).length : Nat) : Int) ≤ (((rcode l).length : Nat) : Int)) = true then 1 else 0) = some x := by
      intro x y
      rw [decide_eq_false (by omega)]
      rfl
    rw [e] at k
    (walk_at "a43bf46d2"; walk_at "acdbb3963"; walk_at "ae1f83bb8"; walk_at "ad25b13d2"; walk_at "afef05d44"; walk_at "a79370720"; walk_at "afbecc87a"; walk_at "a54305b80"; walk_at "a3beb7cd4"; walk_at "a54305b80"; walk_at "a3beb7cd4"; walk_at "abc6e375f"; walk_at "a3d76496c"; walk_at "ac39ddb8c"; walk_at "a2c441c41"; walk_at "afaa010ed"; walk_at "ae1f83bb8"; walk_at "ad25b13d2"; walk_at "ae1f83bb8"; walk_at "ad25b13d2"; walk_at "afef05d44"; walk_at "a22972083"; walk_at "a33f2f4b5"; walk_at "ae1f83bb8"; walk_at "a2c441c41"; walk_at "a33f2f4b5"; walk_at "ae1f83bb8"; walk_at "ad25b13d2"; walk_at "afef05d44"; walk_at "a6ebb81e6"; walk_at "a33f2f4b5"; walk_at "ae1f83bb8"; walk_at "ad25b13d2"; walk_at "afef05d44"; walk_at "a6ebb81e6"; walk_at "af2623f90"; walk_at "afef05d44"; walk_at "a66292a6d")
    rename_i p H1 hn he hp q H2 hn2 he2 hp2
    refine ixL hp2 (hat _ _) ?_
    (walk_at "a8f7cfc14")
    exact k _ (he.trans he2)
end
section
variable {P : Program} {w : World} {K : PySem.W.Frag} {mg : Str → Option Value} {base : Heap} {C_CountError C_NoCode C_NoBits C_NoPlace C_Row : Addr}
set_option maxHeartbeats 4000000 in
theorem ok_law_blocks_right {f : Addr} {fd : FuncData} {dV kV : Value} (g : G mg)
    (F : Txt K "_law_blocks_right" "_law_blocks_right" (defArgs st_law_blocks_right) (defBody st_law_blocks_right) (defScope st_law_blocks_right) dV kV f fd)
    (N_Row_room : MthK P w K mg base 2 C_Row "room" 1 [] (fun vs _ => vs) (sp_Row_room C_Row))
    (N_Row_codes : MthK P w K mg base 1 C_Row "codes" 1 [] (fun vs _ => vs) (sp_Row_codes C_Row))
    (N_Row_heads : MthK P w K mg base 1 C_Row "heads" 1 [] (fun vs _ => vs) (sp_Row_heads C_Row))
    (D_law_whole : Def P w K mg base 1 "_law_whole" [] (sp_law_whole))
    (D_law_head : Def P w K mg base 1 "_law_head" [] (sp_law_head))
    (D_law_code : Def P w K mg base 3 "_law_code" [] (sp_law_code))
    (D_law_number_code : Def P w K mg base 1 "_law_number_code" [] (sp_law_number_code)) :
    FnG P w K mg base 4 f fd ["_law_row", "_law_row_text", "_law_wide_here"] (sp_law_blocks_right C_Row) := by
  refine z_fn F sc_law_blocks_right (fun vs H Q E h => by
    obtain ⟨r, fp, sz, bks, op, hn, rfl, R, ti, k⟩ := h
    rfl) (fun cd A outer s H vs Q E hr ng h => ?_)
  obtain ⟨r, fp, sz, bks, op, hn, rfl, R, ti, k⟩ := h
  refine ⟨_, [_, _, _, none, none, none, none, none, none, none, none], rfl, (pss_cons (ps_par (i := 3) (j := 4) (by rfl) sc_law_blocks_right.nd rfl rfl (by decide) rfl rfl (pa_cons (pe_mk0 (pv 0) N_Row_heads (hr.mono (by decide)) ng (tkW (takes_ rfl rfl rfl rfl))) (pa_cons (pe_mk0 (pv 0) N_Row_codes (hr.mono (by decide)) ng (tkW (takes_ rfl rfl rfl rfl))) pa_nil)) (by rfl))
      (pss_cons (ps_if (PW.pt (pw_or (pt_not (pt_val (pe_callB (k_isi (K := K)) (by rfl) g.b_isinstance bt_isinstance (pa_cons (pv 3) (pa_cons (pe_bltn (v := .ty "list") (by rfl) g.b_list bt_list rfl) pa_nil))))) (pw_or (pt_not (pt_val (pe_callB (k_isi (K := K)) (by rfl) g.b_isinstance bt_isinstance (pa_cons (pv 4) (pa_cons (pe_bltn (v := .ty "list") (by rfl) g.b_list bt_list rfl) pa_nil))))) (pw_or1 (pt_cmpR (k_ne (K := K) hr.units) (pe_callB (k_len (K := K)) (by rfl) g.b_len bt_len (pa_cons (pv 3) pa_nil)) (pe_callB (k_len (K := K)) (by rfl) g.b_len bt_len (pa_cons (pv 4) pa_nil)) (nomark _)))))) (pss_one (ps_ret pe_bl)) pss_nil)
      (pss_cons (ps_par (i := 5) (j := 6) (by rfl) sc_law_blocks_right.nd rfl rfl (by decide) rfl rfl (pa_cons pe_int (pa_cons (pe_op z_mul (pe_op z_fdiv (pe_op z_mul pe_int (pe_op (k_add (K := K)) (pe_callB (k_len (K := K)) (by rfl) g.b_len bt_len (pa_cons (pe_f D_law_number_code (hr.mono (by decide)) ng (by rfl) (tkW (takes_ rfl rfl rfl rfl)) (pa_cons (pv 2) pa_nil)) pa_nil)) pe_int)) pe_int) (pe_callB (k_len (K := K)) (by rfl) g.b_len bt_len (pa_cons (pv 3) pa_nil))) pa_nil)) (by rfl))
      (pss_cons (ps_set (i := 7) sc_law_blocks_right.nd rfl (Or.inl rfl) (pv 2))
      (pss_cons (ps_for (passes_of rfl) rfl (k_zip (K := K) (by rfl) g.b_zip (pa_cons (pv 3) (pa_cons (pv 4) pa_nil))) (k_tup (K := K) (n := 2) (by rfl) (pgs_cons (pg_name (i := 8) sc_law_blocks_right.nd rfl (Or.inl rfl)) (pgs_cons (pg_name (i := 9) sc_law_blocks_right.nd rfl (Or.inl rfl)) pgs_nil))) (pss_cons (ps_if (PW.pt (pw_or (pt_not (pt_val (pe_callB (k_isi (K := K)) (by rfl) g.b_isinstance bt_isinstance (pa_cons (pv 8) (pa_cons (pe_bltn (v := .ty "tuple") (by rfl) g.b_tuple bt_tuple rfl) pa_nil))))) (pw_or (pt_cmpR (k_ne (K := K) hr.units) (pe_callB (k_len (K := K)) (by rfl) g.b_len bt_len (pa_cons (pv 8) pa_nil)) pe_int (nomark _)) (pw_or (pt_not (k_truth (K := K) (pe_f D_law_whole (hr.mono (by decide)) ng (by rfl) (tkW (takes_ rfl rfl rfl rfl)) (pa_cons (pe_ix (k_ix (K := K)) (pv 8) pe_int (fun _ _ => rfl)) pa_nil)) (by intro _; rfl))) (pw_or1 (pt_not (pt_chain z_le z_le pe_int (pe_ix (k_ix (K := K)) (pv 8) pe_int (fun _ _ => rfl)) (pv 2)))))))) (pss_one (ps_ret pe_bl)) pss_nil)
      (pss_cons (ps_set (i := 10) sc_law_blocks_right.nd rfl (Or.inl rfl) (pe_slice (k_sl (K := K)) (pv 1) (po_some (pv 5)) (po_some (pe_op (k_add (K := K)) (pv 5) (pe_ix (k_ix (K := K)) (pv 8) pe_int (fun _ _ => rfl))))))
      (pss_cons (ps_if (PW.pt (pw_or (pt_cmpR (k_ne (K := K) hr.units) (pe_callB (k_len (K := K)) (by rfl) g.b_len bt_len (pa_cons (pv 10) pa_nil)) (pe_ix (k_ix (K := K)) (pv 8) pe_int (fun _ _ => rfl)) (nomark _)) (pw_or (pt_cmpR (k_ne (K := K) hr.units) (pe_callB (k_repr (K := K) hr.units ng) (by rfl) g.b_repr bt_repr (pa_cons (pv 8) pa_nil)) (pe_callB (k_repr (K := K) hr.units ng) (by rfl) g.b_repr bt_repr (pa_cons (pe_f D_law_head (hr.mono (by decide)) ng (by rfl) (tkW (takes_ rfl rfl rfl rfl)) (pa_cons (pv 10) pa_nil)) pa_nil)) (nomark _)) (pw_or1 (pt_cmpR (k_ne (K := K) hr.units) (pe_callB (k_repr (K := K) hr.units ng) (by rfl) g.b_repr bt_repr (pa_cons (pv 9) pa_nil)) (pe_callB (k_repr (K := K) hr.units ng) (by rfl) g.b_repr bt_repr (pa_cons (pe_f D_law_code (hr.mono (by decide)) ng (by rfl) (tkW (takes_ rfl rfl rfl rfl)) (pa_cons (pv 10) pa_nil)) pa_nil)) (nomark _)))))) (pss_one (ps_ret pe_bl)) pss_nil)
      (pss_cons (ps_if (pt_cmpR z_le (pe_op (k_add (K := K)) (pv 7) (pe_ix (k_ix (K := K)) (pv 8) pe_int (fun _ _ => rfl))) (pv 2) (nomark _)) (pss_one (ps_ret pe_bl)) pss_nil)
      (pss_one (ps_par3 (i := 5) (j := 6) (l := 7) (by rfl) sc_law_blocks_right.nd rfl rfl rfl (by decide) (by decide) (by decide) rfl rfl rfl (pa_cons (pe_op (k_add (K := K)) (pv 5) (pe_ix (k_ix (K := K)) (pv 8) pe_int (fun _ _ => rfl))) (pa_cons (pe_op (k_add (K := K)) (pv 6) (pe_callB (k_len (K := K)) (by rfl) g.b_len bt_len (pa_cons (pv 9) pa_nil))) (pa_cons (pe_ix (k_ix (K := K)) (pv 8) pe_int (fun _ _ => rfl)) pa_nil))) (by rfl))))))))
      (pss_one (ps_ret (pe_and (pe_cmpR (k_eq (K := K) hr.units) (pv 5) (pe_callB (k_len (K := K)) (by rfl) g.b_len bt_len (pa_cons (pv 1) pa_nil)) (nomark _)) (pe_one (pe_cmpR (k_eq (K := K) hr.units) (pe_callB (k_repr (K := K) hr.units ng) (by rfl) g.b_repr bt_repr (pa_cons (pe_mk0 (pv 0) N_Row_room (hr.mono (by decide)) ng (tkW (takes_ rfl rfl rfl rfl))) pa_nil)) (pe_callB (k_repr (K := K) hr.units ng) (by rfl) g.b_repr bt_repr (pa_cons (pv 6) pa_nil)) (nomark _))))))))))), ?_⟩
  have fw := R.few
  have fw2 := R.few2
  have s64 := R.s64
  have s4 := R.s4
  have fg := figs64 (sz := sz) (by omega) s64
  have nl := ncode_len2 sz
  have fp0 := figs_pos (n := sz) (by omega)
  have e0 : ((sz : Int)).toNat = sz := Int.toNat_natCast sz
  (walk_at "a91c550d3"; walk_at "ae1f83bb8"; walk_at "abe2830cc"; walk_at "ad25b13d2"; walk_at "ad49e4b9c"; walk_at "afef05d44"; walk_at "afef05d44"; walk_at "a16f6b169"; walk_at "a67f98044"; walk_at "ae1f83bb8"; walk_at "abe2830cc"; walk_at "ad25b13d2"; walk_at "ad49e4b9c"; walk_at "afef05d44"; walk_at "afef05d44"; walk_at "a16f6b169"; walk_at "a360f8aad"; walk_at "afef05d44"; walk_at "a843fc401"; walk_at "a3d76496c"; walk_at "a4584bbba"; walk_at "a2c422e4c"; walk_at "a35e1d11b"; walk_at "a5ca36a29"; walk_at "a33f2f4b5"; walk_at "ae1f83bb8"; walk_at "ad25b13d2"; walk_at "ae1f83bb8"; walk_at "ad15d6c32"; walk_at "afef05d44"; walk_at "ac1dcd89c"; walk_at "a8a699a1b"; walk_at "ad25f38df"; walk_at "a2c422e4c"; walk_at "a35e1d11b"; walk_at "a5ca36a29"; walk_at "a33f2f4b5"; walk_at "ae1f83bb8"; walk_at "ad25b13d2"; walk_at "ae1f83bb8"; walk_at "ad15d6c32"; walk_at "afef05d44"; walk_at "ac1dcd89c"; walk_at "a8a699a1b"; walk_at "ad25f38df"; walk_at "a668f72f2"; walk_at "a2c441c41"; walk_at "a33f2f4b5"; walk_at "ae1f83bb8"; walk_at "ad25b13d2"; walk_at "afef05d44"; walk_at "a77f93157"; walk_at "a33f2f4b5"; walk_at "ae1f83bb8"; walk_at "ad25b13d2"; walk_at "afef05d44"; walk_at "a77f93157"; walk_at "a0631d19f"; walk_at "a8a699a1b")
  rename_i p H1 ts n1 x1 h1 hd p2 H2 n2 x2 h2
  rw [List.length_map, List.length_map, hd.len]
  (walk_at "a61eea2e0"; walk_at "a3cf0dcf0"; walk_at "a91c550d3"; walk_at "ae1f83bb8"; walk_at "ad15d6c32"; walk_at "ae1f83bb8"; walk_at "a2c441c41"; walk_at "a2c441c41"; walk_at "a2c441c41"; walk_at "ad15d6c32"; walk_at "a2c441c41"; walk_at "a33f2f4b5"; walk_at "ae1f83bb8"; walk_at "acdbb3963"; walk_at "ae1f83bb8"; walk_at "ad25b13d2"; walk_at "afef05d44"; walk_at "a99b2fe25"; walk_at "afef05d44")
  rename_i H3 x3
  rw [e0]
  (walk_at "a6ebb81e6"; walk_at "ad15d6c32"; walk_at "a470d4ce9"; walk_at "a7bf746b0"; walk_at "ad15d6c32"; walk_at "a9f846afb"; walk_at "a33f2f4b5"; walk_at "ae1f83bb8"; walk_at "ad25b13d2"; walk_at "afef05d44"; walk_at "a77f93157"; walk_at "a7bf746b0"; walk_at "afef05d44"; walk_at "a843fc401"; walk_at "a3d76496c"; walk_at "a85c4f338"; walk_at "ad25b13d2"; walk_at "a3d76496c"; walk_at "a1fccfa88"; walk_at "abbd69ac7"; walk_at "ae1f83bb8"; walk_at "ad25b13d2"; walk_at "ae1f83bb8"; walk_at "ad25b13d2"; walk_at "afef05d44"; walk_at "a7fe4a2b4")
  have edue : (3 * (((ncode sz).length : Int) + 1) / 2 * ((ts.map V.ref).length : Nat)) = ((3 * (figs sz).length * bks.length + ((bks.take 0).map fun l => (scode l).length).sum : Nat) : Int) := by
    have : (3 * (((ncode sz).length : Int) + 1) / 2) = ((3 * (figs sz).length : Nat) : Int) := by omega
    rw [this, List.length_map, hd.len]
    simp [Int.natCast_mul]
  rw [edue]
  refine forZip (xs := ts.map V.ref) (ys := bks.map fun l => T (scode l)) (fun i σ H' => ∃ (be : Nat) (v1 v2 v3 : Option V), σ = [some (.ref r), some (T bks.flatten), some (.int (sz : Nat)), some (.ref p), some (.ref p2), some (.int ((bks.take i).flatten.length : Nat)), some (.int ((3 * (figs sz).length * bks.length + ((bks.take i).map fun l => (scode l).length).sum : Nat) : Int)), some (.int (be : Nat)), v1, v2, v3] ∧ Ex H H' ∧ Ex H3 H' ∧ (∀ l, bks[i]? = some l → sz < be + l.length)) ⟨sz, none, none, none, rfl, by walk_at "ex", Ex.refl _, fun l hl => by have := (R.ok l (List.mem_of_getElem? hl)).2.1; omega⟩ (by rw [List.length_map, List.length_map, hd.len]) ?_ ?_ ?_
  · rintro i σ H4 _ ⟨be, v1, v2, v3, rfl, ex, ex3, hbe⟩
    exact ⟨SqL.of (by walk_at "lk"), SqL.of (by walk_at "lk")⟩
  · rintro i x y σ H4 H5 hx hy ⟨be, v1, v2, v3, rfl, ex, ex3, hbe⟩ e45
    rw [List.getElem?_map] at hx hy
    obtain ⟨t, ht, rfl⟩ := Option.map_eq_some_iff.mp hx
    obtain ⟨l, hl, rfl⟩ := Option.map_eq_some_iff.mp hy
    obtain ⟨mm, et, lm⟩ := hd.at_ i t l ht hl
    obtain ⟨b0, b1, b2⟩ := R.ok l (List.mem_of_getElem? hl)
    have hb2 := hbe l hl
    have ex5 : Ex H1 H5 := by walk_at "ex"
    have et5 := ex5.at_ et
    have hcut : cut bks.flatten (some ((bks.take i).flatten.length : Int)) (some (((bks.take i).flatten.length : Int) + (l.length : Int))) = l := by
      rw [cut_mid _ _ _ (by omega) (by omega), Int.toNat_natCast, flat_split hl, List.drop_left]
      rw [show (((bks.take i).flatten.length : Int) + (l.length : Int) - ((bks.take i).flatten.length : Int)).toNat = l.length by omega]
      rw [List.take_left]
    (walk_at "a54305b80"; walk_at "a3beb7cd4"; walk_at "a54305b80"; walk_at "a3beb7cd4"; walk_at "abc6e375f"; walk_at "a3d76496c"; walk_at "a4584bbba"; walk_at "a2c422e4c"; walk_at "a35e1d11b"; walk_at "a5ca36a29"; walk_at "a33f2f4b5"; walk_at "ae1f83bb8"; walk_at "ad25b13d2"; walk_at "ae1f83bb8"; walk_at "ad15d6c32"; walk_at "afef05d44"; walk_at "aa8f1afbe"; walk_at "a8a699a1b"; walk_at "ad25f38df"; walk_at "a2c422e4c"; walk_at "a668f72f2"; walk_at "a2c441c41"; walk_at "a33f2f4b5"; walk_at "ae1f83bb8"; walk_at "ad25b13d2"; walk_at "afef05d44"; walk_at "aa4098cfb"; walk_at "ad15d6c32"; walk_at "a0631d19f"; walk_at "a8a699a1b")
    try refine zor_n (fun q => absurd rfl q) fun _ => ?_
    (walk_at "a2c422e4c"; walk_at "a35e1d11b"; walk_at "a4d105e21"; walk_at "acdbb3963"; walk_at "ae1f83bb8"; walk_at "a2c441c41"; walk_at "ad25b13d2"; walk_at "ad15d6c32"; walk_at "a2cdecdaf"; walk_at "afef05d44"; walk_at "a1c248bac"; walk_at "aa4050c9e"; walk_at "ad25f38df"; walk_at "a35e1d11b"; walk_at "a668f72f2"; walk_at "aee0885fa"; walk_at "ad15d6c32"; walk_at "a2c441c41"; walk_at "ad25b13d2"; walk_at "ad15d6c32"; walk_at "a2cdecdaf"; walk_at "af2623f90"; walk_at "ac807d586"; walk_at "ad25b13d2"; walk_at "af2623f90"; walk_at "a8a699a1b"; walk_at "a61eea2e0"; walk_at "a3cf0dcf0"; walk_at "a85c4f338"; walk_at "a1e0e6469"; walk_at "ad25b13d2"; walk_at "a0ebae3b6"; walk_at "ad25b13d2"; walk_at "a6a11b937"; walk_at "a0ebae3b6"; walk_at "a2c441c41"; walk_at "ad25b13d2"; walk_at "a2c441c41"; walk_at "ad25b13d2"; walk_at "ad15d6c32"; walk_at "a2cdecdaf"; walk_at "a470d4ce9"; walk_at "a6a11b937"; walk_at "a55f8cc73"; walk_at "a3d76496c"; walk_at "a4584bbba"; walk_at "a2c422e4c"; walk_at "a668f72f2"; walk_at "a2c441c41"; walk_at "a33f2f4b5"; walk_at "ae1f83bb8"; walk_at "ad25b13d2"; walk_at "afef05d44")
    rw [hcut]
    (walk_at "a6ebb81e6"; walk_at "a2c441c41"; walk_at "ad25b13d2"; walk_at "ad15d6c32"; walk_at "a2cdecdaf"; walk_at "a0631d19f"; walk_at "a8a699a1b")
    try refine zor_n (fun q => absurd rfl q) fun _ => ?_
    have hm2 := lm.bd
    have hc2 : l.count 49 ≤ l.length := List.count_le_length
    have rp : ∀ m2 : Int, -(l.length : Int) ≤ m2 ∧ m2 ≤ l.length → Rp (headD l m2) ([PyData.int (l.length : Nat), .int (l.count 49 : Nat), .int m2].length * (25 + 2) + 4) (1 + 1) := fun m2 hm =>
      .tup (RpAll.mem (.cons (.int (by omega) (by omega)) (Nat.le_refl _) (Nat.le_refl _) (.cons (.int (by omega) (by omega)) (Nat.le_refl _) (Nat.le_refl _) (.cons (.int (by omega) (by omega)) (Nat.le_refl _) (Nat.le_refl _) .nil))))
    (walk_at "a2c422e4c"; walk_at "a668f72f2"; walk_at "a2c441c41"; walk_at "a33f2f4b5"; walk_at "ae1f83bb8"; walk_at "ad25b13d2"; walk_at "afef05d44")
    refine repr_ (d := headD l mm) (by unfold headD; walk_at "dp") (.more (rp _ hm2) (Nat.le_refl _) (by decide)) (by simp) ?_
    (walk_at "a33f2f4b5"; walk_at "ae1f83bb8"; walk_at "acdbb3963"; walk_at "ae1f83bb8"; walk_at "ad25b13d2"; walk_at "afef05d44"; walk_at "a7db866f9"; walk_at "afef05d44")
    rename_i p5 H6 m2 n6 x6 h6 lm2
    obtain rfl := lm2.eq lm
    refine repr_ (d := headD l m2) (by unfold headD; walk_at "dp") (.more (rp _ hm2) (Nat.le_refl _) (by decide)) (by simp) ?_
    (walk_at "a485ea804"; walk_at "a8a699a1b"; walk_at "a018c9fb9"; walk_at "a668f72f2"; walk_at "a2c441c41"; walk_at "a33f2f4b5"; walk_at "ae1f83bb8"; walk_at "ad25b13d2"; walk_at "afef05d44")
    try refine zor_n (fun q => absurd rfl q) fun _ => ?_
    have rpt : Rp (Dt (scode l)) (10 * (scode l).length + 2) 1 := .str (scode_lt b0)
    have scl := scode_len l
    skip
    refine repr_ (d := Dt (scode l)) (by walk_at "dp") (.more rpt (Nat.le_refl _) (by decide)) (by omega) ?_
    (walk_at "a33f2f4b5"; walk_at "ae1f83bb8"; walk_at "acdbb3963"; walk_at "ae1f83bb8"; walk_at "ad25b13d2"; walk_at "afef05d44"; walk_at "a2be3a988"; walk_at "afef05d44")
    refine repr_ (d := Dt (scode l)) (by walk_at "dp") (.more rpt (Nat.le_refl _) (by decide)) (by omega) ?_
    (walk_at "a485ea804"; walk_at "a8a699a1b"; walk_at "a7b130abd"; walk_at "a3cf0dcf0"; walk_at "a4584bbba"; walk_at "a668f72f2"; walk_at "a2c441c41"; walk_at "a2c441c41"; walk_at "ad25b13d2"; walk_at "a2c441c41"; walk_at "ad25b13d2"; walk_at "ad15d6c32"; walk_at "a2cdecdaf"; walk_at "a470d4ce9"; walk_at "ad25b13d2"; walk_at "af2623f90"; walk_at "a8a699a1b"; walk_at "a1fcbcf3e"; walk_at "a3cf0dcf0"; walk_at "ae44a36cf"; walk_at "ae1f83bb8"; walk_at "a2c441c41"; walk_at "ad25b13d2"; walk_at "a2c441c41"; walk_at "ad25b13d2"; walk_at "ad15d6c32"; walk_at "a2cdecdaf"; walk_at "a470d4ce9"; walk_at "ae1f83bb8"; walk_at "a2c441c41"; walk_at "ad25b13d2"; walk_at "a33f2f4b5"; walk_at "ae1f83bb8"; walk_at "ad25b13d2"; walk_at "afef05d44"; walk_at "a6ebb81e6"; walk_at "a470d4ce9"; walk_at "ae1f83bb8"; walk_at "a2c441c41"; walk_at "ad25b13d2"; walk_at "ad15d6c32"; walk_at "a2cdecdaf"; walk_at "afef05d44"; walk_at "a75238d54"; walk_at "a3d76496c"; walk_at "a28557e3a")
    have etk : bks.take (i + 1) = bks.take i ++ [l] := by rw [List.take_succ, hl]; rfl
    have et1 : (((bks.take (i + 1)).flatten.length : Nat) : Int) = ((bks.take i).flatten.length : Nat) + (l.length : Nat) := by
      rw [take_flat_succ hl, List.length_append, Int.natCast_add]
    have et2 : ((3 * (figs sz).length * bks.length + ((bks.take (i + 1)).map fun l => (scode l).length).sum : Nat) : Int) = ((3 * (figs sz).length * bks.length + ((bks.take i).map fun l => (scode l).length).sum : Nat) : Int) + ((scode l).length : Nat) := by
      rw [etk, List.map_append, List.sum_append, List.map_singleton, List.sum_singleton]
      omega
    rw [et1, et2]
    exact ⟨l.length, _, _, _, rfl, by walk_at "ex", by clear ex ex5; walk_at "ex", fun l' hl' => ti i l l' hl hl'⟩
  · rintro σ H4 ⟨be, v1, v2, v3, rfl, ex, ex3, hbe⟩
    rw [List.length_map, hd.len, List.take_length]
    (walk_at "ac39ddb8c"; walk_at "a4c4c815b"; walk_at "a2c441c41"; walk_at "ad25b13d2"; walk_at "a33f2f4b5"; walk_at "ae1f83bb8"; walk_at "ad25b13d2"; walk_at "afef05d44"; walk_at "a6ebb81e6"; walk_at "a20677623"; walk_at "a5012d8eb"; walk_at "a2c441c41"; walk_at "a33f2f4b5"; walk_at "ae1f83bb8"; walk_at "abe2830cc"; walk_at "ad25b13d2"; walk_at "ad49e4b9c"; walk_at "afef05d44"; walk_at "afef05d44"; walk_at "a16f6b169"; walk_at "a287a4903"; walk_at "afef05d44")
    have rsum := room_sum bks
    have hroom : roomN sz bks < 1000000 := by
      unfold roomN
      have pm : 3 * (figs sz).length * bks.length ≤ 21 * 1000 := Nat.mul_le_mul (by omega) fw2
      omega
    have rpr : Rp (.int (roomN sz bks : Nat)) 25 1 := .int (by omega) (by omega)
    refine repr_ (d := .int (roomN sz bks : Nat)) (Dp.int _) (.more rpr (Nat.le_refl _) (by decide)) (by omega) ?_
    (walk_at "a33f2f4b5"; walk_at "ae1f83bb8"; walk_at "ad25b13d2"; walk_at "afef05d44")
    rw [show 3 * (figs sz).length * bks.length + (bks.map fun l => (scode l).length).sum = roomN sz bks from rfl]
    refine repr_ (d := .int (roomN sz bks : Nat)) (Dp.int _) (.more rpr (Nat.le_refl _) (by decide)) (by omega) ?_
    (walk_at "a603f4d20"; walk_at "a8f7cfc14")
    exact k _ (by walk_at "ex")
end
section
variable {P : Program} {w : World} {K : PySem.W.Frag} {mg : Str → Option Value} {base : Heap} {C_CountError C_NoCode C_NoBits C_NoPlace C_Row : Addr}
set_option maxHeartbeats 4000000 in
theorem ok_Row_len {f : Addr} {fd : FuncData} {dV kV : Value} (g : G mg)
    (F : Txt K "__len__" "Row.__len__" (defArgs st_Row_len) (defBody st_Row_len) (defScope st_Row_len) dV kV f fd)
    (fc_Row : FC_Row K C_Row) :
    FnG P w K mg base 1 f fd ["self"] (sp_Row_len C_Row) := by
  refine z_fn F sc_Row_len (fun vs H Q E h => by
    obtain ⟨r, fp, sz, bks, op, hn, rfl, R, k⟩ := h
    rfl) (fun cd A outer s H vs Q E hr ng h => ?_)
  obtain ⟨r, fp, sz, bks, op, hn, rfl, R, k⟩ := h
  have no_Row_held_signs := fc_Row.held_signs
  have cl_Row := fc_Row.cls
  refine ⟨_, [_], rfl, (pss_one (ps_ret (pe_callB (k_len (K := K)) (by rfl) g.b_len bt_len (pa_cons (k_fld (K := K) (pv 0) rfl) pa_nil)))), ?_⟩
  obtain ⟨dx, a, b, c, ts, rfl, e1, e2, hd, e3, e4, n1, n2, n3⟩ := R.ex
  (walk_at "ac39ddb8c"; walk_at "a33f2f4b5"; walk_at "ae1f83bb8"; walk_at "aa641d4b3"; walk_at "ad25b13d2"; walk_at "a2bbc0fda"; walk_at "afef05d44"; walk_at "a77f93157"; walk_at "a8f7cfc14")
  rw [List.length_replicate]
  exact k
end
section
variable {P : Program} {w : World} {K : PySem.W.Frag} {mg : Str → Option Value} {base : Heap} {C_CountError C_NoCode C_NoBits C_NoPlace C_Row : Addr}
set_option maxHeartbeats 4000000 in
theorem ok_NoCode_init {f : Addr} {fd : FuncData} {dV kV : Value} (g : G mg)
    (F : Txt K "__init__" "NoCode.__init__" (defArgs st_NoCode_init) (defBody st_NoCode_init) (defScope st_NoCode_init) dV kV f fd)
    (TE : ErrC K C_NoCode "ValueError.__new__" "ValueError.__init__")
    (no_f : PySem.W.findIn K (.ref C_NoCode) "at" = some none)
    (gl_CountError : mg "CountError" = some (.ref C_CountError))
    (rd_CountError : PySem.W.readsIn K C_CountError (.type "type") = true)
    (ga_CountError : PySem.W.specialIn K (.ref C_CountError) "__getattribute__" = some (some (.builtin "type.__getattribute__")))
    (vV_CountError : PySem.W.findCls K (.ref C_CountError) (.type "type") "__init__" = some (.val (.builtin "ValueError.__init__"))) :
    FnG P w K mg base 1 f fd ["self", "at"] (spErr C_NoCode "at") := by
  refine z_fn F sc_NoCode_init (fun vs H Q E h => by
    obtain ⟨a, v, rfl, ha, k⟩ := h
    rfl) (fun cd A outer s H vs Q E hr ng h => ?_)
  obtain ⟨a, v, rfl, ha, k⟩ := h
  refine ⟨_, [_, _], rfl, (pss_cons (ps_expr (pe_cinit (newId := "ValueError.__new__") (initId := "ValueError.__init__") (by rfl) gl_CountError rd_CountError ga_CountError vV_CountError (pa_cons (pv 0) (pa_cons (z_str lit_0) pa_nil)) (by decide +kernel)))
      (pss_one (ps_errS (newId := "ValueError.__new__") (initId := "ValueError.__init__") (pv 0) (pv 1)))), ?_⟩
  (walk_at "a29d25caa"; walk_at "a1994a4b5"; walk_at "ae1f83bb8"; walk_at "ad25b13d2"; walk_at "ae1f83bb8"; walk_at "ad15d6c32"; walk_at "afef05d44"; walk_at "a0205dc8a"; walk_at "a02880656"; walk_at "ad25b13d2"; walk_at "ad25b13d2"; walk_at "ac74702f2"; walk_at "a28557e3a")
  rename_i dx nd ne
  exact k _ nd ne
end
section
variable {P : Program} {w : World} {K : PySem.W.Frag} {mg : Str → Option Value} {base : Heap} {C_CountError C_NoCode C_NoBits C_NoPlace C_Row : Addr}
set_option maxHeartbeats 4000000 in
theorem ok_read_plain {f : Addr} {fd : FuncData} {dV kV : Value} (g : G mg)
    (F : Txt K "read_plain" "read_plain" (defArgs st_read_plain) (defBody st_read_plain) (defScope st_read_plain) dV kV f fd)
    (X_NoCode : MkErr P w K mg base 1 "NoCode" C_NoCode "at") :
    FnG P w K mg base 3 f fd ["text"] (sp_read_plain) := by
  refine z_fn F sc_read_plain (fun vs H Q E h => by
    obtain ⟨l, rfl, hb, h0, h1, k⟩ := h
    rfl) (fun cd A outer s H vs Q E hr ng h => ?_)
  obtain ⟨l, rfl, hb, h0, h1, k⟩ := h
  obtain ⟨_, c_BITS⟩ := g.c_BITS
  obtain ⟨_, c_MOST_BITS_codes⟩ := g.c_MOST_BITS_codes
  refine ⟨_, [_, none, none], rfl, (pss_cons (ps_for (passes_of rfl) rfl (z_enumKS (by rfl) g.b_enumerate (pa_cons (pe_slice (k_sl (K := K)) (pv 0) (po_some pe_int) po_none) pa_nil) (pk_cons pe_int pk_nil)) (k_tup (K := K) (n := 2) (by rfl) (pgs_cons (pg_name (i := 1) sc_read_plain.nd rfl (Or.inl rfl)) (pgs_cons (pg_name (i := 2) sc_read_plain.nd rfl (Or.inl rfl)) pgs_nil))) (pss_one (ps_if (PW.pt (pw_or (pt_cmpR (k_ni (K := K)) (pv 2) (pe_glob (v := T [48, 49]) (by rfl) c_BITS ⟨_, rfl⟩) rfl) (pw_or1 (pt_cmpR z_gt (pv 1) (pe_glob (v := .int 64) (by rfl) c_MOST_BITS_codes ⟨_, rfl⟩) (nomark _))))) (pss_one (ps_raiseE rfl (takes_ rfl rfl rfl rfl) X_NoCode (hr.mono (by decide)) ng (by rfl) (pa_cons (pv 1) pa_nil))) pss_nil)))
      (pss_cons (ps_if (pt_cmpR (k_eq (K := K) hr.units) (pe_callB (k_len (K := K)) (by rfl) g.b_len bt_len (pa_cons (pv 0) pa_nil)) pe_int (nomark _)) (pss_one (ps_raiseE rfl (takes_ rfl rfl rfl rfl) X_NoCode (hr.mono (by decide)) ng (by rfl) (pa_cons pe_int pa_nil))) pss_nil)
      (pss_one (ps_ret (pe_slice (k_sl (K := K)) (pv 0) (po_some pe_int) po_none))))), ?_⟩
  have ecut : cut (112 :: l) (some 1) none = l := by rw [cut_from _ _ (by omega)]; rfl
  (walk_at "a1fccfa88"; walk_at "a33ef3711"; walk_at "ae1f83bb8"; walk_at "a1e0e6469"; walk_at "ad25b13d2"; walk_at "a0ebae3b6"; walk_at "ad15d6c32"; walk_at "a6a11b937"; walk_at "a67128e29"; walk_at "a55f8cc73"; walk_at "afef05d44"; walk_at "ae1f83bb8"; walk_at "ad15d6c32"; walk_at "afef05d44"; walk_at "a26bb9237")
  rw [ecut]
  refine forEnT (fun i σ H' => ∃ v w : Option V, σ = [some (T (112 :: l)), v, w] ∧ Ex H H') ⟨none, none, rfl, Ex.refl H⟩ ?_ ?_
  · rintro i c σ H2 H3 hc ⟨v, w, rfl, ex⟩ hx
    have hi : i < l.length := (List.getElem?_eq_some_iff.mp hc).1
    have hbit : c ∈ [48, 49] := by
      rcases hb c (List.mem_of_getElem? hc) with rfl | rfl
      · simp
      · simp
    (walk_at "a3d76496c"; walk_at "ae44f4543"; walk_at "a2c422e4c"; walk_at "a668f72f2"; walk_at "a2c441c41"; walk_at "ad25b13d2"; walk_at "ad15d6c32"; walk_at "a9fc98b3a"; walk_at "a8a699a1b")
    refine zor_n (fun hq => absurd hbit hq) fun _ => ?_
    (walk_at "a668f72f2"; walk_at "a2c441c41"; walk_at "ad25b13d2"; walk_at "ad15d6c32"; walk_at "a2251479c"; walk_at "a8a699a1b"; walk_at "a1fcbcf3e"; walk_at "a3cf0dcf0"; walk_at "a28557e3a")
    exact ⟨_, _, rfl, ex.trans hx⟩
  · rintro σ H2 ⟨v, w, rfl, ex⟩
    (walk_at "a4584bbba"; walk_at "a668f72f2"; walk_at "a2c441c41"; walk_at "a33f2f4b5"; walk_at "ae1f83bb8"; walk_at "ad25b13d2"; walk_at "afef05d44"; walk_at "a6ebb81e6"; walk_at "ad15d6c32"; walk_at "ab84a1bc3"; walk_at "a8a699a1b"; walk_at "a1fcbcf3e"; walk_at "a3cf0dcf0"; walk_at "ac39ddb8c"; walk_at "a1e0e6469"; walk_at "ad25b13d2"; walk_at "a0ebae3b6"; walk_at "ad15d6c32"; walk_at "a6a11b937"; walk_at "a67128e29"; walk_at "a55f8cc73"; walk_at "a8f7cfc14")
    rw [ecut]
    exact k _ ex
end
section
variable {P : Program} {w : World} {K : PySem.W.Frag} {mg : Str → Option Value} {base : Heap} {C_CountError C_NoCode C_NoBits C_NoPlace C_Row : Addr}
set_option maxHeartbeats 4000000 in
theorem ok_read_number {f : Addr} {fd : FuncData} {dV kV : Value} (g : G mg)
    (F : Txt K "read_number" "read_number" (defArgs st_read_number) (defBody st_read_number) (defScope st_read_number) dV kV f fd)
    (X_NoCode : MkErr P w K mg base 1 "NoCode" C_NoCode "at") :
    FnG P w K mg base 3 f fd ["text", "at", "room"] (sp_read_number) := by
  refine z_fn F sc_read_number (fun vs H Q E h => by
    obtain ⟨t, a, r, n, i, room, rfl, ht, rfl, hl, hn, hr1, hr2, k⟩ := h
    rfl) (fun cd A outer s H vs Q E hr ng h => ?_)
  obtain ⟨t, a, r, n, i, room, rfl, ht, rfl, hl, hn, hr1, hr2, k⟩ := h
  obtain ⟨_, c_BITS⟩ := g.c_BITS
  refine ⟨_, [_, _, _, none, none, none], rfl, (pss_cons (ps_set (i := 3) sc_read_number.nd rfl (Or.inl rfl) pe_int)
      (pss_cons (ps_while (passes_of rfl) (PW.pt (pw_and (pt_cmpR (k_eq (K := K) hr.units) (pe_slice (k_sl (K := K)) (pv 0) (po_some (pv 1)) (po_some (pe_op (k_add (K := K)) (pv 1) pe_int))) (z_str lit_4) (nomark _)) (pw_and1 (pt_cmpR z_le (pe_op z_mul pe_int (pv 3)) (pv 2) (nomark _))))) (pss_cons (ps_aug (i := 3) sc_read_number.nd rfl (Or.inl rfl) pe_int z_imul)
      (pss_one (ps_aug (i := 1) sc_read_number.nd rfl (Or.inl rfl) pe_int z_iadd))))
      (pss_cons (ps_if (PW.pt (pw_or (pt_cmpR (k_ne (K := K) hr.units) (pe_slice (k_sl (K := K)) (pv 0) (po_some (pv 1)) (po_some (pe_op (k_add (K := K)) (pv 1) pe_int))) (z_str lit_7) (nomark _)) (pw_or1 (pt_cmpR z_gt (pv 3) (pv 2) (nomark _))))) (pss_one (ps_raiseE rfl (takes_ rfl rfl rfl rfl) X_NoCode (hr.mono (by decide)) ng (by rfl) (pa_cons (pv 1) pa_nil))) pss_nil)
      (pss_cons (ps_set (i := 4) sc_read_number.nd rfl (Or.inl rfl) pe_int)
      (pss_cons (ps_while (passes_of rfl) (pt_cmpR z_gt (pv 3) pe_int (nomark _)) (pss_cons (ps_set (i := 5) sc_read_number.nd rfl (Or.inl rfl) (pe_slice (k_sl (K := K)) (pv 0) (po_some (pv 1)) (po_some (pe_op (k_add (K := K)) (pv 1) pe_int))))
      (pss_cons (ps_if (PW.pt (pw_or (pt_cmpR (k_eq (K := K) hr.units) (pv 5) (z_str lit_3) (nomark _)) (pw_or1 (pt_cmpR (k_ni (K := K)) (pv 5) (pe_glob (v := T [48, 49]) (by rfl) c_BITS ⟨_, rfl⟩) rfl)))) (pss_one (ps_raiseE rfl (takes_ rfl rfl rfl rfl) X_NoCode (hr.mono (by decide)) ng (by rfl) (pa_cons (pv 1) pa_nil))) pss_nil)
      (pss_cons (ps_set (i := 4) sc_read_number.nd rfl (Or.inl rfl) (pe_op (k_add (K := K)) (pe_op z_mul pe_int (pv 4)) (pe_callTy z_int_of (by rfl) g.b_int bt_int (pa_cons (pv 5) pa_nil))))
      (pss_cons (ps_if (pt_cmpR z_gt (pe_op z_mul (pv 4) (pv 3)) (pv 2) (nomark _)) (pss_one (ps_raiseE rfl (takes_ rfl rfl rfl rfl) X_NoCode (hr.mono (by decide)) ng (by rfl) (pa_cons (pv 1) pa_nil))) pss_nil)
      (pss_cons (ps_aug (i := 3) sc_read_number.nd rfl (Or.inl rfl) pe_int z_ifdiv)
      (pss_one (ps_aug (i := 1) sc_read_number.nd rfl (Or.inl rfl) pe_int z_iadd))))))))
      (pss_one (ps_ret (pe_tup (pa_cons (pv 4) (pa_cons (pv 1) pa_nil)))))))))), ?_⟩
  have hb := figs_bound (Nat.lt_succ_self n) hn
  have hp := figs_pos hn
  obtain ⟨L, hL⟩ : ∃ L, L = (figs n).length := ⟨_, rfl⟩
  rw [← hL] at hb hp
  have hlen := ncode_len2 n
  rw [← hL] at hlen
  have htl : t.length = a.length + (L - 1 + L + r.length) := by rw [ht, List.length_append, List.length_append, hlen]
  have hfig : ∀ k, k < L → t[a.length + (L - 1 + k)]? = some (48 + n / 2 ^ (L - 1 - k) % 2) := fun k hk => by rw [ht, hL]; exact nc_fig (hL ▸ hk)
  have hnou : ∀ j, j < L - 1 → t[a.length + j]? = some 48 := fun j hj => by rw [ht]; exact nc_nought (hL ▸ hj)
  have hone : n / 2 ^ (L - 1 - 0) % 2 = 1 := by
    have e2 : 2 ^ L = 2 * 2 ^ (L - 1) := by rw [← Nat.pow_succ']; congr 1; omega
    have h1 : n / 2 ^ (L - 1) = 1 := by
      apply Nat.div_eq_of_lt_le
      · omega
      · omega
    rw [Nat.sub_zero, h1]
  (walk_at "a85c4f338"; walk_at "ad15d6c32"; walk_at "a3d76496c"; walk_at "a8253931e")
  refine seq_while (fun m σ H' => ∃ j p : Nat, σ = [some (T t), some (.int ((a.length + j : Nat) : Int)), some (.int room), some (.int (p : Int)), none, none] ∧ p = 2 ^ j ∧ j + m = L - 1 ∧ Ex H H') (L - 1) ⟨0, 1, rfl, rfl, by omega, Ex.refl H⟩ ?_
  rintro m σ H1 ⟨j, p, rfl, hpj, hj, ex⟩
  have p1 : p ≤ n := by
    have : 2 ^ j ≤ 2 ^ (L - 1) := Nat.pow_le_pow_right (by omega) (by omega)
    omega
  by_cases hm : m = 0
  · subst hm
    have ej : j = L - 1 := by omega
    have hc := cut_one (hfig 0 hp)
    rw [hone, Nat.add_zero, ← ej] at hc
    (walk_at "a641c25ec"; walk_at "a668f72f2"; walk_at "a2c441c41"; walk_at "a1e0e6469"; walk_at "ad25b13d2"; walk_at "a0ebae3b6"; walk_at "ad25b13d2"; walk_at "a6a11b937"; walk_at "a0ebae3b6"; walk_at "a2c441c41"; walk_at "ad25b13d2"; walk_at "ad15d6c32"; walk_at "a470d4ce9"; walk_at "a6a11b937"; walk_at "a55f8cc73"; walk_at "ad15d6c32"; walk_at "ae5260597"; walk_at "a8a699a1b")
    rw [hc]
    skip
    refine zand_d (fun q => absurd q (by decide)) fun _ => ?_
    refine zwh_b (fun q => nomatch q) fun _ => ?_
    have hpl : p = 2 ^ (L - 1) := by rw [hpj, ej]
    subst ej
    (walk_at "a4584bbba"; walk_at "a2c422e4c"; walk_at "a668f72f2"; walk_at "a2c441c41"; walk_at "a1e0e6469"; walk_at "ad25b13d2"; walk_at "a0ebae3b6"; walk_at "ad25b13d2"; walk_at "a6a11b937"; walk_at "a0ebae3b6"; walk_at "a2c441c41"; walk_at "ad25b13d2"; walk_at "ad15d6c32"; walk_at "a470d4ce9"; walk_at "a6a11b937"; walk_at "a55f8cc73"; walk_at "ad15d6c32"; walk_at "a5e4d02d8"; walk_at "a8a699a1b")
    rw [hc]
    skip
    refine zor_n (fun q => absurd rfl q) fun _ => ?_
    (walk_at "a668f72f2"; walk_at "a2c441c41"; walk_at "ad25b13d2"; walk_at "ad25b13d2"; walk_at "a2251479c"; walk_at "a8a699a1b"; walk_at "a1fcbcf3e"; walk_at "a3cf0dcf0"; walk_at "a85c4f338"; walk_at "ad15d6c32"; walk_at "a3d76496c"; walk_at "a8253931e")
    refine seq_while (fun m σ H' => ∃ (i q : Nat) (v : Option V), σ = [some (T t), some (.int ((a.length + (L - 1 + i) : Nat) : Int)), some (.int room), some (.int (q : Int)), some (.int ((n / 2 ^ (L - i) : Nat) : Int)), v] ∧ q = 2 ^ (L - i) / 2 ∧ i + m = L ∧ Ex H H') L ⟨0, p, none, ?_, ?_, by omega, ex⟩ ?_
    · rw [Nat.sub_zero, Nat.div_eq_of_lt hb.2]; rfl
    · have e2 : 2 ^ L = 2 * 2 ^ (L - 1) := by rw [← Nat.pow_succ']; congr 1; omega
      rw [hpl, Nat.sub_zero]; omega
    rintro m σ H2 ⟨i, q, v, rfl, hq, hi, ex2⟩
    have q1 : q ≤ n := by
      have h1 : 2 ^ (L - i) ≤ 2 ^ L := Nat.pow_le_pow_right (by omega) (by omega)
      have e2 : 2 ^ L = 2 * 2 ^ (L - 1) := by rw [← Nat.pow_succ']; congr 1; omega
      omega
    by_cases hm : m = 0
    · subst hm
      have hiL : i = L := by omega
      subst hiL
      rw [Nat.sub_self] at hq ⊢
      have hq0 : q = 0 := by rw [hq]
      subst hq0
      (walk_at "a668f72f2"; walk_at "a2c441c41"; walk_at "ad25b13d2"; walk_at "ad15d6c32"; walk_at "a2251479c"; walk_at "a8a699a1b")
      refine zwh_d (fun z => absurd z (by omega)) fun _ => ?_
      (walk_at "ac39ddb8c"; walk_at "ab6f4d09a"; walk_at "ae1f83bb8"; walk_at "ad25b13d2"; walk_at "ae1f83bb8"; walk_at "ad25b13d2"; walk_at "afef05d44"; walk_at "a0139b3e0"; walk_at "a8f7cfc14")
      rename_i p9 H9 n9 x9 h9
      refine k _ _ (ex2.back n9) (ex2.trans x9) ?_
      rw [h9, Nat.pow_zero, Nat.div_one, List.length_append, hlen]
    · have hiL : i < L := by omega
      have e1 : L - i = (L - 1 - i) + 1 := by omega
      have hc2 := cut_one (hfig i hiL)
      have hq2 : q = 2 ^ (L - 1 - i) := by rw [hq, e1, Nat.pow_succ', Nat.mul_div_cancel_left _ (by omega)]
      have hq0 : 0 < q := by rw [hq2]; exact Nat.pow_pos (by omega)
      have hdv : n / 2 ^ (L - i) = n / q / 2 := by rw [hq2, e1, Nat.pow_succ, Nat.div_div_eq_div_mul]
      rw [← hq2] at hc2
      rw [hdv]
      obtain ⟨d, hd⟩ : ∃ d, d = n / q := ⟨_, rfl⟩
      have hdq : d * q ≤ n := by rw [hd]; exact Nat.div_mul_le_self n q
      rw [← hd] at hc2 ⊢
      have hbit : 48 + d % 2 = 48 ∨ 48 + d % 2 = 49 := by omega
      have hmem : 48 + d % 2 ∈ [48, 49] := by
        rcases hbit with z | z
        · rw [z]; simp
        · rw [z]; simp
      have ev : 2 * ((d / 2 : Nat) : Int) + (((48 + d % 2 : Nat) : Int) - 48) = ((d : Nat) : Int) := by omega
      (walk_at "a668f72f2"; walk_at "a2c441c41"; walk_at "ad25b13d2"; walk_at "ad15d6c32"; walk_at "a2251479c"; walk_at "a8a699a1b")
      refine zwh_d (fun _ => ?_) fun z => absurd (by omega) z
      (walk_at "a85c4f338"; walk_at "a1e0e6469"; walk_at "ad25b13d2"; walk_at "a0ebae3b6"; walk_at "ad25b13d2"; walk_at "a6a11b937"; walk_at "a0ebae3b6"; walk_at "a2c441c41"; walk_at "ad25b13d2"; walk_at "ad15d6c32"; walk_at "a470d4ce9"; walk_at "a6a11b937"; walk_at "a55f8cc73"; walk_at "a3d76496c"; walk_at "a4584bbba"; walk_at "a2c422e4c"; walk_at "a668f72f2"; walk_at "a2c441c41"; walk_at "ad25b13d2"; walk_at "ad15d6c32"; walk_at "ae5260597"; walk_at "a8a699a1b")
      rw [hc2]
      skip
      refine zor_d (fun z => nomatch z) fun _ => ?_
      (walk_at "a668f72f2"; walk_at "a2c441c41"; walk_at "ad25b13d2"; walk_at "ad15d6c32"; walk_at "a9fc98b3a"; walk_at "a8a699a1b"; walk_at "a61eea2e0"; walk_at "a3cf0dcf0"; walk_at "a85c4f338"; walk_at "a2c441c41"; walk_at "a2c441c41"; walk_at "ad15d6c32"; walk_at "ad25b13d2"; walk_at "a7bf746b0"; walk_at "a33f2f4b5"; walk_at "ae1f83bb8"; walk_at "ad25b13d2"; walk_at "afef05d44"; walk_at "a59380daa"; walk_at "a470d4ce9"; walk_at "a3d76496c"; walk_at "a4584bbba"; walk_at "a668f72f2"; walk_at "a2c441c41"; walk_at "a2c441c41"; walk_at "ad25b13d2"; walk_at "ad25b13d2"; walk_at "a7bf746b0"; walk_at "ad25b13d2"; walk_at "a2251479c"; walk_at "a8a699a1b")
      rw [ev]
      refine zif_df ?_ ?_
      · have : ((d * q : Nat) : Int) = (d : Int) * (q : Int) := Int.natCast_mul _ _
        omega
      (walk_at "a3cf0dcf0"; walk_at "a1fdb1a90"; walk_at "ad15d6c32"; walk_at "a503841f1"; walk_at "a3d76496c"; walk_at "a2b221546"; walk_at "ad15d6c32"; walk_at "a66a76921"; walk_at "a3d76496c"; walk_at "a28557e3a")
      refine less_ (m - 1) (by omega) ⟨i + 1, q / 2, some (T [48 + d % 2]), ?_, ?_, by omega, ex2⟩
      · have e5 : L - (i + 1) = L - 1 - i := by omega
        rw [e5, ← hq2, ← hd]
        rfl
      · have e5 : L - (i + 1) = L - 1 - i := by omega
        rw [e5, ← hq2]
  · have hc := cut_one (hnou j (by omega))
    have p2 : 2 * p ≤ n := by
      have h1 : 2 ^ (j + 1) ≤ 2 ^ (L - 1) := Nat.pow_le_pow_right (by omega) (by omega)
      rw [Nat.pow_succ'] at h1
      omega
    (walk_at "a641c25ec"; walk_at "a668f72f2"; walk_at "a2c441c41"; walk_at "a1e0e6469"; walk_at "ad25b13d2"; walk_at "a0ebae3b6"; walk_at "ad25b13d2"; walk_at "a6a11b937"; walk_at "a0ebae3b6"; walk_at "a2c441c41"; walk_at "ad25b13d2"; walk_at "ad15d6c32"; walk_at "a470d4ce9"; walk_at "a6a11b937"; walk_at "a55f8cc73"; walk_at "ad15d6c32"; walk_at "ae5260597"; walk_at "a8a699a1b")
    rw [hc]
    skip
    refine zand_d (fun _ => ?_) (fun q => absurd rfl q)
    (walk_at "a668f72f2"; walk_at "a2c441c41"; walk_at "a2c441c41"; walk_at "ad15d6c32"; walk_at "ad25b13d2"; walk_at "a7bf746b0"; walk_at "ad25b13d2"; walk_at "af2623f90"; walk_at "a8a699a1b")
    refine zwh_d (fun _ => ?_) (fun q => absurd (by omega) q)
    (walk_at "a1fdb1a90"; walk_at "ad15d6c32"; walk_at "a70b9c554"; walk_at "a3d76496c"; walk_at "a2b221546"; walk_at "ad15d6c32"; walk_at "a66a76921"; walk_at "a3d76496c"; walk_at "a28557e3a")
    refine less_ (m - 1) (by omega) ⟨j + 1, p * 2, ?_, by rw [hpj, Nat.pow_succ], by omega, ex⟩
    rfl
end
section
variable {P : Program} {w : World} {K : PySem.W.Frag} {mg : Str → Option Value} {base : Heap} {C_CountError C_NoCode C_NoBits C_NoPlace C_Row : Addr}
set_option maxHeartbeats 4000000 in
theorem ok_other_bit {f : Addr} {fd : FuncData} {dV kV : Value} (g : G mg)
    (F : Txt K "other_bit" "other_bit" (defArgs st_other_bit) (defBody st_other_bit) (defScope st_other_bit) dV kV f fd) :
    FnG P w K mg base 1 f fd ["bit"] (sp_other_bit) := by
  refine z_fn F sc_other_bit (fun vs H Q E h => by
    obtain ⟨c, rfl, hb, k⟩ := h
    rfl) (fun cd A outer s H vs Q E hr ng h => ?_)
  obtain ⟨c, rfl, hb, k⟩ := h
  refine ⟨_, [_], rfl, (pss_one (ps_ret (pe_ifExp (pt_cmpR (k_eq (K := K) hr.units) (pv 0) (z_str lit_4) (nomark _)) (z_str lit_7) (z_str lit_4)))), ?_⟩
  (walk_at "ac39ddb8c"; walk_at "a3f49daff"; walk_at "a668f72f2"; walk_at "a2c441c41"; walk_at "ad25b13d2"; walk_at "ad15d6c32"; walk_at "ae5260597"; walk_at "a8a699a1b")
  refine zife_d (fun hq => ?_) (fun hq => ?_)
  · have hq2 : c = 48 := by simpa using hq
    subst hq2
    (walk_at "ad15d6c32"; walk_at "a8f7cfc14")
    exact k
  · have hq2 : c = 49 := by
      rcases hb with z | z
      · subst z; exact absurd rfl hq
      · exact z
    subst hq2
    (walk_at "ad15d6c32"; walk_at "a8f7cfc14")
    exact k
end
section
variable {P : Program} {w : World} {K : PySem.W.Frag} {mg : Str → Option Value} {base : Heap} {C_CountError C_NoCode C_NoBits C_NoPlace C_Row : Addr}
set_option maxHeartbeats 4000000 in
theorem ok_read_runs {f : Addr} {fd : FuncData} {dV kV : Value} (g : G mg)
    (F : Txt K "read_runs" "read_runs" (defArgs st_read_runs) (defBody st_read_runs) (defScope st_read_runs) dV kV f fd)
    (X_NoCode : MkErr P w K mg base 1 "NoCode" C_NoCode "at")
    (D_read_number : Def P w K mg base 3 "read_number" [] (sp_read_number))
    (D_other_bit : Def P w K mg base 1 "other_bit" [] (sp_other_bit)) :
    FnG P w K mg base 4 f fd ["text"] (sp_read_runs) := by
  refine z_fn F sc_read_runs (fun vs H Q E h => by
    obtain ⟨l, rfl, hb, h0, h1, k⟩ := h
    rfl) (fun cd A outer s H vs Q E hr ng h => ?_)
  obtain ⟨l, rfl, hb, h0, h1, k⟩ := h
  obtain ⟨_, c_BITS⟩ := g.c_BITS
  obtain ⟨_, c_MOST_BITS_codes⟩ := g.c_MOST_BITS_codes
  refine ⟨_, [_, none, none, none, none], rfl, (pss_cons (ps_set (i := 1) sc_read_runs.nd rfl (Or.inl rfl) (pe_slice (k_sl (K := K)) (pv 0) (po_some pe_int) (po_some pe_int)))
      (pss_cons (ps_if (PW.pt (pw_or (pt_cmpR (k_eq (K := K) hr.units) (pv 1) (z_str lit_3) (nomark _)) (pw_or1 (pt_cmpR (k_ni (K := K)) (pv 1) (pe_glob (v := T [48, 49]) (by rfl) c_BITS ⟨_, rfl⟩) rfl)))) (pss_one (ps_raiseE rfl (takes_ rfl rfl rfl rfl) X_NoCode (hr.mono (by decide)) ng (by rfl) (pa_cons pe_int pa_nil))) pss_nil)
      (pss_cons (ps_set (i := 2) sc_read_runs.nd rfl (Or.inl rfl) (z_str lit_3))
      (pss_cons (ps_set (i := 3) sc_read_runs.nd rfl (Or.inl rfl) pe_int)
      (pss_cons (ps_while (passes_of rfl) (PW.pt (pw_or (pt_cmpR (k_eq (K := K) hr.units) (pv 2) (z_str lit_3) (nomark _)) (pw_or1 (pt_cmpR z_lt (pv 3) (pe_callB (k_len (K := K)) (by rfl) g.b_len bt_len (pa_cons (pv 0) pa_nil)) (nomark _))))) (pss_cons (ps_asg (pe_f D_read_number (hr.mono (by decide)) ng (by rfl) (tkW (takes_ rfl rfl rfl rfl)) (pa_cons (pv 0) (pa_cons (pv 3) (pa_cons (pe_op z_sub (pe_glob (v := .int 64) (by rfl) c_MOST_BITS_codes ⟨_, rfl⟩) (pe_callB (k_len (K := K)) (by rfl) g.b_len bt_len (pa_cons (pv 2) pa_nil))) pa_nil)))) (k_tup (K := K) (n := 2) (by rfl) (pgs_cons (pg_name (i := 4) sc_read_runs.nd rfl (Or.inl rfl)) (pgs_cons (pg_name (i := 3) sc_read_runs.nd rfl (Or.inl rfl)) pgs_nil))))
      (pss_cons (ps_aug (i := 2) sc_read_runs.nd rfl (Or.inl rfl) (pe_op z_mul (pv 1) (pv 4)) z_iadd)
      (pss_one (ps_set (i := 1) sc_read_runs.nd rfl (Or.inl rfl) (pe_f D_other_bit (hr.mono (by decide)) ng (by rfl) (tkW (takes_ rfl rfl rfl rfl)) (pa_cons (pv 1) pa_nil)))))))
      (pss_one (ps_ret (pv 2)))))))), ?_⟩
  have hlen := rcode_len (l := l) (by omega)
  obtain ⟨b, eb⟩ : ∃ b, b = l.getD 0 48 := ⟨_, rfl⟩
  have hbit : Bit b := by
    rw [eb, List.getD_eq_getElem?_getD, List.getElem?_eq_getElem h0]
    exact hb _ (List.getElem_mem _)
  have htell := tell_runs hb h0
  rw [← eb] at htell
  have hpos := runs_pos l
  have hsum := runs_sum l
  obtain ⟨R, eR⟩ : ∃ R, R = runs l := ⟨_, rfl⟩
  rw [← eR] at htell hpos hsum
  obtain ⟨t, et⟩ : ∃ t, t = rcode l := ⟨_, rfl⟩
  have et2 : t = [114, b] ++ (R.map ncode).flatten := by rw [et, eR, eb]; rfl
  rw [← et] at hlen ⊢
  have hcut : cut t (some 1) (some 2) = [b] := by
    have : t[1]? = some b := by rw [et2]; rfl
    exact cut_one (i := 1) this
  have hmem : b ∈ [48, 49] := by
    rcases hbit with z | z
    · rw [z]; simp
    · rw [z]; simp
  (walk_at "a85c4f338"; walk_at "a1e0e6469"; walk_at "ad25b13d2"; walk_at "a0ebae3b6"; walk_at "ad15d6c32"; walk_at "a6a11b937"; walk_at "a0ebae3b6"; walk_at "ad15d6c32"; walk_at "a6a11b937"; walk_at "a55f8cc73"; walk_at "a3d76496c"; walk_at "a4584bbba"; walk_at "a2c422e4c"; walk_at "a668f72f2"; walk_at "a2c441c41"; walk_at "ad25b13d2"; walk_at "ad15d6c32"; walk_at "ae5260597"; walk_at "a8a699a1b")
  rw [hcut]
  skip
  refine zor_d (fun z => nomatch z) fun _ => ?_
  (walk_at "a668f72f2"; walk_at "a2c441c41"; walk_at "ad25b13d2"; walk_at "ad15d6c32"; walk_at "a9fc98b3a"; walk_at "a8a699a1b"; walk_at "a61eea2e0"; walk_at "a3cf0dcf0"; walk_at "a85c4f338"; walk_at "ad15d6c32"; walk_at "a3d76496c"; walk_at "a85c4f338"; walk_at "ad15d6c32"; walk_at "a3d76496c"; walk_at "a8253931e")
  refine seq_while (fun m σ H' => ∃ (j : Nat) (v : Option V), σ = [some (T t), some (T [turn b j]), some (T (tell b (R.take j))), some (.int (([114, b] ++ ((R.take j).map ncode).flatten).length : Nat)), v] ∧ j + m = R.length ∧ Ex H H') R.length ⟨0, none, rfl, by omega, Ex.refl H⟩ ?_
  rintro m σ H1 ⟨j, v, rfl, hj, ex⟩
  by_cases hm : m = 0
  · have ej : j = R.length := by omega
    have e1 : R.take j = R := by rw [ej, List.take_length]
    rw [e1, htell, ← et2]
    (walk_at "a2c422e4c"; walk_at "a668f72f2"; walk_at "a2c441c41"; walk_at "ad25b13d2"; walk_at "ad15d6c32"; walk_at "ae5260597"; walk_at "a8a699a1b")
    refine zor_d (fun z => absurd z (List.ne_nil_of_length_pos h0)) fun _ => ?_
    (walk_at "a668f72f2"; walk_at "a2c441c41"; walk_at "ad25b13d2"; walk_at "a33f2f4b5"; walk_at "ae1f83bb8"; walk_at "ad25b13d2"; walk_at "afef05d44"; walk_at "a6ebb81e6"; walk_at "a3d0fbaf8"; walk_at "a8a699a1b")
    refine zwh_d (fun z => absurd z (by omega)) fun _ => ?_
    (walk_at "ac39ddb8c"; walk_at "ad25b13d2"; walk_at "a8f7cfc14")
    exact k _ ex
  · have hj2 : j < R.length := by omega
    have hRj : R[j]? = some R[j] := List.getElem?_eq_getElem hj2
    have hn1 := hpos _ (List.getElem_mem hj2)
    obtain ⟨n, hn⟩ : ∃ n, n = R[j] := ⟨_, rfl⟩
    rw [← hn] at hRj hn1
    have htk : R.take (j + 1) = R.take j ++ [n] := by rw [List.take_succ, hRj]; rfl
    have etl : tell b (R.take (j + 1)) = tell b (R.take j) ++ List.replicate n (turn b j) := by
      rw [htk, tell_app, List.length_take, Nat.min_eq_left (by omega)]
    have hsp : R = R.take j ++ (n :: R.drop (j + 1)) := by
      conv => lhs; rw [← List.take_append_drop j R]
      rw [List.drop_eq_getElem_cons hj2, ← hn]
    have hs2 : (R.take j).sum + n ≤ 64 := by
      have := congrArg List.sum hsp
      rw [List.sum_append, List.sum_cons] at this
      omega
    have hfl : (tell b (R.take j)).length = (R.take j).sum := tell_len _ _
    have et3 : t = ([114, b] ++ ((R.take j).map ncode).flatten) ++ (ncode n ++ ((R.drop (j + 1)).map ncode).flatten) := by
      rw [et2]
      conv => lhs; rw [hsp]
      rw [List.map_append, List.map_cons, List.flatten_append, List.flatten_cons, List.append_assoc]
    have hnl : 0 < (ncode n).length := by rw [ncode_len2]; have := figs_pos hn1; omega
    have hat : ([114, b] ++ ((R.take j).map ncode).flatten).length < t.length := by
      have h := congrArg List.length et3
      simp only [List.length_append] at h ⊢
      omega
    have eal : (([114, b] ++ ((R.take j).map ncode).flatten) ++ ncode n) = [114, b] ++ ((R.take (j + 1)).map ncode).flatten := by
      rw [htk, List.map_append, List.flatten_append, List.append_assoc]
      simp
    have hlt : t.length ≤ 100000 := by omega
    have hbj := turn_bit j hbit
    generalize hA : [114, b] ++ ((R.take j).map ncode).flatten = A1 at *
    (walk_at "a2c422e4c"; walk_at "a668f72f2"; walk_at "a2c441c41"; walk_at "ad25b13d2"; walk_at "ad15d6c32"; walk_at "ae5260597"; walk_at "a8a699a1b")
    refine zor_keep ?_ fun _ hk => ?_
    · refine zwh_b (fun _ => ?_) fun z => nomatch z
      (walk_at "a43bf46d2"; walk_at "acdbb3963"; walk_at "ae1f83bb8"; walk_at "ad25b13d2"; walk_at "ae1f83bb8"; walk_at "ad25b13d2"; walk_at "ae1f83bb8"; walk_at "a2c441c41"; walk_at "ad15d6c32"; walk_at "a33f2f4b5"; walk_at "ae1f83bb8"; walk_at "ad25b13d2"; walk_at "afef05d44"; walk_at "a6ebb81e6"; walk_at "a8c4e17e3"; walk_at "afef05d44")
      refine call_read_number et3 rfl hlt hn1 (by omega) (by omega) fun p2 H2 hn2 he2 hp2 => ?_
      rw [eal] at hp2
      have hrep : rep [turn b j] (n : Int).toNat = List.replicate n (turn b j) := by rw [Int.toNat_natCast, rep_one]
      (walk_at "afbecc87a"; walk_at "a54305b80"; walk_at "a3beb7cd4"; walk_at "a54305b80"; walk_at "a3beb7cd4"; walk_at "abc6e375f"; walk_at "a3d76496c"; walk_at "a1fdb1a90"; walk_at "a2c441c41"; walk_at "ad25b13d2"; walk_at "ad25b13d2"; walk_at "a1d30e24a"; walk_at "a8f3de42f"; walk_at "a3d76496c"; walk_at "a7f6d4dcc"; walk_at "acdbb3963"; walk_at "ae1f83bb8"; walk_at "ad25b13d2"; walk_at "afef05d44"; walk_at "a46806286"; walk_at "a3d76496c"; walk_at "a28557e3a")
      rw [hrep, ← etl]
      refine less_ (m - 1) (by omega) ⟨j + 1, some (.int (n : Nat)), ?_, by omega, ex.trans he2⟩
      rw [turn_succ]
    · (walk_at "a668f72f2"; walk_at "a2c441c41"; walk_at "ad25b13d2"; walk_at "a33f2f4b5"; walk_at "ae1f83bb8"; walk_at "ad25b13d2"; walk_at "afef05d44"; walk_at "a6ebb81e6"; walk_at "a3d0fbaf8"; walk_at "a8a699a1b")
      rw [decide_eq_true (by omega)]
      exact hk
end
section
variable {P : Program} {w : World} {K : PySem.W.Frag} {mg : Str → Option Value} {base : Heap} {C_CountError C_NoCode C_NoBits C_NoPlace C_Row : Addr}
set_option maxHeartbeats 4000000 in
theorem ok_read_code {f : Addr} {fd : FuncData} {dV kV : Value} (g : G mg)
    (F : Txt K "read_code" "read_code" (defArgs st_read_code) (defBody st_read_code) (defScope st_read_code) dV kV f fd)
    (X_NoCode : MkErr P w K mg base 1 "NoCode" C_NoCode "at")
    {a_READERS f1 f2 : Addr} (c_READERS : mg "READERS" = some (.ref a_READERS))
    (k1 : KD K w a_READERS ⟨([112] : List Nat).toArray⟩ (some (.ref f1))) (k2 : KD K w a_READERS ⟨([114] : List Nat).toArray⟩ (some (.ref f2)))
    (A_reader : ∀ f sp, S_read_code f1 f2 f sp → HeldG P w K mg base 4 f sp) :
    FnG P w K mg base 5 f fd ["text"] (sp_read_code) := by
  refine z_fn F sc_read_code (fun vs H Q E h => by
    obtain ⟨l, c, rfl, hc, hb, h0, h1, k⟩ := h
    rfl) (fun cd A outer s H vs Q E hr ng h => ?_)
  obtain ⟨l, c, rfl, hc, hb, h0, h1, k⟩ := h
  refine ⟨_, [_, none], rfl, (pss_cons (ps_if (pt_not (pt_val (pe_callB (k_isi (K := K)) (by rfl) g.b_isinstance bt_isinstance (pa_cons (pv 0) (pa_cons (pe_bltn (v := .ty "str") (by rfl) g.b_str bt_str rfl) pa_nil))))) (pss_one (ps_raiseE rfl (takes_ rfl rfl rfl rfl) X_NoCode (hr.mono (by decide)) ng (by rfl) (pa_cons pe_non pa_nil))) pss_nil)
      (pss_cons (ps_if (pt_cmpR z_niKD (pe_slice (k_sl (K := K)) (pv 0) po_none (po_some pe_int)) (pe_glob (v := .ref a_READERS) (by rfl) c_READERS rfl) rfl) (pss_one (ps_raiseE rfl (takes_ rfl rfl rfl rfl) X_NoCode (hr.mono (by decide)) ng (by rfl) (pa_cons pe_int pa_nil))) pss_nil)
      (pss_cons (ps_set (i := 1) sc_read_code.nd rfl (Or.inl rfl) (pe_ix z_ixKD (pe_glob (v := .ref a_READERS) (by rfl) c_READERS rfl) (pe_ix (k_ix (K := K)) (pv 0) pe_int (fun _ _ => rfl)) (fun _ _ => rfl)))
      (pss_one (ps_ret (pe_callV (i := 1) A_reader (hr.mono (by decide)) ng rfl (.inl rfl) tk0 (pa_cons (pv 0) pa_nil))))))), ?_⟩
  have hlen := rcode_len (l := l) (by omega)
  rcases hc with rfl | rfl
  · have hcut : cut (112 :: l) none (some 1) = [112] := by rw [cut_to _ _ (by omega)]; rfl
    have hat : atI (112 :: l) 0 = some 112 := atI_nat (j := 0) rfl
    (walk_at "a4584bbba"; walk_at "a35e1d11b"; walk_at "a5ca36a29"; walk_at "a33f2f4b5"; walk_at "ae1f83bb8"; walk_at "ad25b13d2"; walk_at "ae1f83bb8"; walk_at "ad15d6c32"; walk_at "afef05d44"; walk_at "af08ba47b"; walk_at "a8a699a1b"; walk_at "a539a4fa3"; walk_at "a3cf0dcf0"; walk_at "a4584bbba"; walk_at "a668f72f2"; walk_at "a2c441c41"; walk_at "a1e0e6469"; walk_at "ad25b13d2"; walk_at "a67128e29"; walk_at "a0ebae3b6"; walk_at "ad15d6c32"; walk_at "a6a11b937"; walk_at "a55f8cc73"; walk_at "ad15d6c32")
    rw [hcut]
    refine niKD_ (r := some (.ref f1)) k1 ?_
    rw [Option.isSome_some]
    (walk_at "a8a699a1b"; walk_at "a539a4fa3"; walk_at "a3cf0dcf0"; walk_at "a85c4f338"; walk_at "a2c441c41"; walk_at "ad15d6c32"; walk_at "a2c441c41"; walk_at "ad25b13d2"; walk_at "ad15d6c32"; walk_at "a4657a1b3")
    refine ixKD_ (u0 := .ref f1) (v0 := .ref f1) k1 rfl ?_
    (walk_at "a3d76496c"; walk_at "ac39ddb8c")
    refine callV_ (f := f1) (sp := sp_read_plain) rfl (.inl ⟨rfl, rfl⟩) ?_
    (walk_at "ae1f83bb8"; walk_at "ad25b13d2"; walk_at "afef05d44"; walk_at "a4720205a"; walk_at "a8f7cfc14")
    rename_i H1 he
    skip
    exact k _ he
  · have hcut : cut (rcode l) none (some 1) = [114] := by rw [cut_to _ _ (by omega)]; rfl
    have hat : atI (rcode l) 0 = some 114 := atI_nat (j := 0) rfl
    (walk_at "a4584bbba"; walk_at "a35e1d11b"; walk_at "a5ca36a29"; walk_at "a33f2f4b5"; walk_at "ae1f83bb8"; walk_at "ad25b13d2"; walk_at "ae1f83bb8"; walk_at "ad15d6c32"; walk_at "afef05d44"; walk_at "af08ba47b"; walk_at "a8a699a1b"; walk_at "a539a4fa3"; walk_at "a3cf0dcf0"; walk_at "a4584bbba"; walk_at "a668f72f2"; walk_at "a2c441c41"; walk_at "a1e0e6469"; walk_at "ad25b13d2"; walk_at "a67128e29"; walk_at "a0ebae3b6"; walk_at "ad15d6c32"; walk_at "a6a11b937"; walk_at "a55f8cc73"; walk_at "ad15d6c32")
    rw [hcut]
    refine niKD_ (r := some (.ref f2)) k2 ?_
    rw [Option.isSome_some]
    (walk_at "a8a699a1b"; walk_at "a539a4fa3"; walk_at "a3cf0dcf0"; walk_at "a85c4f338"; walk_at "a2c441c41"; walk_at "ad15d6c32"; walk_at "a2c441c41"; walk_at "ad25b13d2"; walk_at "ad15d6c32"; walk_at "a4657a1b3")
    refine ixKD_ (u0 := .ref f2) (v0 := .ref f2) k2 rfl ?_
    (walk_at "a3d76496c"; walk_at "ac39ddb8c")
    refine callV_ (f := f2) (sp := sp_read_runs) rfl (.inr ⟨rfl, rfl⟩) ?_
    (walk_at "ae1f83bb8"; walk_at "ad25b13d2"; walk_at "afef05d44"; walk_at "a078429d8"; walk_at "a8f7cfc14")
    rename_i H1 he
    skip
    exact k _ he
end
section
variable {P : Program} {w : World} {K : PySem.W.Frag} {mg : Str → Option Value} {base : Heap} {C_CountError C_NoCode C_NoBits C_NoPlace C_Row : Addr}
set_option maxHeartbeats 4000000 in
theorem ok_Row_told {f : Addr} {fd : FuncData} {dV kV : Value} (g : G mg)
    (F : Txt K "told" "Row.told" (defArgs st_Row_told) (defBody st_Row_told) (defScope st_Row_told) dV kV f fd)
    (fc_Row : FC_Row K C_Row)
    (D_read_code : Def P w K mg base 5 "read_code" [] (sp_read_code)) :
    FnG P w K mg base 6 f fd ["self"] (sp_Row_told C_Row) := by
  refine z_fn F sc_Row_told (fun vs H Q E h => by
    obtain ⟨r, fp, sz, bks, op, hn, rfl, R, k⟩ := h
    rfl) (fun cd A outer s H vs Q E hr ng h => ?_)
  obtain ⟨r, fp, sz, bks, op, hn, rfl, R, k⟩ := h
  have no_Row_code_rows := fc_Row.code_rows
  have cl_Row := fc_Row.cls
  refine ⟨_, [_, none], rfl, (pss_one (ps_ret (k_join (K := K) (z_str lit_3) (pe_lc (own := [("code", 1)]) (by rfl) sc_Row_told.nd (k_list (K := K) (k_fld (K := K) (pv 0) rfl)) (blkOk_by (own := [("code", 1)]) (N := nm_Row_told) (sc := defScope st_Row_told) (by decide +kernel)) (fun _ _ _ _ _ => (pg_name (i := 1) sc_Row_told.nd rfl (Or.inl rfl))) (fun _ _ _ _ _ => pts_nil) (fun _ _ _ _ _ => (pe_f D_read_code (hr.mono (by decide)) ng (by rfl) tk0 (pa_cons (pv 1) pa_nil))))))), ?_⟩
  obtain ⟨dx, a, b, c, ts, rfl, e1, e2, hd, e3, e4, n1, n2, n3⟩ := R.ex
  have fw := R.few2
  have fw2 := R.few
  have s64 := R.s64
  (walk_at "ac39ddb8c"; walk_at "af6af6ffb"; walk_at "ad15d6c32"; walk_at "a90efc992"; walk_at "a2eb9ad30"; walk_at "a27ff4d3c"; walk_at "aa641d4b3"; walk_at "ad25b13d2"; walk_at "a2bbc0fda"; walk_at "a4e297517")
  refine lcL (ys := bks.map T) (SqL.of (by walk_at "lk")) (by simp) (by rw [List.length_map]; omega) (fun _ => rfl) ?_ ?_
  · intro D i x H1 hD hx m
    rw [List.getElem?_map] at hx
    obtain ⟨l, hl, rfl⟩ := Option.map_eq_some_iff.mp hx
    obtain ⟨b0, b1, b2⟩ := R.ok l (List.mem_of_getElem? hl)
    (walk_at "acdbb3963"; walk_at "ae1f83bb8"; walk_at "ad25b13d2"; walk_at "afef05d44")
    refine call_read_code (scode_or l) b0 b1 (by omega) fun H' he => ?_
    refine lm_put hD m he ?_ (by rw [List.length_map]; omega)
    rw [List.getElem?_map, hl]
    rfl
  · intro D H1 hD ex hd
    skip
    refine join_ hd (by rw [List.length_nil, ← List.length_flatten]; omega) ?_
    rw [joinT_nil]
    (walk_at "a8f7cfc14")
    exact k _ ex
end
section
variable {P : Program} {w : World} {K : PySem.W.Frag} {mg : Str → Option Value} {base : Heap} {C_CountError C_NoCode C_NoBits C_NoPlace C_Row : Addr}
set_option maxHeartbeats 4000000 in
theorem ok_Row_str {f : Addr} {fd : FuncData} {dV kV : Value} (g : G mg)
    (F : Txt K "__str__" "Row.__str__" (defArgs st_Row_str) (defBody st_Row_str) (defScope st_Row_str) dV kV f fd)
    (N_Row_told : MthK P w K mg base 6 C_Row "told" 1 [] (fun vs _ => vs) (sp_Row_told C_Row)) :
    FnG P w K mg base 7 f fd ["self"] (sp_Row_str C_Row) := by
  refine z_fn F sc_Row_str (fun vs H Q E h => by
    obtain ⟨r, fp, sz, bks, op, hn, rfl, R, k⟩ := h
    rfl) (fun cd A outer s H vs Q E hr ng h => ?_)
  obtain ⟨r, fp, sz, bks, op, hn, rfl, R, k⟩ := h
  refine ⟨_, [_], rfl, (pss_one (ps_ret (pe_callTy z_strZ (by rfl) g.b_str bt_str (pa_cons (pe_mk0 (pv 0) N_Row_told (hr.mono (by decide)) ng (tkW (takes_ rfl rfl rfl rfl))) pa_nil)))), ?_⟩
  (walk_at "ac39ddb8c"; walk_at "a33f2f4b5"; walk_at "ae1f83bb8"; walk_at "abe2830cc"; walk_at "ad25b13d2"; walk_at "ad49e4b9c"; walk_at "afef05d44"; walk_at "afef05d44"; walk_at "a16f6b169"; walk_at "adf5d9063"; walk_at "afef05d44"; walk_at "a92202ac4"; walk_at "a8f7cfc14")
  exact k _ (by assumption)
end
section
variable {P : Program} {w : World} {K : PySem.W.Frag} {mg : Str → Option Value} {base : Heap} {C_CountError C_NoCode C_NoBits C_NoPlace C_Row : Addr}
set_option maxHeartbeats 4000000 in
theorem ok_Row_repr {f : Addr} {fd : FuncData} {dV kV : Value} (g : G mg)
    (F : Txt K "__repr__" "Row.__repr__" (defArgs st_Row_repr) (defBody st_Row_repr) (defScope st_Row_repr) dV kV f fd)
    (fc_Row : FC_Row K C_Row)
    (N_Row_told : MthK P w K mg base 6 C_Row "told" 1 [] (fun vs _ => vs) (sp_Row_told C_Row)) :
    FnG P w K mg base 7 f fd ["self"] (sp_Row_repr C_Row) := by
  refine z_fn F sc_Row_repr (fun vs H Q E h => by
    obtain ⟨r, fp, sz, bks, op, hn, rfl, R, k⟩ := h
    rfl) (fun cd A outer s H vs Q E hr ng h => ?_)
  obtain ⟨r, fp, sz, bks, op, hn, rfl, R, k⟩ := h
  have no_Row_size := fc_Row.size
  have cl_Row := fc_Row.cls
  refine ⟨_, [_], rfl, (pss_one (ps_ret (pe_joined (PJ.cons (z_str lit_10) (PJ.cons (pe_fmt (pe_mk0 (pv 0) N_Row_told (hr.mono (by decide)) ng (tkW (takes_ rfl rfl rfl rfl)))) (PJ.cons (z_str lit_9) (PJ.cons (pe_fmt (k_fld (K := K) (pv 0) rfl)) (PJ.cons (z_str lit_8) PJ.nil)))))))), ?_⟩
  obtain ⟨dx, a, b, c, ts, hfp, e1, e2, hd, e3, e4, n1, n2, n3⟩ := R.ex
  have s64 := R.s64
  have fw := R.few
  have il := intL_len (n := sz) (by omega)
  (walk_at "ac39ddb8c"; walk_at "afc056343"; walk_at "abddc1dc2"; walk_at "ad15d6c32"; walk_at "ab27078af"; walk_at "abddc1dc2"; walk_at "a260e2e15"; walk_at "abe2830cc"; walk_at "ad25b13d2"; walk_at "ad49e4b9c"; walk_at "afef05d44"; walk_at "afef05d44"; walk_at "a16f6b169"; walk_at "adf5d9063"; walk_at "a1e1c4e90"; walk_at "ab27078af"; walk_at "abddc1dc2"; walk_at "ad15d6c32"; walk_at "ab27078af"; walk_at "abddc1dc2"; walk_at "a260e2e15"; walk_at "aa641d4b3"; walk_at "ad25b13d2"; walk_at "abfee9271"; walk_at "a124dfa37"; walk_at "ab27078af"; walk_at "abddc1dc2"; walk_at "ad15d6c32"; walk_at "ab27078af"; walk_at "a364bf6fa"; walk_at "a8f7cfc14")
  exact k _ (by assumption)
end
section
variable {P : Program} {w : World} {K : PySem.W.Frag} {mg : Str → Option Value} {base : Heap} {C_CountError C_NoCode C_NoBits C_NoPlace C_Row : Addr}
set_option maxHeartbeats 4000000 in
theorem ok_law_row_right {f : Addr} {fd : FuncData} {dV kV : Value} (g : G mg)
    (F : Txt K "_law_row_right" "_law_row_right" (defArgs st_law_row_right) (defBody st_law_row_right) (defScope st_law_row_right) dV kV f fd)
    (fc_Row : FC_Row K C_Row)
    (oc_Row : OwnC K C_Row)
    (N_Row_repr : MthK P w K mg base 7 C_Row "__repr__" 1 [] (fun vs _ => vs) (sp_Row_repr C_Row))
    (N_Row_len : MthK P w K mg base 1 C_Row "__len__" 1 [] (fun vs _ => vs) (sp_Row_len C_Row))
    (N_Row_str : MthK P w K mg base 7 C_Row "__str__" 1 [] (fun vs _ => vs) (sp_Row_str C_Row))
    (D_law_blocks_right : Def P w K mg base 4 "_law_blocks_right" [] (sp_law_blocks_right C_Row)) :
    FnG P w K mg base 11 f fd ["_law_row", "_law_row_text", "_law_wide_here"] (sp_law_row_right C_Row) := by
  refine z_fn F sc_law_row_right (fun vs H Q E h => by
    obtain ⟨r, fp, sz, bks, op, rfl, R, ti, k⟩ := h
    rfl) (fun cd A outer s H vs Q E hr ng h => ?_)
  obtain ⟨r, fp, sz, bks, op, rfl, R, ti, k⟩ := h
  have no_Row_size := fc_Row.size
  have cl_Row := fc_Row.cls
  refine ⟨_, [_, _, _], rfl, (pss_cons (ps_if (PW.pt (pw_or (pt_cmpR (k_ne (K := K) hr.units) (pe_callB (z_lenO N_Row_len (hr.mono (by decide)) ng) (by rfl) g.b_len bt_len (pa_cons (pv 0) pa_nil)) (pe_callB (k_len (K := K)) (by rfl) g.b_len bt_len (pa_cons (pv 1) pa_nil)) (nomark _)) (pw_or (pt_cmpR (k_ne (K := K) hr.units) (pe_callTy (z_strO N_Row_str (hr.mono (by decide)) ng) (by rfl) g.b_str bt_str (pa_cons (pv 0) pa_nil)) (pv 1) (nomark _)) (pw_or1 (pt_cmpR (k_ne (K := K) hr.units) (pe_callTy (z_boolO N_Row_len (hr.mono (by decide)) ng oc_Row) (by rfl) g.b_bool bt_bool (pa_cons (pv 0) pa_nil)) (pe_cmpR (k_ne (K := K) hr.units) (pv 1) (z_str lit_3) (nomark _)) (nomark _)))))) (pss_one (ps_ret pe_bl)) pss_nil)
      (pss_cons (ps_if (PW.pt (pw_or (pt_cmpR (k_ne (K := K) hr.units) (pe_callB (z_reprO N_Row_repr (hr.mono (by decide)) ng) (by rfl) g.b_repr bt_repr (pa_cons (pv 0) pa_nil)) (pe_op (k_add (K := K)) (pe_op (k_add (K := K)) (pe_op (k_add (K := K)) (pe_op (k_add (K := K)) (z_str lit_10) (pv 1)) (z_str lit_9)) (pe_callTy z_strZ (by rfl) g.b_str bt_str (pa_cons (pv 2) pa_nil))) (z_str lit_8)) (nomark _)) (pw_or1 (pt_cmpR (k_ne (K := K) hr.units) (k_fld (K := K) (pv 0) rfl) (pv 2) (nomark _))))) (pss_one (ps_ret pe_bl)) pss_nil)
      (pss_one (ps_ret (pe_f D_law_blocks_right (hr.mono (by decide)) ng (by rfl) (tkW (takes_ rfl rfl rfl rfl)) (pa_cons (pv 0) (pa_cons (pv 1) (pa_cons (pv 2) pa_nil)))))))), ?_⟩
  have fw := R.few
  have s64 := R.s64
  have s4 := R.s4
  have il := intL_len (n := sz) (by omega)
  (walk_at "a4584bbba"; walk_at "a2c422e4c"; walk_at "a668f72f2"; walk_at "a2c441c41"; walk_at "a33f2f4b5"; walk_at "ae1f83bb8"; walk_at "ad25b13d2"; walk_at "afef05d44"; walk_at "abf1fe2f0"; walk_at "a864961d0"; walk_at "a20923723"; walk_at "a5fd2d66a"; walk_at "a33f2f4b5"; walk_at "ae1f83bb8"; walk_at "ad25b13d2"; walk_at "afef05d44"; walk_at "a6ebb81e6"; walk_at "a0631d19f"; walk_at "a8a699a1b")
  refine zor_n (fun q => absurd rfl q) fun _ => ?_
  (walk_at "a2c422e4c"; walk_at "a668f72f2"; walk_at "a2c441c41"; walk_at "a33f2f4b5"; walk_at "ae1f83bb8"; walk_at "ad25b13d2"; walk_at "afef05d44"; walk_at "abf1fe2f0"; walk_at "a864961d0"; walk_at "aaa788875"; walk_at "a79b2481a"; walk_at "ad25b13d2"; walk_at "a485ea804"; walk_at "a8a699a1b"; walk_at "a018c9fb9"; walk_at "a668f72f2"; walk_at "a2c441c41"; walk_at "a33f2f4b5"; walk_at "ae1f83bb8"; walk_at "ad25b13d2"; walk_at "afef05d44"; walk_at "abf1fe2f0"; walk_at "a864961d0"; walk_at "a20923723"; walk_at "a73460f0a"; walk_at "a2c441c41"; walk_at "ad25b13d2"; walk_at "ad15d6c32"; walk_at "a5e4d02d8")
  have hb : (!decide (bks.flatten = [])) = decide (0 < bks.flatten.length) := by
    cases bks.flatten with
    | nil => rfl
    | cons a l => simp
  rw [hb]
  refine neDD_ (Dp.bl _) (Dp.bl _) (Rp.bl _) (by decide) (by decide) ?_
  (walk_at "a8a699a1b"; walk_at "a7b130abd"; walk_at "a3cf0dcf0"; walk_at "a4584bbba"; walk_at "a2c422e4c"; walk_at "a668f72f2"; walk_at "a2c441c41"; walk_at "a33f2f4b5"; walk_at "ae1f83bb8"; walk_at "ad25b13d2"; walk_at "afef05d44"; walk_at "abf1fe2f0"; walk_at "a864961d0"; walk_at "a33a3f648"; walk_at "a79b2481a"; walk_at "a2c441c41"; walk_at "a2c441c41"; walk_at "a2c441c41"; walk_at "a2c441c41"; walk_at "ad15d6c32"; walk_at "ad25b13d2"; walk_at "a4e0c8928"; walk_at "ad15d6c32"; walk_at "a4e0c8928"; walk_at "a33f2f4b5"; walk_at "ae1f83bb8"; walk_at "ad25b13d2"; walk_at "afef05d44"; walk_at "ad0a676ba"; walk_at "a4e0c8928"; walk_at "ad15d6c32"; walk_at "a4e0c8928"; walk_at "a5e4d02d8"; walk_at "a8a699a1b")
  refine zor_n (fun q => absurd rfl q) fun _ => ?_
  (walk_at "a668f72f2"; walk_at "a2c441c41"; walk_at "aa641d4b3"; walk_at "ad25b13d2"; walk_at "abfee9271"; walk_at "ad25b13d2"; walk_at "a0631d19f"; walk_at "a8a699a1b"; walk_at "a61eea2e0"; walk_at "a3cf0dcf0"; walk_at "ac39ddb8c"; walk_at "acdbb3963"; walk_at "ae1f83bb8"; walk_at "ad25b13d2"; walk_at "ae1f83bb8"; walk_at "ad25b13d2"; walk_at "ae1f83bb8"; walk_at "ad25b13d2"; walk_at "afef05d44")
  refine call_law_blocks_right (R.exx (by walk_at "ex")) ti fun H9 x9 => ?_
  (walk_at "a8f7cfc14")
  exact k _ (by walk_at "ex")
end
section
variable {P : Program} {w : World} {K : PySem.W.Frag} {mg : Str → Option Value} {base : Heap} {C_CountError C_NoCode C_NoBits C_NoPlace C_Row : Addr}
set_option maxHeartbeats 4000000 in
theorem ok_law_wide {f : Addr} {fd : FuncData} {dV kV : Value} (g : G mg)
    (F : Txt K "_law_wide" "_law_wide" (defArgs st_law_wide) (defBody st_law_wide) (defScope st_law_wide) dV kV f fd)
    (D_law_draw : Def P w K mg base 1 "_law_draw" [] (sp_law_draw)) :
    FnG P w K mg base 2 f fd ["_law_urn_here"] (sp_law_wide) := by
  refine z_fn F sc_law_wide (fun vs H Q E h => by
    obtain ⟨u, n, rfl, hu, hn, k⟩ := h
    rfl) (fun cd A outer s H vs Q E hr ng h => ?_)
  obtain ⟨u, n, rfl, hu, hn, k⟩ := h
  refine ⟨_, [_], rfl, (pss_one (ps_ret (pe_ix (k_ix (K := K)) (pe_lst (pa_cons pe_int (pa_cons pe_int (pa_cons pe_int (pa_cons pe_int (pa_cons pe_int (pa_cons (pe_op (k_add (K := K)) pe_int (pe_op z_mul pe_int (pe_f D_law_draw (hr.mono (by decide)) ng (by rfl) (tkW (takes_ rfl rfl rfl rfl)) (pa_cons (pv 0) (pa_cons pe_int pa_nil))))) pa_nil))))))) (pe_f D_law_draw (hr.mono (by decide)) ng (by rfl) (tkW (takes_ rfl rfl rfl rfl)) (pa_cons (pv 0) (pa_cons pe_int pa_nil))) (fun _ _ => rfl)))), ?_⟩
  (walk_at "ac39ddb8c"; walk_at "a2c441c41"; walk_at "afaa010ed"; walk_at "ae1f83bb8"; walk_at "ad15d6c32"; walk_at "ae1f83bb8"; walk_at "ad15d6c32"; walk_at "ae1f83bb8"; walk_at "ad15d6c32"; walk_at "ae1f83bb8"; walk_at "ad15d6c32"; walk_at "ae1f83bb8"; walk_at "ad15d6c32"; walk_at "ae1f83bb8"; walk_at "a2c441c41"; walk_at "ad15d6c32"; walk_at "a2c441c41"; walk_at "ad15d6c32"; walk_at "acdbb3963"; walk_at "ae1f83bb8"; walk_at "ad25b13d2"; walk_at "ae1f83bb8"; walk_at "ad15d6c32"; walk_at "afef05d44"; walk_at "a36af51d3"; walk_at "a7bf746b0"; walk_at "a470d4ce9"; walk_at "afef05d44"; walk_at "a22972083"; walk_at "acdbb3963"; walk_at "ae1f83bb8"; walk_at "ad25b13d2"; walk_at "ae1f83bb8"; walk_at "ad15d6c32"; walk_at "afef05d44"; walk_at "a36af51d3")
  rename_i d H1 d0 d1 hu1 hb1 p H2 n2 x2 h2 e H3 e0 e1 hu3 hb3
  have ha : ∃ z : Int, atI [V.int 4, V.int 4, V.int 6, V.int 16, V.int 64, V.int (4 + 2 * d)] e = some (V.int z) ∧ 4 ≤ z ∧ z ≤ 64 := by
    have : e = 0 ∨ e = 1 ∨ e = 2 ∨ e = 3 ∨ e = 4 ∨ e = 5 := by omega
    rcases this with rfl | rfl | rfl | rfl | rfl | rfl
    all_goals exact ⟨_, rfl, by omega, by omega⟩
  obtain ⟨z, hz, z0, z1⟩ := ha
  (walk_at "a5c5685b7"; walk_at "a8f7cfc14")
  exact k z _ z0 z1 (hu3.mono (by omega)) ((hb1.ext x2).trans hb3)
end
section
variable {P : Program} {w : World} {K : PySem.W.Frag} {mg : Str → Option Value} {base : Heap} {C_CountError C_NoCode C_NoBits C_NoPlace C_Row : Addr}
set_option maxHeartbeats 4000000 in
theorem ok_Row_eq {f : Addr} {fd : FuncData} {dV kV : Value} (g : G mg)
    (F : Txt K "__eq__" "Row.__eq__" (defArgs st_Row_eq) (defBody st_Row_eq) (defScope st_Row_eq) dV kV f fd)
    (gl_Row : mg "Row" = some (.ref C_Row))
    (fc_Row : FC_Row K C_Row)
    (oc_Row : OwnC K C_Row)
    (N_Row_told : MthK P w K mg base 6 C_Row "told" 1 [] (fun vs _ => vs) (sp_Row_told C_Row)) :
    FnG P w K mg base 8 f fd ["self", "other"] (sp_Row_eq C_Row) := by
  refine z_fn F sc_Row_eq (fun vs H Q E h => by
    obtain ⟨r, v, rfl, h⟩ := h
    rfl) (fun cd A outer s H vs Q E hr ng h => ?_)
  obtain ⟨r, v, rfl, h⟩ := h
  have no_Row_size := fc_Row.size
  have cl_Row := fc_Row.cls
  refine ⟨_, [_, _], rfl, (pss_cons (ps_if (pt_not (pt_val (pe_callB (k_isi (K := K)) (by rfl) g.b_isinstance bt_isinstance (pa_cons (pv 1) (pa_cons (pe_glob (v := .ref C_Row) (by rfl) gl_Row rfl) pa_nil))))) (pss_one (ps_ret pe_bl)) pss_nil)
      (pss_one (ps_ret (pe_and (pe_cmpR (k_eq (K := K) hr.units) (k_fld (K := K) (pv 0) rfl) (k_fld (K := K) (pv 1) rfl) (nomark _)) (pe_one (pe_cmpR (k_eq (K := K) hr.units) (pe_mk0 (pv 0) N_Row_told (hr.mono (by decide)) ng (tkW (takes_ rfl rfl rfl rfl))) (pe_mk0 (pv 1) N_Row_told (hr.mono (by decide)) ng (tkW (takes_ rfl rfl rfl rfl))) (nomark _))))))), ?_⟩
  rcases h with ⟨sz, fp, bks, op, hn, R, o, k⟩ | ⟨r2, fp, fp2, sz, sz2, bks, bks2, op, op2, hn, hn2, rfl, R, R2, k⟩
  · (walk_at "a4584bbba"; walk_at "a35e1d11b"; walk_at "a5ca36a29"; walk_at "a33f2f4b5"; walk_at "ae1f83bb8"; walk_at "ad25b13d2"; walk_at "ae1f83bb8"; walk_at "ad15d6c32"; walk_at "afef05d44")
    refine isEls_ oc_Row o ?_
    (walk_at "a8a699a1b"; walk_at "a64b801b7"; walk_at "ac39ddb8c"; walk_at "ad15d6c32"; walk_at "a8f7cfc14")
    exact k _ (Ex.refl _)
  · obtain ⟨dx, a, b, c, ts, hfp, e1, e2, hd, e3, e4, n1, n2, n3⟩ := R.ex
    obtain ⟨dx2, a2, b2, c2, ts2, hfp2, f1, f2, hd2, f3, f4, n12, n22, n32⟩ := R2.ex
    (walk_at "a4584bbba"; walk_at "a35e1d11b"; walk_at "a5ca36a29"; walk_at "a33f2f4b5"; walk_at "ae1f83bb8"; walk_at "ad25b13d2"; walk_at "ae1f83bb8"; walk_at "ad15d6c32"; walk_at "afef05d44"; walk_at "aa73590da"; walk_at "a8a699a1b"; walk_at "a539a4fa3"; walk_at "a3cf0dcf0"; walk_at "ac39ddb8c"; walk_at "a4c4c815b"; walk_at "a2c441c41"; walk_at "aa641d4b3"; walk_at "ad25b13d2"; walk_at "abfee9271"; walk_at "aa641d4b3"; walk_at "ad25b13d2"; walk_at "abfee9271"; walk_at "ab84a1bc3")
    refine zandv_d (fun q => ?_) (fun q => ?_)
    · (walk_at "a2c441c41"; walk_at "abe2830cc"; walk_at "ad25b13d2"; walk_at "ad49e4b9c"; walk_at "afef05d44"; walk_at "afef05d44"; walk_at "a16f6b169"; walk_at "adf5d9063"; walk_at "abe2830cc"; walk_at "ad25b13d2"; walk_at "ad49e4b9c"; walk_at "afef05d44"; walk_at "afef05d44"; walk_at "a16f6b169"; walk_at "adf5d9063"; walk_at "ae5260597"; walk_at "a8f7cfc14")
      have e : (decide (sz = sz2 ∧ bks.flatten = bks2.flatten)) = decide (bks.flatten = bks2.flatten) := by
        have : sz = sz2 := by omega
        simp [this]
      rw [e] at k
      exact k _ (by walk_at "ex")
    · have e : (decide (sz = sz2 ∧ bks.flatten = bks2.flatten)) = false := by
        have : ¬ sz = sz2 := by omega
        simp [this]
      rw [e] at k
      (walk_at "a8f7cfc14")
      exact k _ (Ex.refl _)
end
section
variable {P : Program} {w : World} {K : PySem.W.Frag} {mg : Str → Option Value} {base : Heap} {C_CountError C_NoCode C_NoBits C_NoPlace C_Row : Addr}
set_option maxHeartbeats 4000000 in
theorem ok_law_alike {f : Addr} {fd : FuncData} {dV kV : Value} (g : G mg)
    (F : Txt K "_law_alike" "_law_alike" (defArgs st_law_alike) (defBody st_law_alike) (defScope st_law_alike) dV kV f fd)
    (oc_Row : OwnC K C_Row)
    (on_Row : OwnN K C_Row)
    (N_Row_eq : MthK P w K mg base 8 C_Row "__eq__" 2 [] (fun vs _ => vs) (sp_Row_eq C_Row)) :
    FnG P w K mg base 12 f fd ["_law_one", "_law_other", "_law_due"] (sp_law_alike C_Row) := by
  refine z_fn F sc_law_alike (fun vs H Q E h => by
    obtain ⟨r, r2, sz, sz2, l, l2, b, L, rfl, s, e, k⟩ := h
    rfl) (fun cd A outer s H vs Q E hr ng h => ?_)
  obtain ⟨r, r2, sz, sz2, l, l2, b, L, rfl, s, e, k⟩ := h
  refine ⟨_, [_, _, _], rfl, (pss_one (ps_ret (pe_and (pe_cmpR (k_eq (K := K) hr.units) (pe_cmpR (k_eqX (K := K) N_Row_eq (hr.mono (by decide)) ng oc_Row) (pv 0) (pv 1) (nomark _)) (pv 2) (nomark _)) (pe_and (pe_cmpR (k_eq (K := K) hr.units) (pe_cmpR (k_neX (K := K) N_Row_eq (hr.mono (by decide)) ng oc_Row) (pv 0) (pv 1) (nomark _)) (pe_not (pv 2)) (nomark _)) (pe_one (pe_cmpR (k_eq (K := K) hr.units) (pe_cmpR (z_inX N_Row_eq (hr.mono (by decide)) ng on_Row) (pv 1) (pe_lst (pa_cons pe_non (pa_cons (pv 0) pa_nil))) rfl) (pv 2) (nomark _))))))), ?_⟩
  subst e
  (walk_at "ac39ddb8c"; walk_at "a4c4c815b"; walk_at "a2c441c41"; walk_at "a2c441c41"; walk_at "ad25b13d2"; walk_at "ad25b13d2"; walk_at "a0f5af2e7"; walk_at "a864961d0"; walk_at "a1d02c975"; walk_at "ac9dfb40e"; walk_at "ad25b13d2")
  refine eqDD_ (d := .bool _) (Dp.bl _) (Dp.bl _) (Rp.bl _) (by decide) (by decide) ?_
  (walk_at "a5012d8eb"; walk_at "a4c4c815b"; walk_at "a2c441c41"; walk_at "a2c441c41"; walk_at "ad25b13d2"; walk_at "ad25b13d2"; walk_at "abebd801b"; walk_at "a864961d0"; walk_at "a1d02c975"; walk_at "a87bbd38c"; walk_at "a3ec61437"; walk_at "ad25b13d2"; walk_at "adffed13f")
  refine eqDD_ (d := .bool _) (Dp.bl _) (Dp.bl _) (Rp.bl _) (by decide) (by decide) ?_
  (walk_at "a5012d8eb"; walk_at "a2c441c41"; walk_at "a2c441c41"; walk_at "ad25b13d2"; walk_at "afaa010ed"; walk_at "ae1f83bb8"; walk_at "ad15d6c32"; walk_at "ae1f83bb8"; walk_at "ad25b13d2"; walk_at "afef05d44"; walk_at "a5a35570c")
  refine inRow_ (by assumption) (by walk_at "pk") (by walk_at "pk") (by walk_at "pk") fun H9 s9 => ?_
  (walk_at "ad25b13d2")
  refine eqDD_ (d := .bool _) (Dp.bl _) (Dp.bl _) (Rp.bl _) (by decide) (by decide) ?_
  (walk_at "a8f7cfc14")
  exact k _ (by walk_at "sub")
end
section
variable {P : Program} {w : World} {K : PySem.W.Frag} {mg : Str → Option Value} {base : Heap} {C_CountError C_NoCode C_NoBits C_NoPlace C_Row : Addr}
set_option maxHeartbeats 4000000 in
theorem ok_law {f : Addr} {fd : FuncData} {dV kV : Value} (g : G mg)
    (F : Txt K "law" "law" (defArgs st_law) (defBody st_law) (defScope st_law) dV kV f fd)
    (oc_Row : OwnC K C_Row)
    (N_Row_repr : MthK P w K mg base 7 C_Row "__repr__" 1 [] (fun vs _ => vs) (sp_Row_repr C_Row))
    (N_Row_init_0 : MkK P w K mg base 6 "Row" C_Row 0 [] (fun vs _ => vs ++ [T [], .int 16]) (sp_Row_init C_Row))
    (N_Row_eq : MthK P w K mg base 8 C_Row "__eq__" 2 [] (fun vs _ => vs) (sp_Row_eq C_Row))
    (N_Row_codes : MthK P w K mg base 1 C_Row "codes" 1 [] (fun vs _ => vs) (sp_Row_codes C_Row))
    (N_Row_heads : MthK P w K mg base 1 C_Row "heads" 1 [] (fun vs _ => vs) (sp_Row_heads C_Row))
    (N_Row_init_1_size : MkK P w K mg base 6 "Row" C_Row 1 ["size"] (fun vs zs => vs ++ zs) (sp_Row_init C_Row))
    (N_Row_init_1 : MkK P w K mg base 6 "Row" C_Row 1 [] (fun vs _ => vs ++ [.int 16]) (sp_Row_init C_Row))
    (D_law_urn : Def P w K mg base 1 "_law_urn" [] (sp_law_urn K))
    (D_law_bits : Def P w K mg base 2 "_law_bits" [] (sp_law_bits))
    (D_law_row_right : Def P w K mg base 11 "_law_row_right" [] (sp_law_row_right C_Row))
    (D_law_wide : Def P w K mg base 2 "_law_wide" [] (sp_law_wide))
    (D_law_alike : Def P w K mg base 12 "_law_alike" [] (sp_law_alike C_Row))
    (D_law_draw : Def P w K mg base 1 "_law_draw" [] (sp_law_draw)) :
    FnG P w K mg base 13 f fd ["_law_script"] (sp_law K) := by
  refine z_fn F sc_law (fun vs H Q E h => by
    obtain ⟨a, ns, rfl, hS, hl, k⟩ := h
    rfl) (fun cd A outer s H vs Q E hr ng h => ?_)
  obtain ⟨a, ns, rfl, hS, hl, k⟩ := h
  refine ⟨_, [_, none, none, none, none, none, none, none, none, none, none, none], rfl, (pss_cons (ps_for (passes_of rfl) rfl (pi_range1 (by rfl) g.b_range (pa_cons (pe_callB (z_max2 rfl) (by rfl) g.b_max bt_max (pa_cons pe_int (pa_cons (pe_callB (z_min2 rfl) (by rfl) g.b_min bt_min (pa_cons pe_int (pa_cons (pe_callB (k_len (K := K)) (by rfl) g.b_len bt_len (pa_cons (pv 0) pa_nil)) pa_nil))) pa_nil))) pa_nil)) (pg_name (i := 1) sc_law.nd rfl (Or.inl rfl)) (pss_cons (ps_set (i := 2) sc_law.nd rfl (Or.inl rfl) (pe_f D_law_urn (hr.mono (by decide)) ng (by rfl) (tkW (takes_ rfl rfl rfl rfl)) (pa_cons (pv 0) (pa_cons (pv 1) pa_nil))))
      (pss_cons (ps_par (i := 3) (j := 4) (by rfl) sc_law.nd rfl rfl (by decide) rfl rfl (pa_cons (pe_f D_law_bits (hr.mono (by decide)) ng (by rfl) (tkW (takes_ rfl rfl rfl rfl)) (pa_cons (pv 2) (pa_cons (pe_ix (k_ix (K := K)) (pe_lst (pa_cons pe_int (pa_cons pe_int (pa_cons pe_int (pa_cons pe_int pa_nil))))) (pe_f D_law_draw (hr.mono (by decide)) ng (by rfl) (tkW (takes_ rfl rfl rfl rfl)) (pa_cons (pv 2) (pa_cons pe_int pa_nil))) (fun _ _ => rfl)) pa_nil))) (pa_cons (pe_f D_law_wide (hr.mono (by decide)) ng (by rfl) (tkW (takes_ rfl rfl rfl rfl)) (pa_cons (pv 2) pa_nil)) pa_nil)) (by rfl))
      (pss_cons (ps_asg (pe_tup (pa_cons (pe_kk N_Row_init_1_size (hr.mono (by decide)) ng (by rfl) (tkW (takes_ rfl rfl rfl rfl)) (pa_cons (pv 3) pa_nil) (pk_cons (pv 4) pk_nil)) (pa_cons (pe_kk N_Row_init_1_size (hr.mono (by decide)) ng (by rfl) (tkW (takes_ rfl rfl rfl rfl)) (pa_cons (pv 3) pa_nil) (pk_cons (pv 4) pk_nil)) (pa_cons (pe_kk1 N_Row_init_1 (hr.mono (by decide)) ng (by rfl) (tkW (takes_ rfl rfl rfl rfl)) (pa_cons (pv 3) pa_nil)) pa_nil)))) (k_tup (K := K) (n := 3) (by rfl) (pgs_cons (pg_name (i := 5) sc_law.nd rfl (Or.inr rfl)) (pgs_cons (pg_name (i := 6) sc_law.nd rfl (Or.inl rfl)) (pgs_cons (pg_name (i := 7) sc_law.nd rfl (Or.inl rfl)) pgs_nil)))))
      (pss_cons (ps_if (PW.pt (pw_or (pt_not (pt_val (pe_f D_law_row_right (hr.mono (by decide)) ng (by rfl) (tkW (takes_ rfl rfl rfl rfl)) (pa_cons (pv 5) (pa_cons (pv 3) (pa_cons (pv 4) pa_nil)))))) (pw_or1 (pt_not (pt_val (pe_f D_law_row_right (hr.mono (by decide)) ng (by rfl) (tkW (takes_ rfl rfl rfl rfl)) (pa_cons (pv 7) (pa_cons (pv 3) (pa_cons pe_int pa_nil))))))))) (pss_one (ps_ret pe_bl)) pss_nil)
      (pss_cons (ps_set (i := 8) sc_law.nd rfl (Or.inl rfl) (pe_f D_law_bits (hr.mono (by decide)) ng (by rfl) (tkW (takes_ rfl rfl rfl rfl)) (pa_cons (pv 2) (pa_cons pe_int pa_nil))))
      (pss_cons (ps_set (i := 9) sc_law.nd rfl (Or.inl rfl) (pe_kk N_Row_init_1_size (hr.mono (by decide)) ng (by rfl) (tkW (takes_ rfl rfl rfl rfl)) (pa_cons (pv 8) pa_nil) (pk_cons (pv 4) pk_nil)))
      (pss_cons (ps_if (PW.pt (pw_or (pt_not (pt_val (pe_f D_law_alike (hr.mono (by decide)) ng (by rfl) (tkW (takes_ rfl rfl rfl rfl)) (pa_cons (pv 5) (pa_cons (pv 6) (pa_cons pe_bl pa_nil)))))) (pw_or1 (pt_not (pt_val (pe_f D_law_alike (hr.mono (by decide)) ng (by rfl) (tkW (takes_ rfl rfl rfl rfl)) (pa_cons (pv 5) (pa_cons (pv 7) (pa_cons (pe_cmpR (k_eq (K := K) hr.units) (pv 4) pe_int (nomark _)) pa_nil))))))))) (pss_one (ps_ret pe_bl)) pss_nil)
      (pss_cons (ps_if (pt_not (pt_val (pe_f D_law_alike (hr.mono (by decide)) ng (by rfl) (tkW (takes_ rfl rfl rfl rfl)) (pa_cons (pv 5) (pa_cons (pv 9) (pa_cons (pe_cmpR (k_eq (K := K) hr.units) (pv 3) (pv 8) (nomark _)) pa_nil)))))) (pss_one (ps_ret pe_bl)) pss_nil)
      (pss_cons (ps_expr (pe_bm PySem.F.plainAttrs_list PySem.F.slot_list_append PySem.F.type_list_append mt_append (pe_mk0 (pv 5) N_Row_heads (hr.mono (by decide)) ng (tkW (takes_ rfl rfl rfl rfl))) (pa_cons pe_non pa_nil)))
      (pss_cons (ps_expr (pe_bm0 PySem.F.plainAttrs_list PySem.F.slot_list_clear PySem.F.type_list_clear mt_clear (pe_mk0 (pv 5) N_Row_codes (hr.mono (by decide)) ng (tkW (takes_ rfl rfl rfl rfl)))))
      (pss_cons (ps_set (i := 10) sc_law.nd rfl (Or.inl rfl) (pe_lst (pa_cons (pv 3) (pa_cons pe_non (pa_cons (pe_callB (k_len (K := K)) (by rfl) g.b_len bt_len (pa_cons (pv 3) pa_nil)) (pa_cons pe_int (pa_cons (pe_lst (pa_cons (pv 5) pa_nil)) pa_nil)))))))
      (pss_one (ps_if (PW.pt (pw_or (pt_not (pt_val (pe_f D_law_row_right (hr.mono (by decide)) ng (by rfl) (tkW (takes_ rfl rfl rfl rfl)) (pa_cons (pv 5) (pa_cons (pv 3) (pa_cons (pv 4) pa_nil)))))) (pw_or1 (pt_val (pe_callB (k_any (K := K) rfl) (by rfl) g.b_any bt_any (pa_cons (pe_lc (own := [("_law_thing", 11)]) (by rfl) sc_law.nd (k_list (K := K) (pv 10)) (blkOk_by (own := [("_law_thing", 11)]) (N := nm_law) (sc := defScope st_law) (by decide +kernel)) (fun _ _ _ _ _ => (pg_name (i := 11) sc_law.nd rfl (Or.inl rfl))) (fun _ _ _ _ _ => pts_nil) (fun _ _ _ _ _ => (pe_cmpR (k_eqX (K := K) N_Row_eq (hr.mono (by decide)) ng oc_Row) (pv 5) (pv 11) (nomark _)))) pa_nil)))))) (pss_one (ps_ret pe_bl)) pss_nil))))))))))))))
      (pss_one (ps_ret (pe_and (pe_f D_law_row_right (hr.mono (by decide)) ng (by rfl) (tkW (takes_ rfl rfl rfl rfl)) (pa_cons (pe_kk0 N_Row_init_0 (hr.mono (by decide)) ng (by rfl) (tkW (takes_ rfl rfl rfl rfl))) (pa_cons (z_str lit_3) (pa_cons pe_int pa_nil)))) (pe_one (pe_cmpR (k_eq (K := K) hr.units) (pe_callB (z_reprO N_Row_repr (hr.mono (by decide)) ng) (by rfl) g.b_repr bt_repr (pa_cons (pe_kk0 N_Row_init_0 (hr.mono (by decide)) ng (by rfl) (tkW (takes_ rfl rfl rfl rfl))) pa_nil)) (z_str lit_12) (nomark _))))))), ?_⟩
  have s := S.ofSq hS
  (walk_at "a1fccfa88"; walk_at "a667a4238"; walk_at "ae1f83bb8"; walk_at "a33f2f4b5"; walk_at "ae1f83bb8"; walk_at "ad15d6c32"; walk_at "ae1f83bb8"; walk_at "a33f2f4b5"; walk_at "ae1f83bb8"; walk_at "ad15d6c32"; walk_at "ae1f83bb8"; walk_at "a33f2f4b5"; walk_at "ae1f83bb8"; walk_at "ad25b13d2"; walk_at "afef05d44"; walk_at "a1547b0ad"; walk_at "afef05d44"; walk_at "af540029c"; walk_at "afef05d44"; walk_at "a85357d03"; walk_at "afef05d44"; walk_at "a02753dc7")
  rw [List.length_map]
  skip
  have hn : ∃ m : Nat, (if (if (ns.length : Int) < 3 then (ns.length : Int) else 3) > 1 then (if (ns.length : Int) < 3 then (ns.length : Int) else 3) else 1) = (m : Int) ∧ m ≤ 3 := by
    by_cases h4 : (ns.length : Int) < 3
    · rw [if_pos h4]
      by_cases h2 : (ns.length : Int) > 1
      · rw [if_pos h2]; exact ⟨_, rfl, by omega⟩
      · rw [if_neg h2]; exact ⟨1, rfl, by omega⟩
    · rw [if_neg h4]; exact ⟨3, by simp, by omega⟩
  obtain ⟨m, hm, hm4⟩ := hn
  rw [hm]
  skip
  rw [Int.toNat_natCast]
  refine forR (fun i σ H' => ∃ v2 v3 v4 v5 v6 v7 v8 v9 v10 v11 v12 : Option V, σ = [some (.ref a), v2, v3, v4, v5, v6, v7, v8, v9, v10, v11, v12] ∧ S [ASq K a (ns.map V.int)] H') ⟨none, none, none, none, none, none, none, none, none, none, none, rfl, s⟩ ?_ ?_
  · rintro i σ H1 hi ⟨v2, v3, v4, v5, v6, v7, v8, v9, v10, v11, v12, rfl, s1⟩
    (walk_at "a3d76496c"; walk_at "a85c4f338"; walk_at "acdbb3963"; walk_at "ae1f83bb8"; walk_at "ad25b13d2"; walk_at "ae1f83bb8"; walk_at "ad25b13d2"; walk_at "afef05d44"; walk_at "a174a02dd"; walk_at "a3d76496c"; walk_at "a91c550d3"; walk_at "ae1f83bb8"; walk_at "acdbb3963"; walk_at "ae1f83bb8"; walk_at "ad25b13d2"; walk_at "ae1f83bb8"; walk_at "a2c441c41"; walk_at "afaa010ed"; walk_at "ae1f83bb8"; walk_at "ad15d6c32"; walk_at "ae1f83bb8"; walk_at "ad15d6c32"; walk_at "ae1f83bb8"; walk_at "ad15d6c32"; walk_at "ae1f83bb8"; walk_at "ad15d6c32"; walk_at "afef05d44"; walk_at "a5a35570c"; walk_at "acdbb3963"; walk_at "ae1f83bb8"; walk_at "ad25b13d2"; walk_at "ae1f83bb8"; walk_at "ad15d6c32"; walk_at "afef05d44"; walk_at "abca2a96c")
    rename_i u G1 g1 p0 G2 g2 d G3 d0 d1 g3
    obtain ⟨mo, emo, mo0, mo1⟩ : ∃ mo : Int, atI [V.int 40, .int 200, .int 200, .int 1000] d = some (.int mo) ∧ 0 ≤ mo ∧ mo ≤ 1000 := by
      rcases (by omega : d = 0 ∨ d = 1 ∨ d = 2 ∨ d = 3) with rfl | rfl | rfl | rfl
      all_goals exact ⟨_, rfl, by decide, by decide⟩
    have bn : Bits [] := fun c hc => nomatch hc
    (walk_at "a5c5685b7"; walk_at "afef05d44"; walk_at "ab1715b67"; walk_at "ae1f83bb8"; walk_at "acdbb3963"; walk_at "ae1f83bb8"; walk_at "ad25b13d2"; walk_at "afef05d44"; walk_at "a5fac1184"; walk_at "afef05d44"; walk_at "a843fc401"; walk_at "a3d76496c"; walk_at "a43bf46d2"; walk_at "ab6f4d09a"; walk_at "ae1f83bb8"; walk_at "ab1ef576b"; walk_at "ae1f83bb8"; walk_at "ad25b13d2"; walk_at "afef05d44"; walk_at "ae1f83bb8"; walk_at "ad25b13d2"; walk_at "afef05d44"; walk_at "a11bd1e70"; walk_at "ae1f83bb8"; walk_at "ab1ef576b"; walk_at "ae1f83bb8"; walk_at "ad25b13d2"; walk_at "afef05d44"; walk_at "ae1f83bb8"; walk_at "ad25b13d2"; walk_at "afef05d44"; walk_at "a11bd1e70"; walk_at "ae1f83bb8"; walk_at "ab1ef576b"; walk_at "ae1f83bb8"; walk_at "ad25b13d2"; walk_at "afef05d44"; walk_at "afef05d44"; walk_at "a11bd1e70"; walk_at "afef05d44"; walk_at "a1d9c2e1b"; walk_at "afbecc87a"; walk_at "a54305b80"; walk_at "a3beb7cd4"; walk_at "a54305b80"; walk_at "a3beb7cd4"; walk_at "a54305b80"; walk_at "a3beb7cd4"; walk_at "abc6e375f"; walk_at "a3d76496c"; walk_at "a4584bbba"; walk_at "a2c422e4c"; walk_at "a35e1d11b"; walk_at "a5ca36a29"; walk_at "acdbb3963"; walk_at "ae1f83bb8"; walk_at "ad25b13d2"; walk_at "ae1f83bb8"; walk_at "ad25b13d2"; walk_at "ae1f83bb8"; walk_at "ad25b13d2"; walk_at "afef05d44"; walk_at "ad286a858"; walk_at "a8a699a1b"; walk_at "ad25f38df"; walk_at "a35e1d11b"; walk_at "a5ca36a29"; walk_at "acdbb3963"; walk_at "ae1f83bb8"; walk_at "ad25b13d2"; walk_at "ae1f83bb8"; walk_at "ad25b13d2"; walk_at "ae1f83bb8"; walk_at "ad15d6c32"; walk_at "afef05d44"; walk_at "ad286a858"; walk_at "a8a699a1b"; walk_at "a539a4fa3"; walk_at "a3cf0dcf0"; walk_at "a85c4f338"; walk_at "acdbb3963"; walk_at "ae1f83bb8"; walk_at "ad25b13d2"; walk_at "ae1f83bb8"; walk_at "ad15d6c32"; walk_at "afef05d44"; walk_at "ab1715b67"; walk_at "a3d76496c"; walk_at "a85c4f338"; walk_at "ab1ef576b"; walk_at "ae1f83bb8"; walk_at "ad25b13d2"; walk_at "afef05d44"; walk_at "ae1f83bb8"; walk_at "ad25b13d2"; walk_at "afef05d44"; walk_at "a11bd1e70"; walk_at "a3d76496c"; walk_at "a4584bbba"; walk_at "a2c422e4c"; walk_at "a35e1d11b"; walk_at "a5ca36a29"; walk_at "acdbb3963"; walk_at "ae1f83bb8"; walk_at "ad25b13d2"; walk_at "ae1f83bb8"; walk_at "ad25b13d2"; walk_at "ae1f83bb8"; walk_at "ad15d6c32"; walk_at "afef05d44")
    rename_i l1 H2 lb1 ll1 s2 z H3 z0 z1 s3 r1 H4 s4 r2 H5 s5 r3 H6 s6 pt H7 s7 H8 s8 H9 s9 l2 H10 lb2 ll2 s10 r4 H11 s11
    refine cs_law_alike (by assumption) (by walk_at "pk") (by walk_at "pk") (by simp) fun H12 s12 => ?_
    (walk_at "a8a699a1b"; walk_at "ad25f38df"; walk_at "a35e1d11b"; walk_at "a5ca36a29"; walk_at "acdbb3963"; walk_at "ae1f83bb8"; walk_at "ad25b13d2"; walk_at "ae1f83bb8"; walk_at "ad25b13d2"; walk_at "ae1f83bb8"; walk_at "a2c441c41"; walk_at "ad25b13d2"; walk_at "ad15d6c32"; walk_at "ab84a1bc3"; walk_at "afef05d44")
    refine cs_law_alike (by assumption) (by walk_at "pk") (by walk_at "pk") (decide_eq_decide.mpr ⟨fun e => ⟨by rw [e], rfl⟩, fun e => by have := e.1; have e16 : Int.toNat 16 = 16 := rfl; omega⟩) fun H13 s13 => ?_
    (walk_at "a8a699a1b"; walk_at "a539a4fa3"; walk_at "a3cf0dcf0"; walk_at "a4584bbba"; walk_at "a35e1d11b"; walk_at "a5ca36a29"; walk_at "acdbb3963"; walk_at "ae1f83bb8"; walk_at "ad25b13d2"; walk_at "ae1f83bb8"; walk_at "ad25b13d2"; walk_at "ae1f83bb8"; walk_at "a2c441c41"; walk_at "ad25b13d2"; walk_at "ad25b13d2"; walk_at "ae5260597"; walk_at "afef05d44")
    refine cs_law_alike (by assumption) (by walk_at "pk") (by walk_at "pk") (decide_eq_decide.mpr ⟨fun e => ⟨rfl, e⟩, fun e => e.2⟩) fun H14 s14 => ?_
    (walk_at "a8a699a1b"; walk_at "a539a4fa3"; walk_at "a3cf0dcf0"; walk_at "a29d25caa"; walk_at "ad1b438b8"; walk_at "abe2830cc"; walk_at "ad25b13d2"; walk_at "ac0cc0477"; walk_at "afef05d44"; walk_at "afef05d44"; walk_at "a16f6b169")
    refine cx_Row_heads (by assumption) (by walk_at "pk") fun ph H15 ts hts s15 => ?_
    have htl : (ts.map V.ref).length ≤ 1000 := by rw [List.length_map]; exact hts
    (walk_at "a39154dd1"; walk_at "ae1f83bb8"; walk_at "ad15d6c32"; walk_at "afef05d44"; walk_at "ac0de799a"; walk_at "a29d25caa"; walk_at "acf1952ee"; walk_at "abe2830cc"; walk_at "ad25b13d2"; walk_at "ac0cc0477"; walk_at "afef05d44"; walk_at "afef05d44"; walk_at "a16f6b169")
    refine cx_Row_codes (by assumption) (by walk_at "pk") fun pc H17 xs s17 => ?_
    (walk_at "ab33a4331"; walk_at "a85c4f338"; walk_at "afaa010ed"; walk_at "ae1f83bb8"; walk_at "ad25b13d2"; walk_at "ae1f83bb8"; walk_at "ad15d6c32"; walk_at "ae1f83bb8"; walk_at "a33f2f4b5"; walk_at "ae1f83bb8"; walk_at "ad25b13d2"; walk_at "afef05d44"; walk_at "a6ebb81e6"; walk_at "ae1f83bb8"; walk_at "ad15d6c32"; walk_at "ae1f83bb8"; walk_at "afaa010ed"; walk_at "ae1f83bb8"; walk_at "ad25b13d2"; walk_at "afef05d44"; walk_at "a5a35570c"; walk_at "afef05d44"; walk_at "a5a35570c"; walk_at "a3d76496c"; walk_at "ae44f4543"; walk_at "a2c422e4c"; walk_at "a35e1d11b"; walk_at "a5ca36a29"; walk_at "acdbb3963"; walk_at "ae1f83bb8"; walk_at "ad25b13d2"; walk_at "ae1f83bb8"; walk_at "ad25b13d2"; walk_at "ae1f83bb8"; walk_at "ad25b13d2"; walk_at "afef05d44"; walk_at "ad286a858"; walk_at "a8a699a1b"; walk_at "ad25f38df"; walk_at "a5ca36a29"; walk_at "a33f2f4b5"; walk_at "ae1f83bb8"; walk_at "a2eb9ad30"; walk_at "a27ff4d3c"; walk_at "ad25b13d2"; walk_at "a4e297517")
    rename_i H18 s18 p1 H19 s19 p2 H20 s20 H21 s21
    have s22 : S [pts p2 (.lst [T l1, .non, .int (l1.length : Nat), .int 1, .ref p1]), pts p1 (.lst [.ref r1]), ARow C_Row r1 z.toNat l1, ASq K a (ns.map V.int)] H21 := by walk_at "sub"
    refine lcLS (ys := [V.bl false, .bl false, .bl false, .bl false, .bl false]) s22 (SqL.of (s22.at_ .head)) rfl (by decide) (fun H' s => SqL.of (s.at_ .head)) (fun D i2 x H22 hx s23 => ?_) (fun D H22 s23 => ?_)
    · have hel : Els H22 x := by
        have hi := (List.getElem?_eq_some_iff.mp hx).1
        have hi5 : i2 < 5 := hi
        rcases (by omega : i2 = 0 ∨ i2 = 1 ∨ i2 = 2 ∨ i2 = 3 ∨ i2 = 4) with rfl | rfl | rfl | rfl | rfl
        · cases hx; exact .str _
        · cases hx; exact .non
        · cases hx; exact .int _
        · cases hx; exact .int _
        · cases hx; exact .lst (s23.at_ (.tail (.tail .head)))
      have hy : ([V.bl false, .bl false, .bl false, .bl false, .bl false] : List V)[i2]? = some (.bl false) := by
        have hi := (List.getElem?_eq_some_iff.mp hx).1
        have hi5 : i2 < 5 := hi
        rcases (by omega : i2 = 0 ∨ i2 = 1 ∨ i2 = 2 ∨ i2 = 3 ∨ i2 = 4) with rfl | rfl | rfl | rfl | rfl <;> rfl
      refine ⟨rfl, ?_⟩
      (walk_at "a2c441c41"; walk_at "ad25b13d2"; walk_at "ad25b13d2")
      refine eqXE_ (by assumption) (by walk_at "pk") hel ?_
      refine cx_Row_eqE (by assumption) (by walk_at "pk") hel fun H23 s24 => ⟨_, rfl, ?_⟩
      exact put_S s24 .head .refl (by decide) hy
    · (walk_at "afef05d44")
      refine any_ (bs := [false, false, false, false, false]) (s23.at_ .head) ?_
      (walk_at "a8a699a1b")
      exact ⟨_, _, _, _, _, _, _, _, _, _, _, rfl, by walk_at "sub"⟩
  · rintro σ H1 ⟨v2, v3, v4, v5, v6, v7, v8, v9, v10, v11, v12, rfl, s1⟩
    have bn : Bits [] := fun c hc => nomatch hc
    (walk_at "ac39ddb8c"; walk_at "a4c4c815b"; walk_at "acdbb3963"; walk_at "ae1f83bb8"; walk_at "ab1ef576b"; walk_at "afef05d44"; walk_at "afef05d44"; walk_at "a11bd1e70"; walk_at "ae1f83bb8"; walk_at "ad15d6c32"; walk_at "ae1f83bb8"; walk_at "ad15d6c32"; walk_at "afef05d44"; walk_at "ad286a858"; walk_at "a5012d8eb"; walk_at "a2c441c41"; walk_at "a33f2f4b5"; walk_at "ae1f83bb8"; walk_at "ab1ef576b"; walk_at "afef05d44"; walk_at "afef05d44"; walk_at "a11bd1e70"; walk_at "afef05d44"; walk_at "a4af47245"; walk_at "a864961d0"; walk_at "ad25357b4"; walk_at "a79b2481a"; walk_at "ad15d6c32"; walk_at "ae5260597"; walk_at "a8f7cfc14")
    refine ret_tt ?_ (k _)
    unfold rowR
    have e : intL ((Int.toNat 16 : Nat) : Int) = [49, 54] := by unfold intL; decide +kernel
    rw [e]
    rfl
end
end
end My
namespace My
open PySem PySem.Spec PyProof.Rows L2 Z
theorem all_mk {w : World} {K : PySem.W.Frag} {h : Heap} {mg : Str → Option Value} {fa : Addr} (X : K.In h) (Gm : h.Ns mainGlobals mg) (hfa : mg "law" = some (.ref fa))
    {f_law_urn f_law_draw f_law_bits f_head_of f_code_plain f_figures_of f_number_code f_runs_of f_code_runs f_code_of f_Row_fill f_Row_count_bits f_NoBits_init f_look_bits f_Row_init f_Row_heads f_Row_codes f_Row_room f_law_whole f_law_head f_law_number_code f_law_runs f_law_codes f_law_code f_law_blocks_right f_Row_len f_NoCode_init f_read_plain f_read_number f_other_bit f_read_runs f_read_code f_Row_told f_Row_str f_Row_repr f_law_row_right f_law_wide f_Row_eq f_law_alike f_law C_Row C_NoBits C_NoCode C_CountError : Addr}
    {od_law_urn an_law_urn od_law_draw an_law_draw od_law_bits an_law_bits od_head_of an_head_of od_code_plain an_code_plain od_figures_of an_figures_of od_number_code an_number_code od_runs_of an_runs_of od_code_runs an_code_runs od_code_of an_code_of od_Row_fill an_Row_fill od_Row_count_bits an_Row_count_bits od_NoBits_init an_NoBits_init od_look_bits an_look_bits od_Row_init an_Row_init od_Row_heads an_Row_heads od_Row_codes an_Row_codes od_Row_room an_Row_room od_law_whole an_law_whole od_law_head an_law_head od_law_number_code an_law_number_code od_law_runs an_law_runs od_law_codes an_law_codes od_law_code an_law_code od_law_blocks_right an_law_blocks_right od_Row_len an_Row_len od_NoCode_init an_NoCode_init od_read_plain an_read_plain od_read_number an_read_number od_other_bit an_other_bit od_read_runs an_read_runs od_read_code an_read_code od_Row_told an_Row_told od_Row_str an_Row_str od_Row_repr an_Row_repr od_law_row_right an_law_row_right od_law_wide an_law_wide od_Row_eq an_Row_eq od_law_alike an_law_alike od_law an_law : Option Addr}
    {sl_law_urn sl_law_draw sl_law_bits sl_head_of sl_code_plain sl_figures_of sl_number_code sl_runs_of sl_code_runs sl_code_of sl_Row_fill sl_Row_count_bits sl_NoBits_init sl_look_bits sl_Row_init sl_Row_heads sl_Row_codes sl_Row_room sl_law_whole sl_law_head sl_law_number_code sl_law_runs sl_law_codes sl_law_code sl_law_blocks_right sl_Row_len sl_NoCode_init sl_read_plain sl_read_number sl_other_bit sl_read_runs sl_read_code sl_Row_told sl_Row_str sl_Row_repr sl_law_row_right sl_law_wide sl_Row_eq sl_law_alike sl_law : Array (Option Value)}
    {oc_law_urn dc_law_urn pm_law_urn cd_law_urn ct_law_urn oc_law_draw dc_law_draw pm_law_draw cd_law_draw ct_law_draw oc_law_bits dc_law_bits pm_law_bits cd_law_bits ct_law_bits oc_head_of dc_head_of pm_head_of cd_head_of ct_head_of oc_code_plain dc_code_plain pm_code_plain cd_code_plain ct_code_plain oc_figures_of dc_figures_of pm_figures_of cd_figures_of ct_figures_of oc_number_code dc_number_code pm_number_code cd_number_code ct_number_code oc_runs_of dc_runs_of pm_runs_of cd_runs_of ct_runs_of oc_code_runs dc_code_runs pm_code_runs cd_code_runs ct_code_runs oc_code_of dc_code_of pm_code_of cd_code_of ct_code_of oc_Row_fill dc_Row_fill pm_Row_fill cd_Row_fill ct_Row_fill oc_Row_count_bits dc_Row_count_bits pm_Row_count_bits cd_Row_count_bits ct_Row_count_bits oc_NoBits_init dc_NoBits_init pm_NoBits_init cd_NoBits_init ct_NoBits_init oc_look_bits dc_look_bits pm_look_bits cd_look_bits ct_look_bits oc_Row_init dc_Row_init pm_Row_init cd_Row_init ct_Row_init oc_Row_heads dc_Row_heads pm_Row_heads cd_Row_heads ct_Row_heads oc_Row_codes dc_Row_codes pm_Row_codes cd_Row_codes ct_Row_codes oc_Row_room dc_Row_room pm_Row_room cd_Row_room ct_Row_room oc_law_whole dc_law_whole pm_law_whole cd_law_whole ct_law_whole oc_law_head dc_law_head pm_law_head cd_law_head ct_law_head oc_law_number_code dc_law_number_code pm_law_number_code cd_law_number_code ct_law_number_code oc_law_runs dc_law_runs pm_law_runs cd_law_runs ct_law_runs oc_law_codes dc_law_codes pm_law_codes cd_law_codes ct_law_codes oc_law_code dc_law_code pm_law_code cd_law_code ct_law_code oc_law_blocks_right dc_law_blocks_right pm_law_blocks_right cd_law_blocks_right ct_law_blocks_right oc_Row_len dc_Row_len pm_Row_len cd_Row_len ct_Row_len oc_NoCode_init dc_NoCode_init pm_NoCode_init cd_NoCode_init ct_NoCode_init oc_read_plain dc_read_plain pm_read_plain cd_read_plain ct_read_plain oc_read_number dc_read_number pm_read_number cd_read_number ct_read_number oc_other_bit dc_other_bit pm_other_bit cd_other_bit ct_other_bit oc_read_runs dc_read_runs pm_read_runs cd_read_runs ct_read_runs oc_read_code dc_read_code pm_read_code cd_read_code ct_read_code oc_Row_told dc_Row_told pm_Row_told cd_Row_told ct_Row_told oc_Row_str dc_Row_str pm_Row_str cd_Row_str ct_Row_str oc_Row_repr dc_Row_repr pm_Row_repr cd_Row_repr ct_Row_repr oc_law_row_right dc_law_row_right pm_law_row_right cd_law_row_right ct_law_row_right oc_law_wide dc_law_wide pm_law_wide cd_law_wide ct_law_wide oc_Row_eq dc_Row_eq pm_Row_eq cd_Row_eq ct_Row_eq oc_law_alike dc_law_alike pm_law_alike cd_law_alike ct_law_alike oc_law dc_law pm_law cd_law ct_law kV_law_urn kV_law_draw kV_law_bits kV_head_of kV_code_plain kV_figures_of kV_number_code kV_runs_of kV_code_runs kV_code_of kV_Row_fill kV_Row_count_bits kV_NoBits_init kV_look_bits kV_Row_heads kV_Row_codes kV_Row_room kV_law_whole kV_law_head kV_law_number_code kV_law_runs kV_law_codes kV_law_code kV_law_blocks_right kV_Row_len kV_NoCode_init kV_read_plain kV_read_number kV_other_bit kV_read_runs kV_read_code kV_Row_told kV_Row_str kV_Row_repr kV_law_row_right kV_law_wide kV_Row_eq kV_law_alike kV_law : Value}
    {xn_NoBits xq_NoBits : Str} {xN_NoBits : Addr} {xb_NoBits : List Value} {xs_NoBits : List Str} {xu_NoBits : List Value} {xa_NoBits : Bool} {xc_NoBits : Option Bool} {xd_NoBits : Option Addr} {x0_NoBits x1_NoBits x2_NoBits x3_NoBits x5_NoBits : Option Value}
    {xn_NoCode xq_NoCode : Str} {xN_NoCode : Addr} {xb_NoCode : List Value} {xs_NoCode : List Str} {xu_NoCode : List Value} {xa_NoCode : Bool} {xc_NoCode : Option Bool} {xd_NoCode : Option Addr} {x0_NoCode x1_NoCode x2_NoCode x3_NoCode x5_NoCode : Option Value}
    {ci_Row : _}
    {dT_Row_init : Addr} {dc0_Row_init : Value} {dd_Row_init : Option Addr} {dn_Row_init : Nat} {ds_Row_init : Array (Option Value)}
    {kd_Row_init : Addr}
    {u_Row_init_bits : Value}
    {u_Row_init_size : Value}
    {d_READERS : Addr} {es_READERS : Array DictEntry} {m_READERS : Nat}
    (n_IndexError : PySem.W.nsIn K mainGlobals "IndexError" = some none)
    (n_abs : PySem.W.nsIn K mainGlobals "abs" = some none)
    (n_any : PySem.W.nsIn K mainGlobals "any" = some none)
    (n_bool : PySem.W.nsIn K mainGlobals "bool" = some none)
    (n_divmod : PySem.W.nsIn K mainGlobals "divmod" = some none)
    (n_enumerate : PySem.W.nsIn K mainGlobals "enumerate" = some none)
    (n_int : PySem.W.nsIn K mainGlobals "int" = some none)
    (n_isinstance : PySem.W.nsIn K mainGlobals "isinstance" = some none)
    (n_len : PySem.W.nsIn K mainGlobals "len" = some none)
    (n_list : PySem.W.nsIn K mainGlobals "list" = some none)
    (n_max : PySem.W.nsIn K mainGlobals "max" = some none)
    (n_min : PySem.W.nsIn K mainGlobals "min" = some none)
    (n_range : PySem.W.nsIn K mainGlobals "range" = some none)
    (n_repr : PySem.W.nsIn K mainGlobals "repr" = some none)
    (n_str : PySem.W.nsIn K mainGlobals "str" = some none)
    (n_sum : PySem.W.nsIn K mainGlobals "sum" = some none)
    (n_tuple : PySem.W.nsIn K mainGlobals "tuple" = some none)
    (n_zip : PySem.W.nsIn K mainGlobals "zip" = some none)
    (k_MOST_BITS_codes : ∃ t, mg "MOST_BITS_codes" = some (.int 64 t))
    (k_BITS : ∃ t, mg "BITS" = some (.str ⟨([48, 49] : List Nat).toArray⟩ t))
    (k_MOST_BITS_rows : ∃ t, mg "MOST_BITS_rows" = some (.int 1000 t))
    (k_SIZE : ∃ t, mg "SIZE" = some (.int 16 t))
    (a_Row : PySem.W.nsIn K mainGlobals "Row" = some (some (.ref C_Row)))
    (a_NoBits : PySem.W.nsIn K mainGlobals "NoBits" = some (some (.ref C_NoBits)))
    (a_NoCode : PySem.W.nsIn K mainGlobals "NoCode" = some (some (.ref C_NoCode)))
    (a_CountError : PySem.W.nsIn K mainGlobals "CountError" = some (some (.ref C_CountError)))
    (pg_Row : PySem.W.plainGet K C_Row Str.empty = true)
    (hd_Row : PySem.W.hasDictIn K C_Row = true)
    (po_Row : PySem.W.plainOver K C_Row = true)
    (sa_Row : PySem.W.findIn K (.ref C_Row) "__setattr__" = some (some (.builtin "object.__setattr__")))
    (no_Row_size : PySem.W.findIn K (.ref C_Row) "size" = some none)
    (no_Row_head_rows : PySem.W.findIn K (.ref C_Row) "head_rows" = some none)
    (no_Row_code_rows : PySem.W.findIn K (.ref C_Row) "code_rows" = some none)
    (no_Row_opens : PySem.W.findIn K (.ref C_Row) "opens" = some none)
    (no_Row_held_signs : PySem.W.findIn K (.ref C_Row) "held_signs" = some none)
    (mk_Row : PySem.W.makesIn K C_Row = true)
    (kc_Row : PySem.W.keepIn K (.ref C_Row) = true)
    (on1_Row : PySem.W.subIn K (.ref C_Row) (.type "NoneType") = some false)
    (oc1_Row : PySem.W.findIn K (.ref C_Row) "__bool__" = some none)
    (oc2_Row : PySem.W.findIn K (.ref C_Row) "__ne__" = some (some (.builtin "object.__ne__")))
    (oc3_Row : PySem.W.subIn K (.ref C_Row) (.type "object") = some true)
    (oc4_Row : PySem.W.findIn K (.ref C_Row) "__class__" = some (some (.builtin "object.__class__")))
    (oc5_Row : PySem.W.specialIn K (.builtin "object.__class__") "__get__" = some (some (.builtin "getset_descriptor.__get__")))
    (oc6_Row : PySem.W.takesIn K (.builtin "object.__class__") = some true)
    (oc7_Row : PySem.W.mroIn K C_Row (.type "object") = some true)
    (oc8_Row : PySem.W.clsIn K C_Row = some ci_Row)
    (oc9_Row : PySem.W.typeIn K (.ref C_Row) = some (.type "type"))
    (oc10_Row : PySem.W.subIn K (.type "str") (.ref C_Row) = some false)
    (oc11_Row : PySem.W.subIn K (.type "int") (.ref C_Row) = some false)
    (oc12_Row : PySem.W.subIn K (.type "bool") (.ref C_Row) = some false)
    (oc13_Row : PySem.W.subIn K (.type "list") (.ref C_Row) = some false)
    (oc14_Row : PySem.W.subIn K (.type "tuple") (.ref C_Row) = some false)
    (oc15_Row : PySem.W.subIn K (.type "NoneType") (.ref C_Row) = some false)
    (x_NoBits : K.lookup C_NoBits = some (excClassObj xn_NoBits xq_NoBits C_NoBits xN_NoBits xb_NoBits [.ref C_CountError, .type "ValueError", .type "Exception", .type "BaseException", .type "object"] true xs_NoBits xu_NoBits xa_NoBits xc_NoBits xd_NoBits x0_NoBits x1_NoBits x2_NoBits x3_NoBits x5_NoBits "ValueError.__new__"))
    (sa_NoBits : PySem.W.findIn K (.ref C_NoBits) "__setattr__" = some (some (.builtin "object.__setattr__")))
    (ex_NoBits : PySem.W.subIn K (.ref C_NoBits) (.type "BaseException") = some true)
    (ty_NoBits : PySem.W.typeIn K (.ref C_NoBits) = some (.type "type"))
    (kc_NoBits : PySem.W.keepIn K (.ref C_NoBits) = true)
    (no_NoBits : PySem.W.findIn K (.ref C_NoBits) "at" = some none)
    (x_NoCode : K.lookup C_NoCode = some (excClassObj xn_NoCode xq_NoCode C_NoCode xN_NoCode xb_NoCode [.ref C_CountError, .type "ValueError", .type "Exception", .type "BaseException", .type "object"] true xs_NoCode xu_NoCode xa_NoCode xc_NoCode xd_NoCode x0_NoCode x1_NoCode x2_NoCode x3_NoCode x5_NoCode "ValueError.__new__"))
    (sa_NoCode : PySem.W.findIn K (.ref C_NoCode) "__setattr__" = some (some (.builtin "object.__setattr__")))
    (ex_NoCode : PySem.W.subIn K (.ref C_NoCode) (.type "BaseException") = some true)
    (ty_NoCode : PySem.W.typeIn K (.ref C_NoCode) = some (.type "type"))
    (kc_NoCode : PySem.W.keepIn K (.ref C_NoCode) = true)
    (no_NoCode : PySem.W.findIn K (.ref C_NoCode) "at" = some none)
    (rd_CountError : PySem.W.readsIn K C_CountError (.type "type") = true)
    (ga_CountError : PySem.W.specialIn K (.ref C_CountError) "__getattribute__" = some (some (.builtin "type.__getattribute__")))
    (vV_CountError : PySem.W.findCls K (.ref C_CountError) (.type "type") "__init__" = some (.val (.builtin "ValueError.__init__")))
    (a_law_urn : PySem.W.nsIn K mainGlobals "_law_urn" = some (some (.ref f_law_urn)))
    (l_law_urn : K.lookup f_law_urn = some ⟨oc_law_urn, od_law_urn, .func (PySem.W.fnOf "_law_urn" "_law_urn" (defArgs st_law_urn) (defBody st_law_urn) (defScope st_law_urn) .none kV_law_urn dc_law_urn pm_law_urn an_law_urn cd_law_urn ct_law_urn), sl_law_urn⟩)
    (c_law_urn : PySem.W.codeIn K cd_law_urn "_law_urn" = true)
    (q_law_urn : PySem.W.keepIn K (.ref f_law_urn) = true)
    (a_law_draw : PySem.W.nsIn K mainGlobals "_law_draw" = some (some (.ref f_law_draw)))
    (l_law_draw : K.lookup f_law_draw = some ⟨oc_law_draw, od_law_draw, .func (PySem.W.fnOf "_law_draw" "_law_draw" (defArgs st_law_draw) (defBody st_law_draw) (defScope st_law_draw) .none kV_law_draw dc_law_draw pm_law_draw an_law_draw cd_law_draw ct_law_draw), sl_law_draw⟩)
    (c_law_draw : PySem.W.codeIn K cd_law_draw "_law_draw" = true)
    (q_law_draw : PySem.W.keepIn K (.ref f_law_draw) = true)
    (a_law_bits : PySem.W.nsIn K mainGlobals "_law_bits" = some (some (.ref f_law_bits)))
    (l_law_bits : K.lookup f_law_bits = some ⟨oc_law_bits, od_law_bits, .func (PySem.W.fnOf "_law_bits" "_law_bits" (defArgs st_law_bits) (defBody st_law_bits) (defScope st_law_bits) .none kV_law_bits dc_law_bits pm_law_bits an_law_bits cd_law_bits ct_law_bits), sl_law_bits⟩)
    (c_law_bits : PySem.W.codeIn K cd_law_bits "_law_bits" = true)
    (q_law_bits : PySem.W.keepIn K (.ref f_law_bits) = true)
    (a_head_of : PySem.W.nsIn K mainGlobals "head_of" = some (some (.ref f_head_of)))
    (l_head_of : K.lookup f_head_of = some ⟨oc_head_of, od_head_of, .func (PySem.W.fnOf "head_of" "head_of" (defArgs st_head_of) (defBody st_head_of) (defScope st_head_of) .none kV_head_of dc_head_of pm_head_of an_head_of cd_head_of ct_head_of), sl_head_of⟩)
    (c_head_of : PySem.W.codeIn K cd_head_of "head_of" = true)
    (q_head_of : PySem.W.keepIn K (.ref f_head_of) = true)
    (a_code_plain : PySem.W.nsIn K mainGlobals "code_plain" = some (some (.ref f_code_plain)))
    (l_code_plain : K.lookup f_code_plain = some ⟨oc_code_plain, od_code_plain, .func (PySem.W.fnOf "code_plain" "code_plain" (defArgs st_code_plain) (defBody st_code_plain) (defScope st_code_plain) .none kV_code_plain dc_code_plain pm_code_plain an_code_plain cd_code_plain ct_code_plain), sl_code_plain⟩)
    (c_code_plain : PySem.W.codeIn K cd_code_plain "code_plain" = true)
    (q_code_plain : PySem.W.keepIn K (.ref f_code_plain) = true)
    (a_figures_of : PySem.W.nsIn K mainGlobals "figures_of" = some (some (.ref f_figures_of)))
    (l_figures_of : K.lookup f_figures_of = some ⟨oc_figures_of, od_figures_of, .func (PySem.W.fnOf "figures_of" "figures_of" (defArgs st_figures_of) (defBody st_figures_of) (defScope st_figures_of) .none kV_figures_of dc_figures_of pm_figures_of an_figures_of cd_figures_of ct_figures_of), sl_figures_of⟩)
    (c_figures_of : PySem.W.codeIn K cd_figures_of "figures_of" = true)
    (q_figures_of : PySem.W.keepIn K (.ref f_figures_of) = true)
    (a_number_code : PySem.W.nsIn K mainGlobals "number_code" = some (some (.ref f_number_code)))
    (l_number_code : K.lookup f_number_code = some ⟨oc_number_code, od_number_code, .func (PySem.W.fnOf "number_code" "number_code" (defArgs st_number_code) (defBody st_number_code) (defScope st_number_code) .none kV_number_code dc_number_code pm_number_code an_number_code cd_number_code ct_number_code), sl_number_code⟩)
    (c_number_code : PySem.W.codeIn K cd_number_code "number_code" = true)
    (q_number_code : PySem.W.keepIn K (.ref f_number_code) = true)
    (a_runs_of : PySem.W.nsIn K mainGlobals "runs_of" = some (some (.ref f_runs_of)))
    (l_runs_of : K.lookup f_runs_of = some ⟨oc_runs_of, od_runs_of, .func (PySem.W.fnOf "runs_of" "runs_of" (defArgs st_runs_of) (defBody st_runs_of) (defScope st_runs_of) .none kV_runs_of dc_runs_of pm_runs_of an_runs_of cd_runs_of ct_runs_of), sl_runs_of⟩)
    (c_runs_of : PySem.W.codeIn K cd_runs_of "runs_of" = true)
    (q_runs_of : PySem.W.keepIn K (.ref f_runs_of) = true)
    (a_code_runs : PySem.W.nsIn K mainGlobals "code_runs" = some (some (.ref f_code_runs)))
    (l_code_runs : K.lookup f_code_runs = some ⟨oc_code_runs, od_code_runs, .func (PySem.W.fnOf "code_runs" "code_runs" (defArgs st_code_runs) (defBody st_code_runs) (defScope st_code_runs) .none kV_code_runs dc_code_runs pm_code_runs an_code_runs cd_code_runs ct_code_runs), sl_code_runs⟩)
    (c_code_runs : PySem.W.codeIn K cd_code_runs "code_runs" = true)
    (q_code_runs : PySem.W.keepIn K (.ref f_code_runs) = true)
    (a_code_of : PySem.W.nsIn K mainGlobals "code_of" = some (some (.ref f_code_of)))
    (l_code_of : K.lookup f_code_of = some ⟨oc_code_of, od_code_of, .func (PySem.W.fnOf "code_of" "code_of" (defArgs st_code_of) (defBody st_code_of) (defScope st_code_of) .none kV_code_of dc_code_of pm_code_of an_code_of cd_code_of ct_code_of), sl_code_of⟩)
    (c_code_of : PySem.W.codeIn K cd_code_of "code_of" = true)
    (q_code_of : PySem.W.keepIn K (.ref f_code_of) = true)
    (a_Row_fill : PySem.W.findIn K (.ref C_Row) "fill" = some (some (.ref f_Row_fill)))
    (fi_Row_fill : PySem.W.isFn K (.ref f_Row_fill) = true)
    (l_Row_fill : K.lookup f_Row_fill = some ⟨oc_Row_fill, od_Row_fill, .func (PySem.W.fnOf "fill" "Row.fill" (defArgs st_Row_fill) (defBody st_Row_fill) (defScope st_Row_fill) .none kV_Row_fill dc_Row_fill pm_Row_fill an_Row_fill cd_Row_fill ct_Row_fill), sl_Row_fill⟩)
    (c_Row_fill : PySem.W.codeIn K cd_Row_fill "Row.fill" = true)
    (q_Row_fill : PySem.W.keepIn K (.ref f_Row_fill) = true)
    (a_Row_count_bits : PySem.W.findIn K (.ref C_Row) "count_bits" = some (some (.ref f_Row_count_bits)))
    (fi_Row_count_bits : PySem.W.isFn K (.ref f_Row_count_bits) = true)
    (l_Row_count_bits : K.lookup f_Row_count_bits = some ⟨oc_Row_count_bits, od_Row_count_bits, .func (PySem.W.fnOf "count_bits" "Row.count_bits" (defArgs st_Row_count_bits) (defBody st_Row_count_bits) (defScope st_Row_count_bits) .none kV_Row_count_bits dc_Row_count_bits pm_Row_count_bits an_Row_count_bits cd_Row_count_bits ct_Row_count_bits), sl_Row_count_bits⟩)
    (c_Row_count_bits : PySem.W.codeIn K cd_Row_count_bits "Row.count_bits" = true)
    (q_Row_count_bits : PySem.W.keepIn K (.ref f_Row_count_bits) = true)
    (a_NoBits_init : PySem.W.findIn K (.ref C_NoBits) "__init__" = some (some (.ref f_NoBits_init)))
    (fi_NoBits_init : PySem.W.typeIn K (.ref f_NoBits_init) = some (.type "function"))
    (l_NoBits_init : K.lookup f_NoBits_init = some ⟨oc_NoBits_init, od_NoBits_init, .func (PySem.W.fnOf "__init__" "NoBits.__init__" (defArgs st_NoBits_init) (defBody st_NoBits_init) (defScope st_NoBits_init) .none kV_NoBits_init dc_NoBits_init pm_NoBits_init an_NoBits_init cd_NoBits_init ct_NoBits_init), sl_NoBits_init⟩)
    (c_NoBits_init : PySem.W.codeIn K cd_NoBits_init "NoBits.__init__" = true)
    (q_NoBits_init : PySem.W.keepIn K (.ref f_NoBits_init) = true)
    (a_look_bits : PySem.W.nsIn K mainGlobals "look_bits" = some (some (.ref f_look_bits)))
    (l_look_bits : K.lookup f_look_bits = some ⟨oc_look_bits, od_look_bits, .func (PySem.W.fnOf "look_bits" "look_bits" (defArgs st_look_bits) (defBody st_look_bits) (defScope st_look_bits) .none kV_look_bits dc_look_bits pm_look_bits an_look_bits cd_look_bits ct_look_bits), sl_look_bits⟩)
    (c_look_bits : PySem.W.codeIn K cd_look_bits "look_bits" = true)
    (q_look_bits : PySem.W.keepIn K (.ref f_look_bits) = true)
    (a_Row_init : PySem.W.findIn K (.ref C_Row) "__init__" = some (some (.ref f_Row_init)))
    (fi_Row_init : PySem.W.isFn K (.ref f_Row_init) = true)
    (l_Row_init : K.lookup f_Row_init = some ⟨oc_Row_init, od_Row_init, .func (PySem.W.fnOf "__init__" "Row.__init__" (defArgs st_Row_init) (defBody st_Row_init) (defScope st_Row_init) (.ref dT_Row_init) (.ref kd_Row_init) dc_Row_init pm_Row_init an_Row_init cd_Row_init ct_Row_init), sl_Row_init⟩)
    (c_Row_init : PySem.W.codeIn K cd_Row_init "Row.__init__" = true)
    (q_Row_init : PySem.W.keepIn K (.ref f_Row_init) = true)
    (t_Row_init : K.lookup dT_Row_init = some ⟨dc0_Row_init, dd_Row_init, .seq (#[u_Row_init_bits] : Array Value) dn_Row_init, ds_Row_init⟩)
    (kw_Row_init_size : PySem.W.nsIn K kd_Row_init "size" = some (some u_Row_init_size))
    (rv_Row_init_bits : RelV (T []) u_Row_init_bits)
    (rv_Row_init_size : RelV (.int 16) u_Row_init_size)
    (a_Row_heads : PySem.W.findIn K (.ref C_Row) "heads" = some (some (.ref f_Row_heads)))
    (fi_Row_heads : PySem.W.isFn K (.ref f_Row_heads) = true)
    (l_Row_heads : K.lookup f_Row_heads = some ⟨oc_Row_heads, od_Row_heads, .func (PySem.W.fnOf "heads" "Row.heads" (defArgs st_Row_heads) (defBody st_Row_heads) (defScope st_Row_heads) .none kV_Row_heads dc_Row_heads pm_Row_heads an_Row_heads cd_Row_heads ct_Row_heads), sl_Row_heads⟩)
    (c_Row_heads : PySem.W.codeIn K cd_Row_heads "Row.heads" = true)
    (q_Row_heads : PySem.W.keepIn K (.ref f_Row_heads) = true)
    (a_Row_codes : PySem.W.findIn K (.ref C_Row) "codes" = some (some (.ref f_Row_codes)))
    (fi_Row_codes : PySem.W.isFn K (.ref f_Row_codes) = true)
    (l_Row_codes : K.lookup f_Row_codes = some ⟨oc_Row_codes, od_Row_codes, .func (PySem.W.fnOf "codes" "Row.codes" (defArgs st_Row_codes) (defBody st_Row_codes) (defScope st_Row_codes) .none kV_Row_codes dc_Row_codes pm_Row_codes an_Row_codes cd_Row_codes ct_Row_codes), sl_Row_codes⟩)
    (c_Row_codes : PySem.W.codeIn K cd_Row_codes "Row.codes" = true)
    (q_Row_codes : PySem.W.keepIn K (.ref f_Row_codes) = true)
    (a_Row_room : PySem.W.findIn K (.ref C_Row) "room" = some (some (.ref f_Row_room)))
    (fi_Row_room : PySem.W.isFn K (.ref f_Row_room) = true)
    (l_Row_room : K.lookup f_Row_room = some ⟨oc_Row_room, od_Row_room, .func (PySem.W.fnOf "room" "Row.room" (defArgs st_Row_room) (defBody st_Row_room) (defScope st_Row_room) .none kV_Row_room dc_Row_room pm_Row_room an_Row_room cd_Row_room ct_Row_room), sl_Row_room⟩)
    (c_Row_room : PySem.W.codeIn K cd_Row_room "Row.room" = true)
    (q_Row_room : PySem.W.keepIn K (.ref f_Row_room) = true)
    (a_law_whole : PySem.W.nsIn K mainGlobals "_law_whole" = some (some (.ref f_law_whole)))
    (l_law_whole : K.lookup f_law_whole = some ⟨oc_law_whole, od_law_whole, .func (PySem.W.fnOf "_law_whole" "_law_whole" (defArgs st_law_whole) (defBody st_law_whole) (defScope st_law_whole) .none kV_law_whole dc_law_whole pm_law_whole an_law_whole cd_law_whole ct_law_whole), sl_law_whole⟩)
    (c_law_whole : PySem.W.codeIn K cd_law_whole "_law_whole" = true)
    (q_law_whole : PySem.W.keepIn K (.ref f_law_whole) = true)
    (a_law_head : PySem.W.nsIn K mainGlobals "_law_head" = some (some (.ref f_law_head)))
    (l_law_head : K.lookup f_law_head = some ⟨oc_law_head, od_law_head, .func (PySem.W.fnOf "_law_head" "_law_head" (defArgs st_law_head) (defBody st_law_head) (defScope st_law_head) .none kV_law_head dc_law_head pm_law_head an_law_head cd_law_head ct_law_head), sl_law_head⟩)
    (c_law_head : PySem.W.codeIn K cd_law_head "_law_head" = true)
    (q_law_head : PySem.W.keepIn K (.ref f_law_head) = true)
    (a_law_number_code : PySem.W.nsIn K mainGlobals "_law_number_code" = some (some (.ref f_law_number_code)))
    (l_law_number_code : K.lookup f_law_number_code = some ⟨oc_law_number_code, od_law_number_code, .func (PySem.W.fnOf "_law_number_code" "_law_number_code" (defArgs st_law_number_code) (defBody st_law_number_code) (defScope st_law_number_code) .none kV_law_number_code dc_law_number_code pm_law_number_code an_law_number_code cd_law_number_code ct_law_number_code), sl_law_number_code⟩)
    (c_law_number_code : PySem.W.codeIn K cd_law_number_code "_law_number_code" = true)
    (q_law_number_code : PySem.W.keepIn K (.ref f_law_number_code) = true)
    (a_law_runs : PySem.W.nsIn K mainGlobals "_law_runs" = some (some (.ref f_law_runs)))
    (l_law_runs : K.lookup f_law_runs = some ⟨oc_law_runs, od_law_runs, .func (PySem.W.fnOf "_law_runs" "_law_runs" (defArgs st_law_runs) (defBody st_law_runs) (defScope st_law_runs) .none kV_law_runs dc_law_runs pm_law_runs an_law_runs cd_law_runs ct_law_runs), sl_law_runs⟩)
    (c_law_runs : PySem.W.codeIn K cd_law_runs "_law_runs" = true)
    (q_law_runs : PySem.W.keepIn K (.ref f_law_runs) = true)
    (a_law_codes : PySem.W.nsIn K mainGlobals "_law_codes" = some (some (.ref f_law_codes)))
    (l_law_codes : K.lookup f_law_codes = some ⟨oc_law_codes, od_law_codes, .func (PySem.W.fnOf "_law_codes" "_law_codes" (defArgs st_law_codes) (defBody st_law_codes) (defScope st_law_codes) .none kV_law_codes dc_law_codes pm_law_codes an_law_codes cd_law_codes ct_law_codes), sl_law_codes⟩)
    (c_law_codes : PySem.W.codeIn K cd_law_codes "_law_codes" = true)
    (q_law_codes : PySem.W.keepIn K (.ref f_law_codes) = true)
    (a_law_code : PySem.W.nsIn K mainGlobals "_law_code" = some (some (.ref f_law_code)))
    (l_law_code : K.lookup f_law_code = some ⟨oc_law_code, od_law_code, .func (PySem.W.fnOf "_law_code" "_law_code" (defArgs st_law_code) (defBody st_law_code) (defScope st_law_code) .none kV_law_code dc_law_code pm_law_code an_law_code cd_law_code ct_law_code), sl_law_code⟩)
    (c_law_code : PySem.W.codeIn K cd_law_code "_law_code" = true)
    (q_law_code : PySem.W.keepIn K (.ref f_law_code) = true)
    (a_law_blocks_right : PySem.W.nsIn K mainGlobals "_law_blocks_right" = some (some (.ref f_law_blocks_right)))
    (l_law_blocks_right : K.lookup f_law_blocks_right = some ⟨oc_law_blocks_right, od_law_blocks_right, .func (PySem.W.fnOf "_law_blocks_right" "_law_blocks_right" (defArgs st_law_blocks_right) (defBody st_law_blocks_right) (defScope st_law_blocks_right) .none kV_law_blocks_right dc_law_blocks_right pm_law_blocks_right an_law_blocks_right cd_law_blocks_right ct_law_blocks_right), sl_law_blocks_right⟩)
    (c_law_blocks_right : PySem.W.codeIn K cd_law_blocks_right "_law_blocks_right" = true)
    (q_law_blocks_right : PySem.W.keepIn K (.ref f_law_blocks_right) = true)
    (a_Row_len : PySem.W.findIn K (.ref C_Row) "__len__" = some (some (.ref f_Row_len)))
    (fi_Row_len : PySem.W.isFn K (.ref f_Row_len) = true)
    (l_Row_len : K.lookup f_Row_len = some ⟨oc_Row_len, od_Row_len, .func (PySem.W.fnOf "__len__" "Row.__len__" (defArgs st_Row_len) (defBody st_Row_len) (defScope st_Row_len) .none kV_Row_len dc_Row_len pm_Row_len an_Row_len cd_Row_len ct_Row_len), sl_Row_len⟩)
    (c_Row_len : PySem.W.codeIn K cd_Row_len "Row.__len__" = true)
    (q_Row_len : PySem.W.keepIn K (.ref f_Row_len) = true)
    (a_NoCode_init : PySem.W.findIn K (.ref C_NoCode) "__init__" = some (some (.ref f_NoCode_init)))
    (fi_NoCode_init : PySem.W.typeIn K (.ref f_NoCode_init) = some (.type "function"))
    (l_NoCode_init : K.lookup f_NoCode_init = some ⟨oc_NoCode_init, od_NoCode_init, .func (PySem.W.fnOf "__init__" "NoCode.__init__" (defArgs st_NoCode_init) (defBody st_NoCode_init) (defScope st_NoCode_init) .none kV_NoCode_init dc_NoCode_init pm_NoCode_init an_NoCode_init cd_NoCode_init ct_NoCode_init), sl_NoCode_init⟩)
    (c_NoCode_init : PySem.W.codeIn K cd_NoCode_init "NoCode.__init__" = true)
    (q_NoCode_init : PySem.W.keepIn K (.ref f_NoCode_init) = true)
    (a_read_plain : PySem.W.nsIn K mainGlobals "read_plain" = some (some (.ref f_read_plain)))
    (l_read_plain : K.lookup f_read_plain = some ⟨oc_read_plain, od_read_plain, .func (PySem.W.fnOf "read_plain" "read_plain" (defArgs st_read_plain) (defBody st_read_plain) (defScope st_read_plain) .none kV_read_plain dc_read_plain pm_read_plain an_read_plain cd_read_plain ct_read_plain), sl_read_plain⟩)
    (c_read_plain : PySem.W.codeIn K cd_read_plain "read_plain" = true)
    (q_read_plain : PySem.W.keepIn K (.ref f_read_plain) = true)
    (a_read_number : PySem.W.nsIn K mainGlobals "read_number" = some (some (.ref f_read_number)))
    (l_read_number : K.lookup f_read_number = some ⟨oc_read_number, od_read_number, .func (PySem.W.fnOf "read_number" "read_number" (defArgs st_read_number) (defBody st_read_number) (defScope st_read_number) .none kV_read_number dc_read_number pm_read_number an_read_number cd_read_number ct_read_number), sl_read_number⟩)
    (c_read_number : PySem.W.codeIn K cd_read_number "read_number" = true)
    (q_read_number : PySem.W.keepIn K (.ref f_read_number) = true)
    (a_other_bit : PySem.W.nsIn K mainGlobals "other_bit" = some (some (.ref f_other_bit)))
    (l_other_bit : K.lookup f_other_bit = some ⟨oc_other_bit, od_other_bit, .func (PySem.W.fnOf "other_bit" "other_bit" (defArgs st_other_bit) (defBody st_other_bit) (defScope st_other_bit) .none kV_other_bit dc_other_bit pm_other_bit an_other_bit cd_other_bit ct_other_bit), sl_other_bit⟩)
    (c_other_bit : PySem.W.codeIn K cd_other_bit "other_bit" = true)
    (q_other_bit : PySem.W.keepIn K (.ref f_other_bit) = true)
    (a_read_runs : PySem.W.nsIn K mainGlobals "read_runs" = some (some (.ref f_read_runs)))
    (l_read_runs : K.lookup f_read_runs = some ⟨oc_read_runs, od_read_runs, .func (PySem.W.fnOf "read_runs" "read_runs" (defArgs st_read_runs) (defBody st_read_runs) (defScope st_read_runs) .none kV_read_runs dc_read_runs pm_read_runs an_read_runs cd_read_runs ct_read_runs), sl_read_runs⟩)
    (c_read_runs : PySem.W.codeIn K cd_read_runs "read_runs" = true)
    (q_read_runs : PySem.W.keepIn K (.ref f_read_runs) = true)
    (a_read_code : PySem.W.nsIn K mainGlobals "read_code" = some (some (.ref f_read_code)))
    (l_read_code : K.lookup f_read_code = some ⟨oc_read_code, od_read_code, .func (PySem.W.fnOf "read_code" "read_code" (defArgs st_read_code) (defBody st_read_code) (defScope st_read_code) .none kV_read_code dc_read_code pm_read_code an_read_code cd_read_code ct_read_code), sl_read_code⟩)
    (c_read_code : PySem.W.codeIn K cd_read_code "read_code" = true)
    (q_read_code : PySem.W.keepIn K (.ref f_read_code) = true)
    (a_Row_told : PySem.W.findIn K (.ref C_Row) "told" = some (some (.ref f_Row_told)))
    (fi_Row_told : PySem.W.isFn K (.ref f_Row_told) = true)
    (l_Row_told : K.lookup f_Row_told = some ⟨oc_Row_told, od_Row_told, .func (PySem.W.fnOf "told" "Row.told" (defArgs st_Row_told) (defBody st_Row_told) (defScope st_Row_told) .none kV_Row_told dc_Row_told pm_Row_told an_Row_told cd_Row_told ct_Row_told), sl_Row_told⟩)
    (c_Row_told : PySem.W.codeIn K cd_Row_told "Row.told" = true)
    (q_Row_told : PySem.W.keepIn K (.ref f_Row_told) = true)
    (a_Row_str : PySem.W.findIn K (.ref C_Row) "__str__" = some (some (.ref f_Row_str)))
    (fi_Row_str : PySem.W.isFn K (.ref f_Row_str) = true)
    (l_Row_str : K.lookup f_Row_str = some ⟨oc_Row_str, od_Row_str, .func (PySem.W.fnOf "__str__" "Row.__str__" (defArgs st_Row_str) (defBody st_Row_str) (defScope st_Row_str) .none kV_Row_str dc_Row_str pm_Row_str an_Row_str cd_Row_str ct_Row_str), sl_Row_str⟩)
    (c_Row_str : PySem.W.codeIn K cd_Row_str "Row.__str__" = true)
    (q_Row_str : PySem.W.keepIn K (.ref f_Row_str) = true)
    (a_Row_repr : PySem.W.findIn K (.ref C_Row) "__repr__" = some (some (.ref f_Row_repr)))
    (fi_Row_repr : PySem.W.isFn K (.ref f_Row_repr) = true)
    (l_Row_repr : K.lookup f_Row_repr = some ⟨oc_Row_repr, od_Row_repr, .func (PySem.W.fnOf "__repr__" "Row.__repr__" (defArgs st_Row_repr) (defBody st_Row_repr) (defScope st_Row_repr) .none kV_Row_repr dc_Row_repr pm_Row_repr an_Row_repr cd_Row_repr ct_Row_repr), sl_Row_repr⟩)
    (c_Row_repr : PySem.W.codeIn K cd_Row_repr "Row.__repr__" = true)
    (q_Row_repr : PySem.W.keepIn K (.ref f_Row_repr) = true)
    (a_law_row_right : PySem.W.nsIn K mainGlobals "_law_row_right" = some (some (.ref f_law_row_right)))
    (l_law_row_right : K.lookup f_law_row_right = some ⟨oc_law_row_right, od_law_row_right, .func (PySem.W.fnOf "_law_row_right" "_law_row_right" (defArgs st_law_row_right) (defBody st_law_row_right) (defScope st_law_row_right) .none kV_law_row_right dc_law_row_right pm_law_row_right an_law_row_right cd_law_row_right ct_law_row_right), sl_law_row_right⟩)
    (c_law_row_right : PySem.W.codeIn K cd_law_row_right "_law_row_right" = true)
    (q_law_row_right : PySem.W.keepIn K (.ref f_law_row_right) = true)
    (a_law_wide : PySem.W.nsIn K mainGlobals "_law_wide" = some (some (.ref f_law_wide)))
    (l_law_wide : K.lookup f_law_wide = some ⟨oc_law_wide, od_law_wide, .func (PySem.W.fnOf "_law_wide" "_law_wide" (defArgs st_law_wide) (defBody st_law_wide) (defScope st_law_wide) .none kV_law_wide dc_law_wide pm_law_wide an_law_wide cd_law_wide ct_law_wide), sl_law_wide⟩)
    (c_law_wide : PySem.W.codeIn K cd_law_wide "_law_wide" = true)
    (q_law_wide : PySem.W.keepIn K (.ref f_law_wide) = true)
    (a_Row_eq : PySem.W.findIn K (.ref C_Row) "__eq__" = some (some (.ref f_Row_eq)))
    (fi_Row_eq : PySem.W.isFn K (.ref f_Row_eq) = true)
    (l_Row_eq : K.lookup f_Row_eq = some ⟨oc_Row_eq, od_Row_eq, .func (PySem.W.fnOf "__eq__" "Row.__eq__" (defArgs st_Row_eq) (defBody st_Row_eq) (defScope st_Row_eq) .none kV_Row_eq dc_Row_eq pm_Row_eq an_Row_eq cd_Row_eq ct_Row_eq), sl_Row_eq⟩)
    (c_Row_eq : PySem.W.codeIn K cd_Row_eq "Row.__eq__" = true)
    (q_Row_eq : PySem.W.keepIn K (.ref f_Row_eq) = true)
    (a_law_alike : PySem.W.nsIn K mainGlobals "_law_alike" = some (some (.ref f_law_alike)))
    (l_law_alike : K.lookup f_law_alike = some ⟨oc_law_alike, od_law_alike, .func (PySem.W.fnOf "_law_alike" "_law_alike" (defArgs st_law_alike) (defBody st_law_alike) (defScope st_law_alike) .none kV_law_alike dc_law_alike pm_law_alike an_law_alike cd_law_alike ct_law_alike), sl_law_alike⟩)
    (c_law_alike : PySem.W.codeIn K cd_law_alike "_law_alike" = true)
    (q_law_alike : PySem.W.keepIn K (.ref f_law_alike) = true)
    (a_law : PySem.W.nsIn K mainGlobals "law" = some (some (.ref f_law)))
    (l_law : K.lookup f_law = some ⟨oc_law, od_law, .func (PySem.W.fnOf "law" "law" (defArgs st_law) (defBody st_law) (defScope st_law) .none kV_law dc_law pm_law an_law cd_law ct_law), sl_law⟩)
    (c_law : PySem.W.codeIn K cd_law "law" = true)
    (q_law : PySem.W.keepIn K (.ref f_law) = true)
    (r1 : PySem.W.nsIn K mainGlobals "READERS" = some (some (.ref d_READERS)))
    (r2 : K.lookup d_READERS = some ⟨.type "dict", none, .dict es_READERS m_READERS, #[]⟩)
    (r3 : PySem.W.KeysLit w.params es_READERS.toList)
    (r4 : (d_READERS == sysModules) = false)
    (r5 : PySem.W.nsIn K d_READERS "p" = some (some (.ref f_read_plain)))
    (r6 : PySem.W.nsIn K d_READERS "r" = some (some (.ref f_read_runs)))
    : ∃ fd : FuncData, (∀ (s : Shared) (v : Value), BindsTo s fd ⟨[v], []⟩ [("_law_script", v)]) ∧ ∀ base : Heap, K.In base → base.Ns mainGlobals mg → FnG PySem.Challenge.rw_countedbits_k06_rows_made.prog w K mg base 13 fa fd ["_law_script"] (sp_law K) := by
  have e := hfa.symm.trans (PySem.W.mg_of X Gm a_law)
  cases e
  have gg : G mg := ⟨PySem.W.mg_none_of X Gm n_IndexError, PySem.W.mg_none_of X Gm n_abs, PySem.W.mg_none_of X Gm n_any, PySem.W.mg_none_of X Gm n_bool, PySem.W.mg_none_of X Gm n_divmod, PySem.W.mg_none_of X Gm n_enumerate, PySem.W.mg_none_of X Gm n_int, PySem.W.mg_none_of X Gm n_isinstance, PySem.W.mg_none_of X Gm n_len, PySem.W.mg_none_of X Gm n_list, PySem.W.mg_none_of X Gm n_max, PySem.W.mg_none_of X Gm n_min, PySem.W.mg_none_of X Gm n_range, PySem.W.mg_none_of X Gm n_repr, PySem.W.mg_none_of X Gm n_str, PySem.W.mg_none_of X Gm n_sum, PySem.W.mg_none_of X Gm n_tuple, PySem.W.mg_none_of X Gm n_zip, k_MOST_BITS_codes, k_BITS, k_MOST_BITS_rows, k_SIZE⟩
  have gl_Row : mg "Row" = some (.ref C_Row) := PySem.W.mg_of X Gm a_Row
  have gl_NoBits : mg "NoBits" = some (.ref C_NoBits) := PySem.W.mg_of X Gm a_NoBits
  have gl_NoCode : mg "NoCode" = some (.ref C_NoCode) := PySem.W.mg_of X Gm a_NoCode
  have gl_CountError : mg "CountError" = some (.ref C_CountError) := PySem.W.mg_of X Gm a_CountError
  have cl_Row : Cls K C_Row := ⟨pg_Row, hd_Row, po_Row, sa_Row⟩
  have fc_Row : FC_Row K C_Row := ⟨cl_Row, no_Row_size, no_Row_head_rows, no_Row_code_rows, no_Row_opens, no_Row_held_signs⟩
  have oc_Row : OwnC K C_Row := ⟨oc1_Row, oc2_Row, oc3_Row, oc4_Row, oc5_Row, oc6_Row, oc7_Row, ⟨_, oc8_Row⟩, oc9_Row, oc10_Row, oc11_Row, oc12_Row, oc13_Row, oc14_Row, oc15_Row⟩
  have on_Row : OwnN K C_Row := ⟨on1_Row⟩
  have TE_NoBits : ErrC K C_NoBits "ValueError.__new__" "ValueError.__init__" := ⟨⟨_, _, _, _, _, [C_CountError], _, _, _, _, _, _, _, _, _, _, tail_ValueError, x_NoBits⟩, sa_NoBits, ex_NoBits, ty_NoBits, kc_NoBits⟩
  have TE_NoCode : ErrC K C_NoCode "ValueError.__new__" "ValueError.__init__" := ⟨⟨_, _, _, _, _, [C_CountError], _, _, _, _, _, _, _, _, _, _, tail_ValueError, x_NoCode⟩, sa_NoCode, ex_NoCode, ty_NoCode, kc_NoCode⟩
  have F_law_urn : Txt K "_law_urn" "_law_urn" (defArgs st_law_urn) (defBody st_law_urn) (defScope st_law_urn) .none kV_law_urn f_law_urn _ := ⟨⟨_, _, _, _, _, _, _, _, rfl, l_law_urn, c_law_urn⟩, q_law_urn⟩
  have F_law_draw : Txt K "_law_draw" "_law_draw" (defArgs st_law_draw) (defBody st_law_draw) (defScope st_law_draw) .none kV_law_draw f_law_draw _ := ⟨⟨_, _, _, _, _, _, _, _, rfl, l_law_draw, c_law_draw⟩, q_law_draw⟩
  have F_law_bits : Txt K "_law_bits" "_law_bits" (defArgs st_law_bits) (defBody st_law_bits) (defScope st_law_bits) .none kV_law_bits f_law_bits _ := ⟨⟨_, _, _, _, _, _, _, _, rfl, l_law_bits, c_law_bits⟩, q_law_bits⟩
  have F_head_of : Txt K "head_of" "head_of" (defArgs st_head_of) (defBody st_head_of) (defScope st_head_of) .none kV_head_of f_head_of _ := ⟨⟨_, _, _, _, _, _, _, _, rfl, l_head_of, c_head_of⟩, q_head_of⟩
  have F_code_plain : Txt K "code_plain" "code_plain" (defArgs st_code_plain) (defBody st_code_plain) (defScope st_code_plain) .none kV_code_plain f_code_plain _ := ⟨⟨_, _, _, _, _, _, _, _, rfl, l_code_plain, c_code_plain⟩, q_code_plain⟩
  have F_figures_of : Txt K "figures_of" "figures_of" (defArgs st_figures_of) (defBody st_figures_of) (defScope st_figures_of) .none kV_figures_of f_figures_of _ := ⟨⟨_, _, _, _, _, _, _, _, rfl, l_figures_of, c_figures_of⟩, q_figures_of⟩
  have F_number_code : Txt K "number_code" "number_code" (defArgs st_number_code) (defBody st_number_code) (defScope st_number_code) .none kV_number_code f_number_code _ := ⟨⟨_, _, _, _, _, _, _, _, rfl, l_number_code, c_number_code⟩, q_number_code⟩
  have F_runs_of : Txt K "runs_of" "runs_of" (defArgs st_runs_of) (defBody st_runs_of) (defScope st_runs_of) .none kV_runs_of f_runs_of _ := ⟨⟨_, _, _, _, _, _, _, _, rfl, l_runs_of, c_runs_of⟩, q_runs_of⟩
  have F_code_runs : Txt K "code_runs" "code_runs" (defArgs st_code_runs) (defBody st_code_runs) (defScope st_code_runs) .none kV_code_runs f_code_runs _ := ⟨⟨_, _, _, _, _, _, _, _, rfl, l_code_runs, c_code_runs⟩, q_code_runs⟩
  have F_code_of : Txt K "code_of" "code_of" (defArgs st_code_of) (defBody st_code_of) (defScope st_code_of) .none kV_code_of f_code_of _ := ⟨⟨_, _, _, _, _, _, _, _, rfl, l_code_of, c_code_of⟩, q_code_of⟩
  have F_Row_fill : Txt K "fill" "Row.fill" (defArgs st_Row_fill) (defBody st_Row_fill) (defScope st_Row_fill) .none kV_Row_fill f_Row_fill _ := ⟨⟨_, _, _, _, _, _, _, _, rfl, l_Row_fill, c_Row_fill⟩, q_Row_fill⟩
  have F_Row_count_bits : Txt K "count_bits" "Row.count_bits" (defArgs st_Row_count_bits) (defBody st_Row_count_bits) (defScope st_Row_count_bits) .none kV_Row_count_bits f_Row_count_bits _ := ⟨⟨_, _, _, _, _, _, _, _, rfl, l_Row_count_bits, c_Row_count_bits⟩, q_Row_count_bits⟩
  have F_NoBits_init : Txt K "__init__" "NoBits.__init__" (defArgs st_NoBits_init) (defBody st_NoBits_init) (defScope st_NoBits_init) .none kV_NoBits_init f_NoBits_init _ := ⟨⟨_, _, _, _, _, _, _, _, rfl, l_NoBits_init, c_NoBits_init⟩, q_NoBits_init⟩
  have F_look_bits : Txt K "look_bits" "look_bits" (defArgs st_look_bits) (defBody st_look_bits) (defScope st_look_bits) .none kV_look_bits f_look_bits _ := ⟨⟨_, _, _, _, _, _, _, _, rfl, l_look_bits, c_look_bits⟩, q_look_bits⟩
  have F_Row_init : Txt K "__init__" "Row.__init__" (defArgs st_Row_init) (defBody st_Row_init) (defScope st_Row_init) (.ref dT_Row_init) (.ref kd_Row_init) f_Row_init _ := ⟨⟨_, _, _, _, _, _, _, _, rfl, l_Row_init, c_Row_init⟩, q_Row_init⟩
  have F_Row_heads : Txt K "heads" "Row.heads" (defArgs st_Row_heads) (defBody st_Row_heads) (defScope st_Row_heads) .none kV_Row_heads f_Row_heads _ := ⟨⟨_, _, _, _, _, _, _, _, rfl, l_Row_heads, c_Row_heads⟩, q_Row_heads⟩
  have F_Row_codes : Txt K "codes" "Row.codes" (defArgs st_Row_codes) (defBody st_Row_codes) (defScope st_Row_codes) .none kV_Row_codes f_Row_codes _ := ⟨⟨_, _, _, _, _, _, _, _, rfl, l_Row_codes, c_Row_codes⟩, q_Row_codes⟩
  have F_Row_room : Txt K "room" "Row.room" (defArgs st_Row_room) (defBody st_Row_room) (defScope st_Row_room) .none kV_Row_room f_Row_room _ := ⟨⟨_, _, _, _, _, _, _, _, rfl, l_Row_room, c_Row_room⟩, q_Row_room⟩
  have F_law_whole : Txt K "_law_whole" "_law_whole" (defArgs st_law_whole) (defBody st_law_whole) (defScope st_law_whole) .none kV_law_whole f_law_whole _ := ⟨⟨_, _, _, _, _, _, _, _, rfl, l_law_whole, c_law_whole⟩, q_law_whole⟩
  have F_law_head : Txt K "_law_head" "_law_head" (defArgs st_law_head) (defBody st_law_head) (defScope st_law_head) .none kV_law_head f_law_head _ := ⟨⟨_, _, _, _, _, _, _, _, rfl, l_law_head, c_law_head⟩, q_law_head⟩
  have F_law_number_code : Txt K "_law_number_code" "_law_number_code" (defArgs st_law_number_code) (defBody st_law_number_code) (defScope st_law_number_code) .none kV_law_number_code f_law_number_code _ := ⟨⟨_, _, _, _, _, _, _, _, rfl, l_law_number_code, c_law_number_code⟩, q_law_number_code⟩
  have F_law_runs : Txt K "_law_runs" "_law_runs" (defArgs st_law_runs) (defBody st_law_runs) (defScope st_law_runs) .none kV_law_runs f_law_runs _ := ⟨⟨_, _, _, _, _, _, _, _, rfl, l_law_runs, c_law_runs⟩, q_law_runs⟩
  have F_law_codes : Txt K "_law_codes" "_law_codes" (defArgs st_law_codes) (defBody st_law_codes) (defScope st_law_codes) .none kV_law_codes f_law_codes _ := ⟨⟨_, _, _, _, _, _, _, _, rfl, l_law_codes, c_law_codes⟩, q_law_codes⟩
  have F_law_code : Txt K "_law_code" "_law_code" (defArgs st_law_code) (defBody st_law_code) (defScope st_law_code) .none kV_law_code f_law_code _ := ⟨⟨_, _, _, _, _, _, _, _, rfl, l_law_code, c_law_code⟩, q_law_code⟩
  have F_law_blocks_right : Txt K "_law_blocks_right" "_law_blocks_right" (defArgs st_law_blocks_right) (defBody st_law_blocks_right) (defScope st_law_blocks_right) .none kV_law_blocks_right f_law_blocks_right _ := ⟨⟨_, _, _, _, _, _, _, _, rfl, l_law_blocks_right, c_law_blocks_right⟩, q_law_blocks_right⟩
  have F_Row_len : Txt K "__len__" "Row.__len__" (defArgs st_Row_len) (defBody st_Row_len) (defScope st_Row_len) .none kV_Row_len f_Row_len _ := ⟨⟨_, _, _, _, _, _, _, _, rfl, l_Row_len, c_Row_len⟩, q_Row_len⟩
  have F_NoCode_init : Txt K "__init__" "NoCode.__init__" (defArgs st_NoCode_init) (defBody st_NoCode_init) (defScope st_NoCode_init) .none kV_NoCode_init f_NoCode_init _ := ⟨⟨_, _, _, _, _, _, _, _, rfl, l_NoCode_init, c_NoCode_init⟩, q_NoCode_init⟩
  have F_read_plain : Txt K "read_plain" "read_plain" (defArgs st_read_plain) (defBody st_read_plain) (defScope st_read_plain) .none kV_read_plain f_read_plain _ := ⟨⟨_, _, _, _, _, _, _, _, rfl, l_read_plain, c_read_plain⟩, q_read_plain⟩
  have F_read_number : Txt K "read_number" "read_number" (defArgs st_read_number) (defBody st_read_number) (defScope st_read_number) .none kV_read_number f_read_number _ := ⟨⟨_, _, _, _, _, _, _, _, rfl, l_read_number, c_read_number⟩, q_read_number⟩
  have F_other_bit : Txt K "other_bit" "other_bit" (defArgs st_other_bit) (defBody st_other_bit) (defScope st_other_bit) .none kV_other_bit f_other_bit _ := ⟨⟨_, _, _, _, _, _, _, _, rfl, l_other_bit, c_other_bit⟩, q_other_bit⟩
  have F_read_runs : Txt K "read_runs" "read_runs" (defArgs st_read_runs) (defBody st_read_runs) (defScope st_read_runs) .none kV_read_runs f_read_runs _ := ⟨⟨_, _, _, _, _, _, _, _, rfl, l_read_runs, c_read_runs⟩, q_read_runs⟩
  have F_read_code : Txt K "read_code" "read_code" (defArgs st_read_code) (defBody st_read_code) (defScope st_read_code) .none kV_read_code f_read_code _ := ⟨⟨_, _, _, _, _, _, _, _, rfl, l_read_code, c_read_code⟩, q_read_code⟩
  have F_Row_told : Txt K "told" "Row.told" (defArgs st_Row_told) (defBody st_Row_told) (defScope st_Row_told) .none kV_Row_told f_Row_told _ := ⟨⟨_, _, _, _, _, _, _, _, rfl, l_Row_told, c_Row_told⟩, q_Row_told⟩
  have F_Row_str : Txt K "__str__" "Row.__str__" (defArgs st_Row_str) (defBody st_Row_str) (defScope st_Row_str) .none kV_Row_str f_Row_str _ := ⟨⟨_, _, _, _, _, _, _, _, rfl, l_Row_str, c_Row_str⟩, q_Row_str⟩
  have F_Row_repr : Txt K "__repr__" "Row.__repr__" (defArgs st_Row_repr) (defBody st_Row_repr) (defScope st_Row_repr) .none kV_Row_repr f_Row_repr _ := ⟨⟨_, _, _, _, _, _, _, _, rfl, l_Row_repr, c_Row_repr⟩, q_Row_repr⟩
  have F_law_row_right : Txt K "_law_row_right" "_law_row_right" (defArgs st_law_row_right) (defBody st_law_row_right) (defScope st_law_row_right) .none kV_law_row_right f_law_row_right _ := ⟨⟨_, _, _, _, _, _, _, _, rfl, l_law_row_right, c_law_row_right⟩, q_law_row_right⟩
  have F_law_wide : Txt K "_law_wide" "_law_wide" (defArgs st_law_wide) (defBody st_law_wide) (defScope st_law_wide) .none kV_law_wide f_law_wide _ := ⟨⟨_, _, _, _, _, _, _, _, rfl, l_law_wide, c_law_wide⟩, q_law_wide⟩
  have F_Row_eq : Txt K "__eq__" "Row.__eq__" (defArgs st_Row_eq) (defBody st_Row_eq) (defScope st_Row_eq) .none kV_Row_eq f_Row_eq _ := ⟨⟨_, _, _, _, _, _, _, _, rfl, l_Row_eq, c_Row_eq⟩, q_Row_eq⟩
  have F_law_alike : Txt K "_law_alike" "_law_alike" (defArgs st_law_alike) (defBody st_law_alike) (defScope st_law_alike) .none kV_law_alike f_law_alike _ := ⟨⟨_, _, _, _, _, _, _, _, rfl, l_law_alike, c_law_alike⟩, q_law_alike⟩
  have F_law : Txt K "law" "law" (defArgs st_law) (defBody st_law) (defScope st_law) .none kV_law fa _ := ⟨⟨_, _, _, _, _, _, _, _, rfl, l_law, c_law⟩, q_law⟩
  have go : ∀ base : Heap, FnG PySem.Challenge.rw_countedbits_k06_rows_made.prog w K mg base 13 fa (PySem.W.fnOf "law" "law" (defArgs st_law) (defBody st_law) (defScope st_law) .none kV_law dc_law pm_law an_law cd_law ct_law) ["_law_script"] (sp_law K) := fun base => by
    have R_law_urn : FnG PySem.Challenge.rw_countedbits_k06_rows_made.prog w K mg base 1 f_law_urn _ ["_law_script", "_law_spot"] (sp_law_urn K) := ok_law_urn gg F_law_urn  
    have D_law_urn : Def PySem.Challenge.rw_countedbits_k06_rows_made.prog w K mg base 1 "_law_urn" [] (sp_law_urn K) := ⟨_, _, _, _, R_law_urn, PySem.W.mg_of X Gm a_law_urn, q_law_urn, Binds.all (fun us hl => match us, hl with | [_, _], _ => rfl), .nil⟩
    have R_law_draw : FnG PySem.Challenge.rw_countedbits_k06_rows_made.prog w K mg base 1 f_law_draw _ ["_law_urn_here", "_law_wide_here"] (sp_law_draw) := ok_law_draw gg F_law_draw  
    have D_law_draw : Def PySem.Challenge.rw_countedbits_k06_rows_made.prog w K mg base 1 "_law_draw" [] (sp_law_draw) := ⟨_, _, _, _, R_law_draw, PySem.W.mg_of X Gm a_law_draw, q_law_draw, Binds.all (fun us hl => match us, hl with | [_, _], _ => rfl), .nil⟩
    have R_law_bits : FnG PySem.Challenge.rw_countedbits_k06_rows_made.prog w K mg base 2 f_law_bits _ ["_law_urn_here", "_law_most"] (sp_law_bits) := ok_law_bits gg F_law_bits D_law_draw 
    have D_law_bits : Def PySem.Challenge.rw_countedbits_k06_rows_made.prog w K mg base 2 "_law_bits" [] (sp_law_bits) := ⟨_, _, _, _, R_law_bits, PySem.W.mg_of X Gm a_law_bits, q_law_bits, Binds.all (fun us hl => match us, hl with | [_, _], _ => rfl), .nil⟩
    have R_head_of : FnG PySem.Challenge.rw_countedbits_k06_rows_made.prog w K mg base 1 f_head_of _ ["bits"] (sp_head_of) := ok_head_of gg F_head_of  
    have D_head_of : Def PySem.Challenge.rw_countedbits_k06_rows_made.prog w K mg base 1 "head_of" [] (sp_head_of) := ⟨_, _, _, _, R_head_of, PySem.W.mg_of X Gm a_head_of, q_head_of, Binds.all (fun us hl => match us, hl with | [_], _ => rfl), .nil⟩
    have R_code_plain : FnG PySem.Challenge.rw_countedbits_k06_rows_made.prog w K mg base 1 f_code_plain _ ["bits"] (sp_code_plain) := ok_code_plain gg F_code_plain  
    have D_code_plain : Def PySem.Challenge.rw_countedbits_k06_rows_made.prog w K mg base 1 "code_plain" [] (sp_code_plain) := ⟨_, _, _, _, R_code_plain, PySem.W.mg_of X Gm a_code_plain, q_code_plain, Binds.all (fun us hl => match us, hl with | [_], _ => rfl), .nil⟩
    have R_figures_of : FnG PySem.Challenge.rw_countedbits_k06_rows_made.prog w K mg base 1 f_figures_of _ ["number"] (sp_figures_of) := ok_figures_of gg F_figures_of  
    have D_figures_of : Def PySem.Challenge.rw_countedbits_k06_rows_made.prog w K mg base 1 "figures_of" [] (sp_figures_of) := ⟨_, _, _, _, R_figures_of, PySem.W.mg_of X Gm a_figures_of, q_figures_of, Binds.all (fun us hl => match us, hl with | [_], _ => rfl), .nil⟩
    have R_number_code : FnG PySem.Challenge.rw_countedbits_k06_rows_made.prog w K mg base 2 f_number_code _ ["number"] (sp_number_code) := ok_number_code gg F_number_code D_figures_of 
    have D_number_code : Def PySem.Challenge.rw_countedbits_k06_rows_made.prog w K mg base 2 "number_code" [] (sp_number_code) := ⟨_, _, _, _, R_number_code, PySem.W.mg_of X Gm a_number_code, q_number_code, Binds.all (fun us hl => match us, hl with | [_], _ => rfl), .nil⟩
    have R_runs_of : FnG PySem.Challenge.rw_countedbits_k06_rows_made.prog w K mg base 1 f_runs_of _ ["bits"] (sp_runs_of) := ok_runs_of gg F_runs_of  
    have D_runs_of : Def PySem.Challenge.rw_countedbits_k06_rows_made.prog w K mg base 1 "runs_of" [] (sp_runs_of) := ⟨_, _, _, _, R_runs_of, PySem.W.mg_of X Gm a_runs_of, q_runs_of, Binds.all (fun us hl => match us, hl with | [_], _ => rfl), .nil⟩
    have R_code_runs : FnG PySem.Challenge.rw_countedbits_k06_rows_made.prog w K mg base 3 f_code_runs _ ["bits"] (sp_code_runs) := ok_code_runs gg F_code_runs D_number_code D_runs_of 
    have D_code_runs : Def PySem.Challenge.rw_countedbits_k06_rows_made.prog w K mg base 3 "code_runs" [] (sp_code_runs) := ⟨_, _, _, _, R_code_runs, PySem.W.mg_of X Gm a_code_runs, q_code_runs, Binds.all (fun us hl => match us, hl with | [_], _ => rfl), .nil⟩
    have R_code_of : FnG PySem.Challenge.rw_countedbits_k06_rows_made.prog w K mg base 4 f_code_of _ ["bits"] (sp_code_of) := ok_code_of gg F_code_of D_code_plain D_code_runs 
    have D_code_of : Def PySem.Challenge.rw_countedbits_k06_rows_made.prog w K mg base 4 "code_of" [] (sp_code_of) := ⟨_, _, _, _, R_code_of, PySem.W.mg_of X Gm a_code_of, q_code_of, Binds.all (fun us hl => match us, hl with | [_], _ => rfl), .nil⟩
    have R_Row_fill : FnG PySem.Challenge.rw_countedbits_k06_rows_made.prog w K mg base 5 f_Row_fill _ ["self", "first", "last", "bits"] (sp_Row_fill C_Row) := ok_Row_fill gg F_Row_fill fc_Row D_head_of D_code_of 
    have N_Row_fill : MthK PySem.Challenge.rw_countedbits_k06_rows_made.prog w K mg base 5 C_Row "fill" 4 [] (fun vs _ => vs) (sp_Row_fill C_Row) := ⟨cl_Row, _, _, _, _, R_Row_fill, ⟨a_Row_fill, fi_Row_fill, q_Row_fill⟩, kb_eq (g := fun us ws => us) (fun r _ => r) (fun us ws hl hw => match us, ws, hl, hw with | [_, _, _, _], [], _, _ => rfl)⟩
    have R_Row_count_bits : FnG PySem.Challenge.rw_countedbits_k06_rows_made.prog w K mg base 1 f_Row_count_bits _ ["self"] (sp_Row_count_bits C_Row) := ok_Row_count_bits gg F_Row_count_bits fc_Row 
    have N_Row_count_bits : MthK PySem.Challenge.rw_countedbits_k06_rows_made.prog w K mg base 1 C_Row "count_bits" 1 [] (fun vs _ => vs) (sp_Row_count_bits C_Row) := ⟨cl_Row, _, _, _, _, R_Row_count_bits, ⟨a_Row_count_bits, fi_Row_count_bits, q_Row_count_bits⟩, kb_eq (g := fun us ws => us) (fun r _ => r) (fun us ws hl hw => match us, ws, hl, hw with | [_], [], _, _ => rfl)⟩
    have R_NoBits_init : FnG PySem.Challenge.rw_countedbits_k06_rows_made.prog w K mg base 1 f_NoBits_init _ ["self", "at"] (spErr C_NoBits "at") := ok_NoBits_init gg F_NoBits_init TE_NoBits no_NoBits gl_CountError rd_CountError ga_CountError vV_CountError 
    have X_NoBits : MkErr PySem.Challenge.rw_countedbits_k06_rows_made.prog w K mg base 1 "NoBits" C_NoBits "at" := ⟨⟨_, _, TE_NoBits⟩, gl_NoBits, _, _, _, R_NoBits_init, a_NoBits_init, fi_NoBits_init, Binds.all (fun us hl => match us, hl with | [_, _], _ => rfl)⟩
    have R_look_bits : FnG PySem.Challenge.rw_countedbits_k06_rows_made.prog w K mg base 3 f_look_bits _ ["thing"] (sp_look_bits) := ok_look_bits gg F_look_bits X_NoBits 
    have D_look_bits : Def PySem.Challenge.rw_countedbits_k06_rows_made.prog w K mg base 3 "look_bits" [] (sp_look_bits) := ⟨_, _, _, _, R_look_bits, PySem.W.mg_of X Gm a_look_bits, q_look_bits, Binds.all (fun us hl => match us, hl with | [_], _ => rfl), .nil⟩
    have R_Row_init : FnG PySem.Challenge.rw_countedbits_k06_rows_made.prog w K mg base 6 f_Row_init _ ["self", "bits", "size"] (sp_Row_init C_Row) := ok_Row_init gg F_Row_init fc_Row N_Row_count_bits N_Row_fill D_look_bits 
    have N_Row_init_0 : MkK PySem.Challenge.rw_countedbits_k06_rows_made.prog w K mg base 6 "Row" C_Row 0 [] (fun vs _ => vs ++ [T [], .int 16]) (sp_Row_init C_Row) := ⟨_, _, _, _, R_Row_init, gl_Row, ⟨mk_Row, a_Row_init, fi_Row_init, kc_Row⟩, kb_df (D := kd_Row_init) (ms := [("size", u_Row_init_size)]) (g := fun us ws => us ++ [u_Row_init_bits, u_Row_init_size]) t_Row_init rfl (fun q hq => by
        simp only [List.mem_cons, List.not_mem_nil, or_false] at hq
        rw [hq]; exact kw_Row_init_size) (fun r r2 => Vals.append r ((.cons (show RelV (T []) u_Row_init_bits from rv_Row_init_bits) (.cons (show RelV (.int 16) u_Row_init_size from rv_Row_init_size) .nil)))) (fun us ws hl hw => match us, ws, hl, hw with | [_], [], _, _ => ⟨_, rfl, ⟨_, _, _, _, _, _, rfl, rfl, (by rfl)⟩⟩)⟩
    have N_Row_init_1_size : MkK PySem.Challenge.rw_countedbits_k06_rows_made.prog w K mg base 6 "Row" C_Row 1 ["size"] (fun vs zs => vs ++ zs) (sp_Row_init C_Row) := ⟨_, _, _, _, R_Row_init, gl_Row, ⟨mk_Row, a_Row_init, fi_Row_init, kc_Row⟩, kb_df (D := kd_Row_init) (ms := []) (g := fun us ws => us ++ ws) t_Row_init rfl (fun q hq => nomatch hq) (fun r r2 => Vals.append r (r2)) (fun us ws hl hw => match us, ws, hl, hw with | [_, _], [_], _, _ => ⟨_, rfl, (by rfl)⟩)⟩
    have N_Row_init_1 : MkK PySem.Challenge.rw_countedbits_k06_rows_made.prog w K mg base 6 "Row" C_Row 1 [] (fun vs _ => vs ++ [.int 16]) (sp_Row_init C_Row) := ⟨_, _, _, _, R_Row_init, gl_Row, ⟨mk_Row, a_Row_init, fi_Row_init, kc_Row⟩, kb_df (D := kd_Row_init) (ms := [("size", u_Row_init_size)]) (g := fun us ws => us ++ [u_Row_init_size]) t_Row_init rfl (fun q hq => by
        simp only [List.mem_cons, List.not_mem_nil, or_false] at hq
        rw [hq]; exact kw_Row_init_size) (fun r r2 => Vals.append r ((.cons (show RelV (.int 16) u_Row_init_size from rv_Row_init_size) .nil))) (fun us ws hl hw => match us, ws, hl, hw with | [_, _], [], _, _ => ⟨_, rfl, ⟨_, _, _, _, _, _, rfl, rfl, (by rfl)⟩⟩)⟩
    have R_Row_heads : FnG PySem.Challenge.rw_countedbits_k06_rows_made.prog w K mg base 1 f_Row_heads _ ["self"] (sp_Row_heads C_Row) := ok_Row_heads gg F_Row_heads fc_Row 
    have N_Row_heads : MthK PySem.Challenge.rw_countedbits_k06_rows_made.prog w K mg base 1 C_Row "heads" 1 [] (fun vs _ => vs) (sp_Row_heads C_Row) := ⟨cl_Row, _, _, _, _, R_Row_heads, ⟨a_Row_heads, fi_Row_heads, q_Row_heads⟩, kb_eq (g := fun us ws => us) (fun r _ => r) (fun us ws hl hw => match us, ws, hl, hw with | [_], [], _, _ => rfl)⟩
    have R_Row_codes : FnG PySem.Challenge.rw_countedbits_k06_rows_made.prog w K mg base 1 f_Row_codes _ ["self"] (sp_Row_codes C_Row) := ok_Row_codes gg F_Row_codes fc_Row 
    have N_Row_codes : MthK PySem.Challenge.rw_countedbits_k06_rows_made.prog w K mg base 1 C_Row "codes" 1 [] (fun vs _ => vs) (sp_Row_codes C_Row) := ⟨cl_Row, _, _, _, _, R_Row_codes, ⟨a_Row_codes, fi_Row_codes, q_Row_codes⟩, kb_eq (g := fun us ws => us) (fun r _ => r) (fun us ws hl hw => match us, ws, hl, hw with | [_], [], _, _ => rfl)⟩
    have R_Row_room : FnG PySem.Challenge.rw_countedbits_k06_rows_made.prog w K mg base 2 f_Row_room _ ["self"] (sp_Row_room C_Row) := ok_Row_room gg F_Row_room fc_Row D_figures_of 
    have N_Row_room : MthK PySem.Challenge.rw_countedbits_k06_rows_made.prog w K mg base 2 C_Row "room" 1 [] (fun vs _ => vs) (sp_Row_room C_Row) := ⟨cl_Row, _, _, _, _, R_Row_room, ⟨a_Row_room, fi_Row_room, q_Row_room⟩, kb_eq (g := fun us ws => us) (fun r _ => r) (fun us ws hl hw => match us, ws, hl, hw with | [_], [], _, _ => rfl)⟩
    have R_law_whole : FnG PySem.Challenge.rw_countedbits_k06_rows_made.prog w K mg base 1 f_law_whole _ ["_law_thing"] (sp_law_whole) := ok_law_whole gg F_law_whole  
    have D_law_whole : Def PySem.Challenge.rw_countedbits_k06_rows_made.prog w K mg base 1 "_law_whole" [] (sp_law_whole) := ⟨_, _, _, _, R_law_whole, PySem.W.mg_of X Gm a_law_whole, q_law_whole, Binds.all (fun us hl => match us, hl with | [_], _ => rfl), .nil⟩
    have R_law_head : FnG PySem.Challenge.rw_countedbits_k06_rows_made.prog w K mg base 1 f_law_head _ ["_law_row_text"] (sp_law_head) := ok_law_head gg F_law_head  
    have D_law_head : Def PySem.Challenge.rw_countedbits_k06_rows_made.prog w K mg base 1 "_law_head" [] (sp_law_head) := ⟨_, _, _, _, R_law_head, PySem.W.mg_of X Gm a_law_head, q_law_head, Binds.all (fun us hl => match us, hl with | [_], _ => rfl), .nil⟩
    have R_law_number_code : FnG PySem.Challenge.rw_countedbits_k06_rows_made.prog w K mg base 1 f_law_number_code _ ["_law_number"] (sp_law_number_code) := ok_law_number_code gg F_law_number_code  
    have D_law_number_code : Def PySem.Challenge.rw_countedbits_k06_rows_made.prog w K mg base 1 "_law_number_code" [] (sp_law_number_code) := ⟨_, _, _, _, R_law_number_code, PySem.W.mg_of X Gm a_law_number_code, q_law_number_code, Binds.all (fun us hl => match us, hl with | [_], _ => rfl), .nil⟩
    have R_law_runs : FnG PySem.Challenge.rw_countedbits_k06_rows_made.prog w K mg base 1 f_law_runs _ ["_law_row_text"] (sp_law_runs) := ok_law_runs gg F_law_runs  
    have D_law_runs : Def PySem.Challenge.rw_countedbits_k06_rows_made.prog w K mg base 1 "_law_runs" [] (sp_law_runs) := ⟨_, _, _, _, R_law_runs, PySem.W.mg_of X Gm a_law_runs, q_law_runs, Binds.all (fun us hl => match us, hl with | [_], _ => rfl), .nil⟩
    have R_law_codes : FnG PySem.Challenge.rw_countedbits_k06_rows_made.prog w K mg base 2 f_law_codes _ ["_law_row_text"] (sp_law_codes) := ok_law_codes gg F_law_codes D_law_number_code D_law_runs 
    have D_law_codes : Def PySem.Challenge.rw_countedbits_k06_rows_made.prog w K mg base 2 "_law_codes" [] (sp_law_codes) := ⟨_, _, _, _, R_law_codes, PySem.W.mg_of X Gm a_law_codes, q_law_codes, Binds.all (fun us hl => match us, hl with | [_], _ => rfl), .nil⟩
    have R_law_code : FnG PySem.Challenge.rw_countedbits_k06_rows_made.prog w K mg base 3 f_law_code _ ["_law_row_text"] (sp_law_code) := ok_law_code gg F_law_code D_law_codes 
    have D_law_code : Def PySem.Challenge.rw_countedbits_k06_rows_made.prog w K mg base 3 "_law_code" [] (sp_law_code) := ⟨_, _, _, _, R_law_code, PySem.W.mg_of X Gm a_law_code, q_law_code, Binds.all (fun us hl => match us, hl with | [_], _ => rfl), .nil⟩
    have R_law_blocks_right : FnG PySem.Challenge.rw_countedbits_k06_rows_made.prog w K mg base 4 f_law_blocks_right _ ["_law_row", "_law_row_text", "_law_wide_here"] (sp_law_blocks_right C_Row) := ok_law_blocks_right gg F_law_blocks_right N_Row_room N_Row_codes N_Row_heads D_law_whole D_law_head D_law_code D_law_number_code 
    have D_law_blocks_right : Def PySem.Challenge.rw_countedbits_k06_rows_made.prog w K mg base 4 "_law_blocks_right" [] (sp_law_blocks_right C_Row) := ⟨_, _, _, _, R_law_blocks_right, PySem.W.mg_of X Gm a_law_blocks_right, q_law_blocks_right, Binds.all (fun us hl => match us, hl with | [_, _, _], _ => rfl), .nil⟩
    have R_Row_len : FnG PySem.Challenge.rw_countedbits_k06_rows_made.prog w K mg base 1 f_Row_len _ ["self"] (sp_Row_len C_Row) := ok_Row_len gg F_Row_len fc_Row 
    have N_Row_len : MthK PySem.Challenge.rw_countedbits_k06_rows_made.prog w K mg base 1 C_Row "__len__" 1 [] (fun vs _ => vs) (sp_Row_len C_Row) := ⟨cl_Row, _, _, _, _, R_Row_len, ⟨a_Row_len, fi_Row_len, q_Row_len⟩, kb_eq (g := fun us ws => us) (fun r _ => r) (fun us ws hl hw => match us, ws, hl, hw with | [_], [], _, _ => rfl)⟩
    have R_NoCode_init : FnG PySem.Challenge.rw_countedbits_k06_rows_made.prog w K mg base 1 f_NoCode_init _ ["self", "at"] (spErr C_NoCode "at") := ok_NoCode_init gg F_NoCode_init TE_NoCode no_NoCode gl_CountError rd_CountError ga_CountError vV_CountError 
    have X_NoCode : MkErr PySem.Challenge.rw_countedbits_k06_rows_made.prog w K mg base 1 "NoCode" C_NoCode "at" := ⟨⟨_, _, TE_NoCode⟩, gl_NoCode, _, _, _, R_NoCode_init, a_NoCode_init, fi_NoCode_init, Binds.all (fun us hl => match us, hl with | [_, _], _ => rfl)⟩
    have R_read_plain : FnG PySem.Challenge.rw_countedbits_k06_rows_made.prog w K mg base 3 f_read_plain _ ["text"] (sp_read_plain) := ok_read_plain gg F_read_plain X_NoCode 
    have D_read_plain : Def PySem.Challenge.rw_countedbits_k06_rows_made.prog w K mg base 3 "read_plain" [] (sp_read_plain) := ⟨_, _, _, _, R_read_plain, PySem.W.mg_of X Gm a_read_plain, q_read_plain, Binds.all (fun us hl => match us, hl with | [_], _ => rfl), .nil⟩
    have R_read_number : FnG PySem.Challenge.rw_countedbits_k06_rows_made.prog w K mg base 3 f_read_number _ ["text", "at", "room"] (sp_read_number) := ok_read_number gg F_read_number X_NoCode 
    have D_read_number : Def PySem.Challenge.rw_countedbits_k06_rows_made.prog w K mg base 3 "read_number" [] (sp_read_number) := ⟨_, _, _, _, R_read_number, PySem.W.mg_of X Gm a_read_number, q_read_number, Binds.all (fun us hl => match us, hl with | [_, _, _], _ => rfl), .nil⟩
    have R_other_bit : FnG PySem.Challenge.rw_countedbits_k06_rows_made.prog w K mg base 1 f_other_bit _ ["bit"] (sp_other_bit) := ok_other_bit gg F_other_bit  
    have D_other_bit : Def PySem.Challenge.rw_countedbits_k06_rows_made.prog w K mg base 1 "other_bit" [] (sp_other_bit) := ⟨_, _, _, _, R_other_bit, PySem.W.mg_of X Gm a_other_bit, q_other_bit, Binds.all (fun us hl => match us, hl with | [_], _ => rfl), .nil⟩
    have R_read_runs : FnG PySem.Challenge.rw_countedbits_k06_rows_made.prog w K mg base 4 f_read_runs _ ["text"] (sp_read_runs) := ok_read_runs gg F_read_runs X_NoCode D_read_number D_other_bit 
    have D_read_runs : Def PySem.Challenge.rw_countedbits_k06_rows_made.prog w K mg base 4 "read_runs" [] (sp_read_runs) := ⟨_, _, _, _, R_read_runs, PySem.W.mg_of X Gm a_read_runs, q_read_runs, Binds.all (fun us hl => match us, hl with | [_], _ => rfl), .nil⟩
    have e_p : (Str.ofString "p") = (⟨([112] : List Nat).toArray⟩ : Str) := by decide +kernel
    have e_r : (Str.ofString "r") = (⟨([114] : List Nat).toArray⟩ : Str) := by decide +kernel
    have A_reader : ∀ f sp, S_read_code f_read_plain f_read_runs f sp → HeldG PySem.Challenge.rw_countedbits_k06_rows_made.prog w K mg base 4 f sp := by
      rintro f sp (⟨rfl, rfl⟩ | ⟨rfl, rfl⟩)
      · exact ⟨⟨_, _, R_read_plain.mono (by decide), q_read_plain, Binds.all (fun us hl => match us, hl with | [_], _ => rfl)⟩⟩
      · exact ⟨⟨_, _, R_read_runs.mono (by decide), q_read_runs, Binds.all (fun us hl => match us, hl with | [_], _ => rfl)⟩⟩
    have R_read_code : FnG PySem.Challenge.rw_countedbits_k06_rows_made.prog w K mg base 5 f_read_code _ ["text"] (sp_read_code) := ok_read_code gg F_read_code X_NoCode (PySem.W.mg_of X Gm r1) ⟨_, _, ⟨r2, r3, r4⟩, e_p ▸ r5⟩ ⟨_, _, ⟨r2, r3, r4⟩, e_r ▸ r6⟩ A_reader
    have D_read_code : Def PySem.Challenge.rw_countedbits_k06_rows_made.prog w K mg base 5 "read_code" [] (sp_read_code) := ⟨_, _, _, _, R_read_code, PySem.W.mg_of X Gm a_read_code, q_read_code, Binds.all (fun us hl => match us, hl with | [_], _ => rfl), .nil⟩
    have R_Row_told : FnG PySem.Challenge.rw_countedbits_k06_rows_made.prog w K mg base 6 f_Row_told _ ["self"] (sp_Row_told C_Row) := ok_Row_told gg F_Row_told fc_Row D_read_code 
    have N_Row_told : MthK PySem.Challenge.rw_countedbits_k06_rows_made.prog w K mg base 6 C_Row "told" 1 [] (fun vs _ => vs) (sp_Row_told C_Row) := ⟨cl_Row, _, _, _, _, R_Row_told, ⟨a_Row_told, fi_Row_told, q_Row_told⟩, kb_eq (g := fun us ws => us) (fun r _ => r) (fun us ws hl hw => match us, ws, hl, hw with | [_], [], _, _ => rfl)⟩
    have R_Row_str : FnG PySem.Challenge.rw_countedbits_k06_rows_made.prog w K mg base 7 f_Row_str _ ["self"] (sp_Row_str C_Row) := ok_Row_str gg F_Row_str N_Row_told 
    have N_Row_str : MthK PySem.Challenge.rw_countedbits_k06_rows_made.prog w K mg base 7 C_Row "__str__" 1 [] (fun vs _ => vs) (sp_Row_str C_Row) := ⟨cl_Row, _, _, _, _, R_Row_str, ⟨a_Row_str, fi_Row_str, q_Row_str⟩, kb_eq (g := fun us ws => us) (fun r _ => r) (fun us ws hl hw => match us, ws, hl, hw with | [_], [], _, _ => rfl)⟩
    have R_Row_repr : FnG PySem.Challenge.rw_countedbits_k06_rows_made.prog w K mg base 7 f_Row_repr _ ["self"] (sp_Row_repr C_Row) := ok_Row_repr gg F_Row_repr fc_Row N_Row_told 
    have N_Row_repr : MthK PySem.Challenge.rw_countedbits_k06_rows_made.prog w K mg base 7 C_Row "__repr__" 1 [] (fun vs _ => vs) (sp_Row_repr C_Row) := ⟨cl_Row, _, _, _, _, R_Row_repr, ⟨a_Row_repr, fi_Row_repr, q_Row_repr⟩, kb_eq (g := fun us ws => us) (fun r _ => r) (fun us ws hl hw => match us, ws, hl, hw with | [_], [], _, _ => rfl)⟩
    have R_law_row_right : FnG PySem.Challenge.rw_countedbits_k06_rows_made.prog w K mg base 11 f_law_row_right _ ["_law_row", "_law_row_text", "_law_wide_here"] (sp_law_row_right C_Row) := ok_law_row_right gg F_law_row_right fc_Row oc_Row N_Row_repr N_Row_len N_Row_str D_law_blocks_right 
    have D_law_row_right : Def PySem.Challenge.rw_countedbits_k06_rows_made.prog w K mg base 11 "_law_row_right" [] (sp_law_row_right C_Row) := ⟨_, _, _, _, R_law_row_right, PySem.W.mg_of X Gm a_law_row_right, q_law_row_right, Binds.all (fun us hl => match us, hl with | [_, _, _], _ => rfl), .nil⟩
    have R_law_wide : FnG PySem.Challenge.rw_countedbits_k06_rows_made.prog w K mg base 2 f_law_wide _ ["_law_urn_here"] (sp_law_wide) := ok_law_wide gg F_law_wide D_law_draw 
    have D_law_wide : Def PySem.Challenge.rw_countedbits_k06_rows_made.prog w K mg base 2 "_law_wide" [] (sp_law_wide) := ⟨_, _, _, _, R_law_wide, PySem.W.mg_of X Gm a_law_wide, q_law_wide, Binds.all (fun us hl => match us, hl with | [_], _ => rfl), .nil⟩
    have R_Row_eq : FnG PySem.Challenge.rw_countedbits_k06_rows_made.prog w K mg base 8 f_Row_eq _ ["self", "other"] (sp_Row_eq C_Row) := ok_Row_eq gg F_Row_eq gl_Row fc_Row oc_Row N_Row_told 
    have N_Row_eq : MthK PySem.Challenge.rw_countedbits_k06_rows_made.prog w K mg base 8 C_Row "__eq__" 2 [] (fun vs _ => vs) (sp_Row_eq C_Row) := ⟨cl_Row, _, _, _, _, R_Row_eq, ⟨a_Row_eq, fi_Row_eq, q_Row_eq⟩, kb_eq (g := fun us ws => us) (fun r _ => r) (fun us ws hl hw => match us, ws, hl, hw with | [_, _], [], _, _ => rfl)⟩
    have R_law_alike : FnG PySem.Challenge.rw_countedbits_k06_rows_made.prog w K mg base 12 f_law_alike _ ["_law_one", "_law_other", "_law_due"] (sp_law_alike C_Row) := ok_law_alike gg F_law_alike oc_Row on_Row N_Row_eq 
    have D_law_alike : Def PySem.Challenge.rw_countedbits_k06_rows_made.prog w K mg base 12 "_law_alike" [] (sp_law_alike C_Row) := ⟨_, _, _, _, R_law_alike, PySem.W.mg_of X Gm a_law_alike, q_law_alike, Binds.all (fun us hl => match us, hl with | [_, _, _], _ => rfl), .nil⟩
    exact ok_law gg F_law oc_Row N_Row_repr N_Row_init_0 N_Row_eq N_Row_codes N_Row_heads N_Row_init_1_size N_Row_init_1 D_law_urn D_law_bits D_law_row_right D_law_wide D_law_alike D_law_draw 
  exact ⟨_, fun s v => .of_eq rfl, fun base _ _ => go base⟩
def fb0 (K : PySem.W.Frag) : List Bool := [Z.fnB K ("_law_urn", none) fun dV kV cd => PySem.W.codeIn K cd "_law_urn" && (Z.noneB dV && true),
  Z.fnB K ("_law_draw", none) fun dV kV cd => PySem.W.codeIn K cd "_law_draw" && (Z.noneB dV && true),
  Z.fnB K ("_law_bits", none) fun dV kV cd => PySem.W.codeIn K cd "_law_bits" && (Z.noneB dV && true),
  Z.fnB K ("head_of", none) fun dV kV cd => PySem.W.codeIn K cd "head_of" && (Z.noneB dV && true),
  Z.fnB K ("code_plain", none) fun dV kV cd => PySem.W.codeIn K cd "code_plain" && (Z.noneB dV && true),
  Z.fnB K ("figures_of", none) fun dV kV cd => PySem.W.codeIn K cd "figures_of" && (Z.noneB dV && true),
  Z.fnB K ("number_code", none) fun dV kV cd => PySem.W.codeIn K cd "number_code" && (Z.noneB dV && true),
  Z.fnB K ("runs_of", none) fun dV kV cd => PySem.W.codeIn K cd "runs_of" && (Z.noneB dV && true),
  Z.fnB K ("code_runs", none) fun dV kV cd => PySem.W.codeIn K cd "code_runs" && (Z.noneB dV && true),
  Z.fnB K ("code_of", none) fun dV kV cd => PySem.W.codeIn K cd "code_of" && (Z.noneB dV && true),
  Z.fnB K ("Row", some "fill") fun dV kV cd => PySem.W.codeIn K cd "Row.fill" && (Z.noneB dV && true),
  Z.fnB K ("Row", some "count_bits") fun dV kV cd => PySem.W.codeIn K cd "Row.count_bits" && (Z.noneB dV && true)]
def fb1 (K : PySem.W.Frag) : List Bool := [Z.fnB K ("NoBits", some "__init__") fun dV kV cd => PySem.W.codeIn K cd "NoBits.__init__" && (Z.noneB dV && true),
  Z.fnB K ("look_bits", none) fun dV kV cd => PySem.W.codeIn K cd "look_bits" && (Z.noneB dV && true),
  Z.fnB K ("Row", some "__init__") fun dV kV cd => PySem.W.codeIn K cd "Row.__init__" && (He.dflB K dV [T []] && He.kwdB K kV [("size", .int 16)]),
  Z.fnB K ("Row", some "heads") fun dV kV cd => PySem.W.codeIn K cd "Row.heads" && (Z.noneB dV && true),
  Z.fnB K ("Row", some "codes") fun dV kV cd => PySem.W.codeIn K cd "Row.codes" && (Z.noneB dV && true),
  Z.fnB K ("Row", some "room") fun dV kV cd => PySem.W.codeIn K cd "Row.room" && (Z.noneB dV && true),
  Z.fnB K ("_law_whole", none) fun dV kV cd => PySem.W.codeIn K cd "_law_whole" && (Z.noneB dV && true),
  Z.fnB K ("_law_head", none) fun dV kV cd => PySem.W.codeIn K cd "_law_head" && (Z.noneB dV && true),
  Z.fnB K ("_law_number_code", none) fun dV kV cd => PySem.W.codeIn K cd "_law_number_code" && (Z.noneB dV && true),
  Z.fnB K ("_law_runs", none) fun dV kV cd => PySem.W.codeIn K cd "_law_runs" && (Z.noneB dV && true),
  Z.fnB K ("_law_codes", none) fun dV kV cd => PySem.W.codeIn K cd "_law_codes" && (Z.noneB dV && true),
  Z.fnB K ("_law_code", none) fun dV kV cd => PySem.W.codeIn K cd "_law_code" && (Z.noneB dV && true)]
def fb2 (K : PySem.W.Frag) : List Bool := [Z.fnB K ("_law_blocks_right", none) fun dV kV cd => PySem.W.codeIn K cd "_law_blocks_right" && (Z.noneB dV && true),
  Z.fnB K ("Row", some "__len__") fun dV kV cd => PySem.W.codeIn K cd "Row.__len__" && (Z.noneB dV && true),
  Z.fnB K ("NoCode", some "__init__") fun dV kV cd => PySem.W.codeIn K cd "NoCode.__init__" && (Z.noneB dV && true),
  Z.fnB K ("read_plain", none) fun dV kV cd => PySem.W.codeIn K cd "read_plain" && (Z.noneB dV && true),
  Z.fnB K ("read_number", none) fun dV kV cd => PySem.W.codeIn K cd "read_number" && (Z.noneB dV && true),
  Z.fnB K ("other_bit", none) fun dV kV cd => PySem.W.codeIn K cd "other_bit" && (Z.noneB dV && true),
  Z.fnB K ("read_runs", none) fun dV kV cd => PySem.W.codeIn K cd "read_runs" && (Z.noneB dV && true),
  Z.fnB K ("read_code", none) fun dV kV cd => PySem.W.codeIn K cd "read_code" && (Z.noneB dV && true),
  Z.fnB K ("Row", some "told") fun dV kV cd => PySem.W.codeIn K cd "Row.told" && (Z.noneB dV && true),
  Z.fnB K ("Row", some "__str__") fun dV kV cd => PySem.W.codeIn K cd "Row.__str__" && (Z.noneB dV && true),
  Z.fnB K ("Row", some "__repr__") fun dV kV cd => PySem.W.codeIn K cd "Row.__repr__" && (Z.noneB dV && true),
  Z.fnB K ("_law_row_right", none) fun dV kV cd => PySem.W.codeIn K cd "_law_row_right" && (Z.noneB dV && true)]
def fb3 (K : PySem.W.Frag) : List Bool := [Z.fnB K ("_law_wide", none) fun dV kV cd => PySem.W.codeIn K cd "_law_wide" && (Z.noneB dV && true),
  Z.fnB K ("Row", some "__eq__") fun dV kV cd => PySem.W.codeIn K cd "Row.__eq__" && (Z.noneB dV && true),
  Z.fnB K ("_law_alike", none) fun dV kV cd => PySem.W.codeIn K cd "_law_alike" && (Z.noneB dV && true),
  Z.fnB K ("law", none) fun dV kV cd => PySem.W.codeIn K cd "law" && (Z.noneB dV && true),
  He.eqO (PySem.W.nsIn K mainGlobals "IndexError") (some none),
  He.eqO (PySem.W.nsIn K mainGlobals "abs") (some none),
  He.eqO (PySem.W.nsIn K mainGlobals "any") (some none),
  He.eqO (PySem.W.nsIn K mainGlobals "bool") (some none),
  He.eqO (PySem.W.nsIn K mainGlobals "divmod") (some none),
  He.eqO (PySem.W.nsIn K mainGlobals "enumerate") (some none),
  He.eqO (PySem.W.nsIn K mainGlobals "int") (some none),
  He.eqO (PySem.W.nsIn K mainGlobals "isinstance") (some none)]
def fb4 (K : PySem.W.Frag) : List Bool := [He.eqO (PySem.W.nsIn K mainGlobals "len") (some none),
  He.eqO (PySem.W.nsIn K mainGlobals "list") (some none),
  He.eqO (PySem.W.nsIn K mainGlobals "max") (some none),
  He.eqO (PySem.W.nsIn K mainGlobals "min") (some none),
  He.eqO (PySem.W.nsIn K mainGlobals "range") (some none),
  He.eqO (PySem.W.nsIn K mainGlobals "repr") (some none),
  He.eqO (PySem.W.nsIn K mainGlobals "str") (some none),
  He.eqO (PySem.W.nsIn K mainGlobals "sum") (some none),
  He.eqO (PySem.W.nsIn K mainGlobals "tuple") (some none),
  He.eqO (PySem.W.nsIn K mainGlobals "zip") (some none),
  (He.Fa.int "MOST_BITS_codes" 64).ok K,
  (He.Fa.str "BITS" ⟨([48, 49] : List Nat).toArray⟩).ok K]
def fb5 (K : PySem.W.Frag) : List Bool := [(He.Fa.int "MOST_BITS_rows" 1000).ok K,
  (He.Fa.int "SIZE" 16).ok K,
  He.eqO (PySem.W.nsIn K mainGlobals "Row") (some (some (.ref (He.ga K "Row")))),
  He.eqO (PySem.W.nsIn K mainGlobals "NoBits") (some (some (.ref (He.ga K "NoBits")))),
  He.eqO (PySem.W.nsIn K mainGlobals "NoCode") (some (some (.ref (He.ga K "NoCode")))),
  He.eqO (PySem.W.nsIn K mainGlobals "CountError") (some (some (.ref (He.ga K "CountError")))),
  PySem.W.plainGet K (He.ga K "Row") Str.empty,
  PySem.W.hasDictIn K (He.ga K "Row"),
  PySem.W.plainOver K (He.ga K "Row"),
  He.eqO (PySem.W.findIn K (.ref (He.ga K "Row")) "__setattr__") (some (some (.builtin "object.__setattr__"))),
  He.eqO (PySem.W.findIn K (.ref (He.ga K "Row")) "size") (some none),
  He.eqO (PySem.W.findIn K (.ref (He.ga K "Row")) "head_rows") (some none)]
def fb6 (K : PySem.W.Frag) : List Bool := [He.eqO (PySem.W.findIn K (.ref (He.ga K "Row")) "code_rows") (some none),
  He.eqO (PySem.W.findIn K (.ref (He.ga K "Row")) "opens") (some none),
  He.eqO (PySem.W.findIn K (.ref (He.ga K "Row")) "held_signs") (some none),
  PySem.W.makesIn K (He.ga K "Row"),
  PySem.W.keepIn K (.ref (He.ga K "Row")),
  decide (PySem.W.subIn K (.ref (He.ga K "Row")) (.type "NoneType") = some false),
  He.eqO (PySem.W.findIn K (.ref (He.ga K "Row")) "__bool__") (some none),
  He.eqO (PySem.W.findIn K (.ref (He.ga K "Row")) "__ne__") (some (some (.builtin "object.__ne__"))),
  decide (PySem.W.subIn K (.ref (He.ga K "Row")) (.type "object") = some true),
  He.eqO (PySem.W.findIn K (.ref (He.ga K "Row")) "__class__") (some (some (.builtin "object.__class__"))),
  He.eqO (PySem.W.specialIn K (.builtin "object.__class__") "__get__") (some (some (.builtin "getset_descriptor.__get__"))),
  decide (PySem.W.takesIn K (.builtin "object.__class__") = some true)]
def fb7 (K : PySem.W.Frag) : List Bool := [decide (PySem.W.mroIn K (He.ga K "Row") (.type "object") = some true),
  (PySem.W.clsIn K (He.ga K "Row")).isSome,
  decide (PySem.W.typeIn K (.ref (He.ga K "Row")) = some (.type "type")),
  decide (PySem.W.subIn K (.type "str") (.ref (He.ga K "Row")) = some false),
  decide (PySem.W.subIn K (.type "int") (.ref (He.ga K "Row")) = some false),
  decide (PySem.W.subIn K (.type "bool") (.ref (He.ga K "Row")) = some false),
  decide (PySem.W.subIn K (.type "list") (.ref (He.ga K "Row")) = some false),
  decide (PySem.W.subIn K (.type "tuple") (.ref (He.ga K "Row")) = some false),
  decide (PySem.W.subIn K (.type "NoneType") (.ref (He.ga K "Row")) = some false),
  Z.excZ K (He.ga K "NoBits") [.ref (He.ga K "CountError"), .type "ValueError", .type "Exception", .type "BaseException", .type "object"] "ValueError.__new__",
  He.eqO (PySem.W.findIn K (.ref (He.ga K "NoBits")) "__setattr__") (some (some (.builtin "object.__setattr__"))),
  decide (PySem.W.subIn K (.ref (He.ga K "NoBits")) (.type "BaseException") = some true)]
def fb8 (K : PySem.W.Frag) : List Bool := [decide (PySem.W.typeIn K (.ref (He.ga K "NoBits")) = some (.type "type")),
  PySem.W.keepIn K (.ref (He.ga K "NoBits")),
  He.eqO (PySem.W.findIn K (.ref (He.ga K "NoBits")) "at") (some none),
  Z.excZ K (He.ga K "NoCode") [.ref (He.ga K "CountError"), .type "ValueError", .type "Exception", .type "BaseException", .type "object"] "ValueError.__new__",
  He.eqO (PySem.W.findIn K (.ref (He.ga K "NoCode")) "__setattr__") (some (some (.builtin "object.__setattr__"))),
  decide (PySem.W.subIn K (.ref (He.ga K "NoCode")) (.type "BaseException") = some true),
  decide (PySem.W.typeIn K (.ref (He.ga K "NoCode")) = some (.type "type")),
  PySem.W.keepIn K (.ref (He.ga K "NoCode")),
  He.eqO (PySem.W.findIn K (.ref (He.ga K "NoCode")) "at") (some none),
  PySem.W.readsIn K (He.ga K "CountError") (.type "type"),
  He.eqO (PySem.W.specialIn K (.ref (He.ga K "CountError")) "__getattribute__") (some (some (.builtin "type.__getattribute__"))),
  Z.clsB (PySem.W.findCls K (.ref (He.ga K "CountError")) (.type "type") "__init__") "ValueError.__init__"]
def fb9 (K : PySem.W.Frag) : List Bool := [He.eqO (PySem.W.nsIn K mainGlobals "_law_urn") (some (some (.ref (He.fAd K ("_law_urn", none))))),
  PySem.W.keepIn K (.ref (He.fAd K ("_law_urn", none))),
  He.eqO (PySem.W.nsIn K mainGlobals "_law_draw") (some (some (.ref (He.fAd K ("_law_draw", none))))),
  PySem.W.keepIn K (.ref (He.fAd K ("_law_draw", none))),
  He.eqO (PySem.W.nsIn K mainGlobals "_law_bits") (some (some (.ref (He.fAd K ("_law_bits", none))))),
  PySem.W.keepIn K (.ref (He.fAd K ("_law_bits", none))),
  He.eqO (PySem.W.nsIn K mainGlobals "head_of") (some (some (.ref (He.fAd K ("head_of", none))))),
  PySem.W.keepIn K (.ref (He.fAd K ("head_of", none))),
  He.eqO (PySem.W.nsIn K mainGlobals "code_plain") (some (some (.ref (He.fAd K ("code_plain", none))))),
  PySem.W.keepIn K (.ref (He.fAd K ("code_plain", none))),
  He.eqO (PySem.W.nsIn K mainGlobals "figures_of") (some (some (.ref (He.fAd K ("figures_of", none))))),
  PySem.W.keepIn K (.ref (He.fAd K ("figures_of", none)))]
def fb10 (K : PySem.W.Frag) : List Bool := [He.eqO (PySem.W.nsIn K mainGlobals "number_code") (some (some (.ref (He.fAd K ("number_code", none))))),
  PySem.W.keepIn K (.ref (He.fAd K ("number_code", none))),
  He.eqO (PySem.W.nsIn K mainGlobals "runs_of") (some (some (.ref (He.fAd K ("runs_of", none))))),
  PySem.W.keepIn K (.ref (He.fAd K ("runs_of", none))),
  He.eqO (PySem.W.nsIn K mainGlobals "code_runs") (some (some (.ref (He.fAd K ("code_runs", none))))),
  PySem.W.keepIn K (.ref (He.fAd K ("code_runs", none))),
  He.eqO (PySem.W.nsIn K mainGlobals "code_of") (some (some (.ref (He.fAd K ("code_of", none))))),
  PySem.W.keepIn K (.ref (He.fAd K ("code_of", none))),
  He.eqO (PySem.W.findIn K (.ref (He.ga K "Row")) "fill") (some (some (.ref (He.fAd K ("Row", some "fill"))))),
  PySem.W.isFn K (.ref (He.fAd K ("Row", some "fill"))),
  PySem.W.keepIn K (.ref (He.fAd K ("Row", some "fill"))),
  He.eqO (PySem.W.findIn K (.ref (He.ga K "Row")) "count_bits") (some (some (.ref (He.fAd K ("Row", some "count_bits")))))]
def fb11 (K : PySem.W.Frag) : List Bool := [PySem.W.isFn K (.ref (He.fAd K ("Row", some "count_bits"))),
  PySem.W.keepIn K (.ref (He.fAd K ("Row", some "count_bits"))),
  He.eqO (PySem.W.findIn K (.ref (He.ga K "NoBits")) "__init__") (some (some (.ref (He.fAd K ("NoBits", some "__init__"))))),
  decide (PySem.W.typeIn K (.ref (He.fAd K ("NoBits", some "__init__"))) = some (.type "function")),
  PySem.W.keepIn K (.ref (He.fAd K ("NoBits", some "__init__"))),
  He.eqO (PySem.W.nsIn K mainGlobals "look_bits") (some (some (.ref (He.fAd K ("look_bits", none))))),
  PySem.W.keepIn K (.ref (He.fAd K ("look_bits", none))),
  He.eqO (PySem.W.findIn K (.ref (He.ga K "Row")) "__init__") (some (some (.ref (He.fAd K ("Row", some "__init__"))))),
  PySem.W.isFn K (.ref (He.fAd K ("Row", some "__init__"))),
  PySem.W.keepIn K (.ref (He.fAd K ("Row", some "__init__"))),
  He.eqO (PySem.W.findIn K (.ref (He.ga K "Row")) "heads") (some (some (.ref (He.fAd K ("Row", some "heads"))))),
  PySem.W.isFn K (.ref (He.fAd K ("Row", some "heads")))]
def fb12 (K : PySem.W.Frag) : List Bool := [PySem.W.keepIn K (.ref (He.fAd K ("Row", some "heads"))),
  He.eqO (PySem.W.findIn K (.ref (He.ga K "Row")) "codes") (some (some (.ref (He.fAd K ("Row", some "codes"))))),
  PySem.W.isFn K (.ref (He.fAd K ("Row", some "codes"))),
  PySem.W.keepIn K (.ref (He.fAd K ("Row", some "codes"))),
  He.eqO (PySem.W.findIn K (.ref (He.ga K "Row")) "room") (some (some (.ref (He.fAd K ("Row", some "room"))))),
  PySem.W.isFn K (.ref (He.fAd K ("Row", some "room"))),
  PySem.W.keepIn K (.ref (He.fAd K ("Row", some "room"))),
  He.eqO (PySem.W.nsIn K mainGlobals "_law_whole") (some (some (.ref (He.fAd K ("_law_whole", none))))),
  PySem.W.keepIn K (.ref (He.fAd K ("_law_whole", none))),
  He.eqO (PySem.W.nsIn K mainGlobals "_law_head") (some (some (.ref (He.fAd K ("_law_head", none))))),
  PySem.W.keepIn K (.ref (He.fAd K ("_law_head", none))),
  He.eqO (PySem.W.nsIn K mainGlobals "_law_number_code") (some (some (.ref (He.fAd K ("_law_number_code", none)))))]
def fb13 (K : PySem.W.Frag) : List Bool := [PySem.W.keepIn K (.ref (He.fAd K ("_law_number_code", none))),
  He.eqO (PySem.W.nsIn K mainGlobals "_law_runs") (some (some (.ref (He.fAd K ("_law_runs", none))))),
  PySem.W.keepIn K (.ref (He.fAd K ("_law_runs", none))),
  He.eqO (PySem.W.nsIn K mainGlobals "_law_codes") (some (some (.ref (He.fAd K ("_law_codes", none))))),
  PySem.W.keepIn K (.ref (He.fAd K ("_law_codes", none))),
  He.eqO (PySem.W.nsIn K mainGlobals "_law_code") (some (some (.ref (He.fAd K ("_law_code", none))))),
  PySem.W.keepIn K (.ref (He.fAd K ("_law_code", none))),
  He.eqO (PySem.W.nsIn K mainGlobals "_law_blocks_right") (some (some (.ref (He.fAd K ("_law_blocks_right", none))))),
  PySem.W.keepIn K (.ref (He.fAd K ("_law_blocks_right", none))),
  He.eqO (PySem.W.findIn K (.ref (He.ga K "Row")) "__len__") (some (some (.ref (He.fAd K ("Row", some "__len__"))))),
  PySem.W.isFn K (.ref (He.fAd K ("Row", some "__len__"))),
  PySem.W.keepIn K (.ref (He.fAd K ("Row", some "__len__")))]
def fb14 (K : PySem.W.Frag) : List Bool := [He.eqO (PySem.W.findIn K (.ref (He.ga K "NoCode")) "__init__") (some (some (.ref (He.fAd K ("NoCode", some "__init__"))))),
  decide (PySem.W.typeIn K (.ref (He.fAd K ("NoCode", some "__init__"))) = some (.type "function")),
  PySem.W.keepIn K (.ref (He.fAd K ("NoCode", some "__init__"))),
  He.eqO (PySem.W.nsIn K mainGlobals "read_plain") (some (some (.ref (He.fAd K ("read_plain", none))))),
  PySem.W.keepIn K (.ref (He.fAd K ("read_plain", none))),
  He.eqO (PySem.W.nsIn K mainGlobals "read_number") (some (some (.ref (He.fAd K ("read_number", none))))),
  PySem.W.keepIn K (.ref (He.fAd K ("read_number", none))),
  He.eqO (PySem.W.nsIn K mainGlobals "other_bit") (some (some (.ref (He.fAd K ("other_bit", none))))),
  PySem.W.keepIn K (.ref (He.fAd K ("other_bit", none))),
  He.eqO (PySem.W.nsIn K mainGlobals "read_runs") (some (some (.ref (He.fAd K ("read_runs", none))))),
  PySem.W.keepIn K (.ref (He.fAd K ("read_runs", none))),
  He.eqO (PySem.W.nsIn K mainGlobals "read_code") (some (some (.ref (He.fAd K ("read_code", none)))))]
def fb15 (K : PySem.W.Frag) : List Bool := [PySem.W.keepIn K (.ref (He.fAd K ("read_code", none))),
  He.eqO (PySem.W.findIn K (.ref (He.ga K "Row")) "told") (some (some (.ref (He.fAd K ("Row", some "told"))))),
  PySem.W.isFn K (.ref (He.fAd K ("Row", some "told"))),
  PySem.W.keepIn K (.ref (He.fAd K ("Row", some "told"))),
  He.eqO (PySem.W.findIn K (.ref (He.ga K "Row")) "__str__") (some (some (.ref (He.fAd K ("Row", some "__str__"))))),
  PySem.W.isFn K (.ref (He.fAd K ("Row", some "__str__"))),
  PySem.W.keepIn K (.ref (He.fAd K ("Row", some "__str__"))),
  He.eqO (PySem.W.findIn K (.ref (He.ga K "Row")) "__repr__") (some (some (.ref (He.fAd K ("Row", some "__repr__"))))),
  PySem.W.isFn K (.ref (He.fAd K ("Row", some "__repr__"))),
  PySem.W.keepIn K (.ref (He.fAd K ("Row", some "__repr__"))),
  He.eqO (PySem.W.nsIn K mainGlobals "_law_row_right") (some (some (.ref (He.fAd K ("_law_row_right", none))))),
  PySem.W.keepIn K (.ref (He.fAd K ("_law_row_right", none)))]
def fb16 (K : PySem.W.Frag) : List Bool := [He.eqO (PySem.W.nsIn K mainGlobals "_law_wide") (some (some (.ref (He.fAd K ("_law_wide", none))))),
  PySem.W.keepIn K (.ref (He.fAd K ("_law_wide", none))),
  He.eqO (PySem.W.findIn K (.ref (He.ga K "Row")) "__eq__") (some (some (.ref (He.fAd K ("Row", some "__eq__"))))),
  PySem.W.isFn K (.ref (He.fAd K ("Row", some "__eq__"))),
  PySem.W.keepIn K (.ref (He.fAd K ("Row", some "__eq__"))),
  He.eqO (PySem.W.nsIn K mainGlobals "_law_alike") (some (some (.ref (He.fAd K ("_law_alike", none))))),
  PySem.W.keepIn K (.ref (He.fAd K ("_law_alike", none))),
  He.eqO (PySem.W.nsIn K mainGlobals "law") (some (some (.ref (He.fAd K ("law", none))))),
  PySem.W.keepIn K (.ref (He.fAd K ("law", none))),
  He.eqO (PySem.W.nsIn K mainGlobals "READERS") (some (some (.ref (He.ga K "READERS")))),
  He.eqO (PySem.W.nsIn K (He.ga K "READERS") "p") (some (some (.ref (He.fAd K ("read_plain", none))))),
  He.eqO (PySem.W.nsIn K (He.ga K "READERS") "r") (some (some (.ref (He.fAd K ("read_runs", none)))))]
def fb (K : PySem.W.Frag) : Bool := (fb0 K).all id && ((fb1 K).all id && ((fb2 K).all id && ((fb3 K).all id && ((fb4 K).all id && ((fb5 K).all id && ((fb6 K).all id && ((fb7 K).all id && ((fb8 K).all id && ((fb9 K).all id && ((fb10 K).all id && ((fb11 K).all id && ((fb12 K).all id && ((fb13 K).all id && ((fb14 K).all id && ((fb15 K).all id && ((fb16 K).all id && (true)))))))))))))))))
def fs0 : List ((Str × Option Str) × He.FnW) := [(("_law_urn", none), some ("_law_urn", "_law_urn", defArgs st_law_urn, .stmts (defBody st_law_urn), defScope st_law_urn, mainGlobals, [], builtinsNs)),
  (("_law_draw", none), some ("_law_draw", "_law_draw", defArgs st_law_draw, .stmts (defBody st_law_draw), defScope st_law_draw, mainGlobals, [], builtinsNs)),
  (("_law_bits", none), some ("_law_bits", "_law_bits", defArgs st_law_bits, .stmts (defBody st_law_bits), defScope st_law_bits, mainGlobals, [], builtinsNs)),
  (("head_of", none), some ("head_of", "head_of", defArgs st_head_of, .stmts (defBody st_head_of), defScope st_head_of, mainGlobals, [], builtinsNs)),
  (("code_plain", none), some ("code_plain", "code_plain", defArgs st_code_plain, .stmts (defBody st_code_plain), defScope st_code_plain, mainGlobals, [], builtinsNs)),
  (("figures_of", none), some ("figures_of", "figures_of", defArgs st_figures_of, .stmts (defBody st_figures_of), defScope st_figures_of, mainGlobals, [], builtinsNs)),
  (("number_code", none), some ("number_code", "number_code", defArgs st_number_code, .stmts (defBody st_number_code), defScope st_number_code, mainGlobals, [], builtinsNs)),
  (("runs_of", none), some ("runs_of", "runs_of", defArgs st_runs_of, .stmts (defBody st_runs_of), defScope st_runs_of, mainGlobals, [], builtinsNs)),
  (("code_runs", none), some ("code_runs", "code_runs", defArgs st_code_runs, .stmts (defBody st_code_runs), defScope st_code_runs, mainGlobals, [], builtinsNs)),
  (("code_of", none), some ("code_of", "code_of", defArgs st_code_of, .stmts (defBody st_code_of), defScope st_code_of, mainGlobals, [], builtinsNs)),
  (("Row", some "fill"), some ("fill", "Row.fill", defArgs st_Row_fill, .stmts (defBody st_Row_fill), defScope st_Row_fill, mainGlobals, [], builtinsNs)),
  (("Row", some "count_bits"), some ("count_bits", "Row.count_bits", defArgs st_Row_count_bits, .stmts (defBody st_Row_count_bits), defScope st_Row_count_bits, mainGlobals, [], builtinsNs))]
def fs1 : List ((Str × Option Str) × He.FnW) := [(("NoBits", some "__init__"), some ("__init__", "NoBits.__init__", defArgs st_NoBits_init, .stmts (defBody st_NoBits_init), defScope st_NoBits_init, mainGlobals, [], builtinsNs)),
  (("look_bits", none), some ("look_bits", "look_bits", defArgs st_look_bits, .stmts (defBody st_look_bits), defScope st_look_bits, mainGlobals, [], builtinsNs)),
  (("Row", some "__init__"), some ("__init__", "Row.__init__", defArgs st_Row_init, .stmts (defBody st_Row_init), defScope st_Row_init, mainGlobals, [], builtinsNs)),
  (("Row", some "heads"), some ("heads", "Row.heads", defArgs st_Row_heads, .stmts (defBody st_Row_heads), defScope st_Row_heads, mainGlobals, [], builtinsNs)),
  (("Row", some "codes"), some ("codes", "Row.codes", defArgs st_Row_codes, .stmts (defBody st_Row_codes), defScope st_Row_codes, mainGlobals, [], builtinsNs)),
  (("Row", some "room"), some ("room", "Row.room", defArgs st_Row_room, .stmts (defBody st_Row_room), defScope st_Row_room, mainGlobals, [], builtinsNs)),
  (("_law_whole", none), some ("_law_whole", "_law_whole", defArgs st_law_whole, .stmts (defBody st_law_whole), defScope st_law_whole, mainGlobals, [], builtinsNs)),
  (("_law_head", none), some ("_law_head", "_law_head", defArgs st_law_head, .stmts (defBody st_law_head), defScope st_law_head, mainGlobals, [], builtinsNs)),
  (("_law_number_code", none), some ("_law_number_code", "_law_number_code", defArgs st_law_number_code, .stmts (defBody st_law_number_code), defScope st_law_number_code, mainGlobals, [], builtinsNs)),
  (("_law_runs", none), some ("_law_runs", "_law_runs", defArgs st_law_runs, .stmts (defBody st_law_runs), defScope st_law_runs, mainGlobals, [], builtinsNs)),
  (("_law_codes", none), some ("_law_codes", "_law_codes", defArgs st_law_codes, .stmts (defBody st_law_codes), defScope st_law_codes, mainGlobals, [], builtinsNs)),
  (("_law_code", none), some ("_law_code", "_law_code", defArgs st_law_code, .stmts (defBody st_law_code), defScope st_law_code, mainGlobals, [], builtinsNs))]
def fs2 : List ((Str × Option Str) × He.FnW) := [(("_law_blocks_right", none), some ("_law_blocks_right", "_law_blocks_right", defArgs st_law_blocks_right, .stmts (defBody st_law_blocks_right), defScope st_law_blocks_right, mainGlobals, [], builtinsNs)),
  (("Row", some "__len__"), some ("__len__", "Row.__len__", defArgs st_Row_len, .stmts (defBody st_Row_len), defScope st_Row_len, mainGlobals, [], builtinsNs)),
  (("NoCode", some "__init__"), some ("__init__", "NoCode.__init__", defArgs st_NoCode_init, .stmts (defBody st_NoCode_init), defScope st_NoCode_init, mainGlobals, [], builtinsNs)),
  (("read_plain", none), some ("read_plain", "read_plain", defArgs st_read_plain, .stmts (defBody st_read_plain), defScope st_read_plain, mainGlobals, [], builtinsNs)),
  (("read_number", none), some ("read_number", "read_number", defArgs st_read_number, .stmts (defBody st_read_number), defScope st_read_number, mainGlobals, [], builtinsNs)),
  (("other_bit", none), some ("other_bit", "other_bit", defArgs st_other_bit, .stmts (defBody st_other_bit), defScope st_other_bit, mainGlobals, [], builtinsNs)),
  (("read_runs", none), some ("read_runs", "read_runs", defArgs st_read_runs, .stmts (defBody st_read_runs), defScope st_read_runs, mainGlobals, [], builtinsNs)),
  (("read_code", none), some ("read_code", "read_code", defArgs st_read_code, .stmts (defBody st_read_code), defScope st_read_code, mainGlobals, [], builtinsNs)),
  (("Row", some "told"), some ("told", "Row.told", defArgs st_Row_told, .stmts (defBody st_Row_told), defScope st_Row_told, mainGlobals, [], builtinsNs)),
  (("Row", some "__str__"), some ("__str__", "Row.__str__", defArgs st_Row_str, .stmts (defBody st_Row_str), defScope st_Row_str, mainGlobals, [], builtinsNs)),
  (("Row", some "__repr__"), some ("__repr__", "Row.__repr__", defArgs st_Row_repr, .stmts (defBody st_Row_repr), defScope st_Row_repr, mainGlobals, [], builtinsNs)),
  (("_law_row_right", none), some ("_law_row_right", "_law_row_right", defArgs st_law_row_right, .stmts (defBody st_law_row_right), defScope st_law_row_right, mainGlobals, [], builtinsNs))]
def fs3 : List ((Str × Option Str) × He.FnW) := [(("_law_wide", none), some ("_law_wide", "_law_wide", defArgs st_law_wide, .stmts (defBody st_law_wide), defScope st_law_wide, mainGlobals, [], builtinsNs)),
  (("Row", some "__eq__"), some ("__eq__", "Row.__eq__", defArgs st_Row_eq, .stmts (defBody st_Row_eq), defScope st_Row_eq, mainGlobals, [], builtinsNs)),
  (("_law_alike", none), some ("_law_alike", "_law_alike", defArgs st_law_alike, .stmts (defBody st_law_alike), defScope st_law_alike, mainGlobals, [], builtinsNs)),
  (("law", none), some ("law", "law", defArgs st_law, .stmts (defBody st_law), defScope st_law, mainGlobals, [], builtinsNs))]
def fs : List ((Str × Option Str) × He.FnW) := fs0 ++ (fs1 ++ (fs2 ++ (fs3)))
def ts : List He.Tab := [((fun K => He.ga K "READERS"), ["p", "r"])]
def lo0 : List Str := ["_wall", "CountError", "NoCode", "NoBits", "NoPlace", "MOST_BITS_codes", "BITS", "figures_of", "number_code", "runs_of", "code_plain", "code_runs"]
def lo1 : List Str := ["code_of", "read_plain", "read_number", "other_bit", "read_runs", "READERS", "read_code", "head_of", "look_place", "MOST_BITS_rows", "SIZE", "look_bits"]
def lo2 : List Str := ["Row", "_law_urn", "_law_draw", "_law_whole", "_law_bits", "_law_runs", "_law_number_code", "_law_codes", "_law_code", "_law_head", "_law_wide", "_law_blocks_right"]
def lo3 : List Str := ["_law_row_right", "_law_alike"]
def lo : List Str := lo0 ++ (lo1 ++ (lo2 ++ (lo3)))
abbrev hR : PySem.W.OpenRow := PySem.W.OpenLaw.row PySem.Challenge.rw_countedbits_k06_rows_made
abbrev hq : Program := PySem.W.view hR.prog [43]
abbrev hk : PySem.W.Hook := Z.hookZ fb fs ts
def ob (s : PySem.W.SharedT) : Z.AlZ := Z.obsZG fb fs ts (HandSHeadRun.getT s)
theorem ob_eq (s : PySem.W.SharedT) : ob s = hk.obs s.abs := Z.obsZG_eq (HandSHeadRun.getT_eq s)
theorem run_false (w : World) : HandSHeadRun.RunEq hR hq hk ob 30000 lo (w.withFollow "special-get-raises" false) := by
  intro os
  kernel_rfl
theorem run_true (w : World) : HandSHeadRun.RunEq hR hq hk ob 30000 lo (w.withFollow "special-get-raises" true) := by
  intro os
  kernel_rfl
theorem hd_runs (w : World) : HandSHeadRun.RunEq hR hq hk ob 30000 lo w := PySem.W.byRow2 "special-get-raises" run_false run_true w
theorem all_says {w : World} {K : PySem.W.Frag} {h : Heap} {mg : Str → Option Value} {fa : Addr} (X : K.In h) (Gm : h.Ns mainGlobals mg) (hfa : mg "law" = some (.ref fa)) (c : Z.SaysZ fb fs ts w K) :
    ∃ fd : FuncData, (∀ (s : Shared) (v : Value), BindsTo s fd ⟨[v], []⟩ [("_law_script", v)]) ∧ ∀ base : Heap, K.In base → base.Ns mainGlobals mg → FnG PySem.Challenge.rw_countedbits_k06_rows_made.prog w K mg base 13 fa fd ["_law_script"] (sp_law K) := by
  have z : ((fb0 K).all id && ((fb1 K).all id && ((fb2 K).all id && ((fb3 K).all id && ((fb4 K).all id && ((fb5 K).all id && ((fb6 K).all id && ((fb7 K).all id && ((fb8 K).all id && ((fb9 K).all id && ((fb10 K).all id && ((fb11 K).all id && ((fb12 K).all id && ((fb13 K).all id && ((fb14 K).all id && ((fb15 K).all id && ((fb16 K).all id && (true)))))))))))))))))) = true := c.fact
  obtain ⟨z0, z⟩ := He.ba z
  obtain ⟨z1, z⟩ := He.ba z
  obtain ⟨z2, z⟩ := He.ba z
  obtain ⟨z3, z⟩ := He.ba z
  obtain ⟨z4, z⟩ := He.ba z
  obtain ⟨z5, z⟩ := He.ba z
  obtain ⟨z6, z⟩ := He.ba z
  obtain ⟨z7, z⟩ := He.ba z
  obtain ⟨z8, z⟩ := He.ba z
  obtain ⟨z9, z⟩ := He.ba z
  obtain ⟨z10, z⟩ := He.ba z
  obtain ⟨z11, z⟩ := He.ba z
  obtain ⟨z12, z⟩ := He.ba z
  obtain ⟨z13, z⟩ := He.ba z
  obtain ⟨z14, z⟩ := He.ba z
  obtain ⟨z15, z⟩ := He.ba z
  obtain ⟨z16, z⟩ := He.ba z
  obtain ⟨oc_law_urn, od_law_urn, dV_law_urn, kV_law_urn, dc_law_urn, pm_law_urn, an_law_urn, cd_law_urn, ct_law_urn, sl_law_urn, l_law_urn, y_law_urn⟩ := Z.fn_at (c.fn 0) (Z.all_get z0 0)
  obtain ⟨c_law_urn, y_law_urn⟩ := He.ba y_law_urn
  obtain ⟨y_law_urn, ky_law_urn⟩ := He.ba y_law_urn
  obtain rfl := Z.none_ok y_law_urn
  obtain ⟨oc_law_draw, od_law_draw, dV_law_draw, kV_law_draw, dc_law_draw, pm_law_draw, an_law_draw, cd_law_draw, ct_law_draw, sl_law_draw, l_law_draw, y_law_draw⟩ := Z.fn_at (c.fn 1) (Z.all_get z0 1)
  obtain ⟨c_law_draw, y_law_draw⟩ := He.ba y_law_draw
  obtain ⟨y_law_draw, ky_law_draw⟩ := He.ba y_law_draw
  obtain rfl := Z.none_ok y_law_draw
  obtain ⟨oc_law_bits, od_law_bits, dV_law_bits, kV_law_bits, dc_law_bits, pm_law_bits, an_law_bits, cd_law_bits, ct_law_bits, sl_law_bits, l_law_bits, y_law_bits⟩ := Z.fn_at (c.fn 2) (Z.all_get z0 2)
  obtain ⟨c_law_bits, y_law_bits⟩ := He.ba y_law_bits
  obtain ⟨y_law_bits, ky_law_bits⟩ := He.ba y_law_bits
  obtain rfl := Z.none_ok y_law_bits
  obtain ⟨oc_head_of, od_head_of, dV_head_of, kV_head_of, dc_head_of, pm_head_of, an_head_of, cd_head_of, ct_head_of, sl_head_of, l_head_of, y_head_of⟩ := Z.fn_at (c.fn 3) (Z.all_get z0 3)
  obtain ⟨c_head_of, y_head_of⟩ := He.ba y_head_of
  obtain ⟨y_head_of, ky_head_of⟩ := He.ba y_head_of
  obtain rfl := Z.none_ok y_head_of
  obtain ⟨oc_code_plain, od_code_plain, dV_code_plain, kV_code_plain, dc_code_plain, pm_code_plain, an_code_plain, cd_code_plain, ct_code_plain, sl_code_plain, l_code_plain, y_code_plain⟩ := Z.fn_at (c.fn 4) (Z.all_get z0 4)
  obtain ⟨c_code_plain, y_code_plain⟩ := He.ba y_code_plain
  obtain ⟨y_code_plain, ky_code_plain⟩ := He.ba y_code_plain
  obtain rfl := Z.none_ok y_code_plain
  obtain ⟨oc_figures_of, od_figures_of, dV_figures_of, kV_figures_of, dc_figures_of, pm_figures_of, an_figures_of, cd_figures_of, ct_figures_of, sl_figures_of, l_figures_of, y_figures_of⟩ := Z.fn_at (c.fn 5) (Z.all_get z0 5)
  obtain ⟨c_figures_of, y_figures_of⟩ := He.ba y_figures_of
  obtain ⟨y_figures_of, ky_figures_of⟩ := He.ba y_figures_of
  obtain rfl := Z.none_ok y_figures_of
  obtain ⟨oc_number_code, od_number_code, dV_number_code, kV_number_code, dc_number_code, pm_number_code, an_number_code, cd_number_code, ct_number_code, sl_number_code, l_number_code, y_number_code⟩ := Z.fn_at (c.fn 6) (Z.all_get z0 6)
  obtain ⟨c_number_code, y_number_code⟩ := He.ba y_number_code
  obtain ⟨y_number_code, ky_number_code⟩ := He.ba y_number_code
  obtain rfl := Z.none_ok y_number_code
  obtain ⟨oc_runs_of, od_runs_of, dV_runs_of, kV_runs_of, dc_runs_of, pm_runs_of, an_runs_of, cd_runs_of, ct_runs_of, sl_runs_of, l_runs_of, y_runs_of⟩ := Z.fn_at (c.fn 7) (Z.all_get z0 7)
  obtain ⟨c_runs_of, y_runs_of⟩ := He.ba y_runs_of
  obtain ⟨y_runs_of, ky_runs_of⟩ := He.ba y_runs_of
  obtain rfl := Z.none_ok y_runs_of
  obtain ⟨oc_code_runs, od_code_runs, dV_code_runs, kV_code_runs, dc_code_runs, pm_code_runs, an_code_runs, cd_code_runs, ct_code_runs, sl_code_runs, l_code_runs, y_code_runs⟩ := Z.fn_at (c.fn 8) (Z.all_get z0 8)
  obtain ⟨c_code_runs, y_code_runs⟩ := He.ba y_code_runs
  obtain ⟨y_code_runs, ky_code_runs⟩ := He.ba y_code_runs
  obtain rfl := Z.none_ok y_code_runs
  obtain ⟨oc_code_of, od_code_of, dV_code_of, kV_code_of, dc_code_of, pm_code_of, an_code_of, cd_code_of, ct_code_of, sl_code_of, l_code_of, y_code_of⟩ := Z.fn_at (c.fn 9) (Z.all_get z0 9)
  obtain ⟨c_code_of, y_code_of⟩ := He.ba y_code_of
  obtain ⟨y_code_of, ky_code_of⟩ := He.ba y_code_of
  obtain rfl := Z.none_ok y_code_of
  obtain ⟨oc_Row_fill, od_Row_fill, dV_Row_fill, kV_Row_fill, dc_Row_fill, pm_Row_fill, an_Row_fill, cd_Row_fill, ct_Row_fill, sl_Row_fill, l_Row_fill, y_Row_fill⟩ := Z.fn_at (c.fn 10) (Z.all_get z0 10)
  obtain ⟨c_Row_fill, y_Row_fill⟩ := He.ba y_Row_fill
  obtain ⟨y_Row_fill, ky_Row_fill⟩ := He.ba y_Row_fill
  obtain rfl := Z.none_ok y_Row_fill
  obtain ⟨oc_Row_count_bits, od_Row_count_bits, dV_Row_count_bits, kV_Row_count_bits, dc_Row_count_bits, pm_Row_count_bits, an_Row_count_bits, cd_Row_count_bits, ct_Row_count_bits, sl_Row_count_bits, l_Row_count_bits, y_Row_count_bits⟩ := Z.fn_at (c.fn 11) (Z.all_get z0 11)
  obtain ⟨c_Row_count_bits, y_Row_count_bits⟩ := He.ba y_Row_count_bits
  obtain ⟨y_Row_count_bits, ky_Row_count_bits⟩ := He.ba y_Row_count_bits
  obtain rfl := Z.none_ok y_Row_count_bits
  obtain ⟨oc_NoBits_init, od_NoBits_init, dV_NoBits_init, kV_NoBits_init, dc_NoBits_init, pm_NoBits_init, an_NoBits_init, cd_NoBits_init, ct_NoBits_init, sl_NoBits_init, l_NoBits_init, y_NoBits_init⟩ := Z.fn_at (c.fn 12) (Z.all_get z1 0)
  obtain ⟨c_NoBits_init, y_NoBits_init⟩ := He.ba y_NoBits_init
  obtain ⟨y_NoBits_init, ky_NoBits_init⟩ := He.ba y_NoBits_init
  obtain rfl := Z.none_ok y_NoBits_init
  obtain ⟨oc_look_bits, od_look_bits, dV_look_bits, kV_look_bits, dc_look_bits, pm_look_bits, an_look_bits, cd_look_bits, ct_look_bits, sl_look_bits, l_look_bits, y_look_bits⟩ := Z.fn_at (c.fn 13) (Z.all_get z1 1)
  obtain ⟨c_look_bits, y_look_bits⟩ := He.ba y_look_bits
  obtain ⟨y_look_bits, ky_look_bits⟩ := He.ba y_look_bits
  obtain rfl := Z.none_ok y_look_bits
  obtain ⟨oc_Row_init, od_Row_init, dV_Row_init, kV_Row_init, dc_Row_init, pm_Row_init, an_Row_init, cd_Row_init, ct_Row_init, sl_Row_init, l_Row_init, y_Row_init⟩ := Z.fn_at (c.fn 14) (Z.all_get z1 2)
  obtain ⟨c_Row_init, y_Row_init⟩ := He.ba y_Row_init
  obtain ⟨y_Row_init, ky_Row_init⟩ := He.ba y_Row_init
  obtain ⟨dT_Row_init, dc0_Row_init, dd_Row_init, us_Row_init, dn_Row_init, ds_Row_init, rfl, t_Row_init, vs_Row_init⟩ := Z.dfl_at y_Row_init
  obtain ⟨u_Row_init_bits, us_Row_init, rfl, rv_Row_init_bits, vs_Row_init⟩ := Z.vals_c vs_Row_init
  obtain rfl := Z.vals_n vs_Row_init
  obtain ⟨kd_Row_init, rfl, kq_Row_init⟩ := Z.kwd_at ky_Row_init
  obtain ⟨u_Row_init_size, kw_Row_init_size, rv_Row_init_size⟩ := kq_Row_init ("size", .int 16) (by simp)
  obtain ⟨oc_Row_heads, od_Row_heads, dV_Row_heads, kV_Row_heads, dc_Row_heads, pm_Row_heads, an_Row_heads, cd_Row_heads, ct_Row_heads, sl_Row_heads, l_Row_heads, y_Row_heads⟩ := Z.fn_at (c.fn 15) (Z.all_get z1 3)
  obtain ⟨c_Row_heads, y_Row_heads⟩ := He.ba y_Row_heads
  obtain ⟨y_Row_heads, ky_Row_heads⟩ := He.ba y_Row_heads
  obtain rfl := Z.none_ok y_Row_heads
  obtain ⟨oc_Row_codes, od_Row_codes, dV_Row_codes, kV_Row_codes, dc_Row_codes, pm_Row_codes, an_Row_codes, cd_Row_codes, ct_Row_codes, sl_Row_codes, l_Row_codes, y_Row_codes⟩ := Z.fn_at (c.fn 16) (Z.all_get z1 4)
  obtain ⟨c_Row_codes, y_Row_codes⟩ := He.ba y_Row_codes
  obtain ⟨y_Row_codes, ky_Row_codes⟩ := He.ba y_Row_codes
  obtain rfl := Z.none_ok y_Row_codes
  obtain ⟨oc_Row_room, od_Row_room, dV_Row_room, kV_Row_room, dc_Row_room, pm_Row_room, an_Row_room, cd_Row_room, ct_Row_room, sl_Row_room, l_Row_room, y_Row_room⟩ := Z.fn_at (c.fn 17) (Z.all_get z1 5)
  obtain ⟨c_Row_room, y_Row_room⟩ := He.ba y_Row_room
  obtain ⟨y_Row_room, ky_Row_room⟩ := He.ba y_Row_room
  obtain rfl := Z.none_ok y_Row_room
  obtain ⟨oc_law_whole, od_law_whole, dV_law_whole, kV_law_whole, dc_law_whole, pm_law_whole, an_law_whole, cd_law_whole, ct_law_whole, sl_law_whole, l_law_whole, y_law_whole⟩ := Z.fn_at (c.fn 18) (Z.all_get z1 6)
  obtain ⟨c_law_whole, y_law_whole⟩ := He.ba y_law_whole
  obtain ⟨y_law_whole, ky_law_whole⟩ := He.ba y_law_whole
  obtain rfl := Z.none_ok y_law_whole
  obtain ⟨oc_law_head, od_law_head, dV_law_head, kV_law_head, dc_law_head, pm_law_head, an_law_head, cd_law_head, ct_law_head, sl_law_head, l_law_head, y_law_head⟩ := Z.fn_at (c.fn 19) (Z.all_get z1 7)
  obtain ⟨c_law_head, y_law_head⟩ := He.ba y_law_head
  obtain ⟨y_law_head, ky_law_head⟩ := He.ba y_law_head
  obtain rfl := Z.none_ok y_law_head
  obtain ⟨oc_law_number_code, od_law_number_code, dV_law_number_code, kV_law_number_code, dc_law_number_code, pm_law_number_code, an_law_number_code, cd_law_number_code, ct_law_number_code, sl_law_number_code, l_law_number_code, y_law_number_code⟩ := Z.fn_at (c.fn 20) (Z.all_get z1 8)
  obtain ⟨c_law_number_code, y_law_number_code⟩ := He.ba y_law_number_code
  obtain ⟨y_law_number_code, ky_law_number_code⟩ := He.ba y_law_number_code
  obtain rfl := Z.none_ok y_law_number_code
  obtain ⟨oc_law_runs, od_law_runs, dV_law_runs, kV_law_runs, dc_law_runs, pm_law_runs, an_law_runs, cd_law_runs, ct_law_runs, sl_law_runs, l_law_runs, y_law_runs⟩ := Z.fn_at (c.fn 21) (Z.all_get z1 9)
  obtain ⟨c_law_runs, y_law_runs⟩ := He.ba y_law_runs
  obtain ⟨y_law_runs, ky_law_runs⟩ := He.ba y_law_runs
  obtain rfl := Z.none_ok y_law_runs
  obtain ⟨oc_law_codes, od_law_codes, dV_law_codes, kV_law_codes, dc_law_codes, pm_law_codes, an_law_codes, cd_law_codes, ct_law_codes, sl_law_codes, l_law_codes, y_law_codes⟩ := Z.fn_at (c.fn 22) (Z.all_get z1 10)
  obtain ⟨c_law_codes, y_law_codes⟩ := He.ba y_law_codes
  obtain ⟨y_law_codes, ky_law_codes⟩ := He.ba y_law_codes
  obtain rfl := Z.none_ok y_law_codes
  obtain ⟨oc_law_code, od_law_code, dV_law_code, kV_law_code, dc_law_code, pm_law_code, an_law_code, cd_law_code, ct_law_code, sl_law_code, l_law_code, y_law_code⟩ := Z.fn_at (c.fn 23) (Z.all_get z1 11)
  obtain ⟨c_law_code, y_law_code⟩ := He.ba y_law_code
  obtain ⟨y_law_code, ky_law_code⟩ := He.ba y_law_code
  obtain rfl := Z.none_ok y_law_code
  obtain ⟨oc_law_blocks_right, od_law_blocks_right, dV_law_blocks_right, kV_law_blocks_right, dc_law_blocks_right, pm_law_blocks_right, an_law_blocks_right, cd_law_blocks_right, ct_law_blocks_right, sl_law_blocks_right, l_law_blocks_right, y_law_blocks_right⟩ := Z.fn_at (c.fn 24) (Z.all_get z2 0)
  obtain ⟨c_law_blocks_right, y_law_blocks_right⟩ := He.ba y_law_blocks_right
  obtain ⟨y_law_blocks_right, ky_law_blocks_right⟩ := He.ba y_law_blocks_right
  obtain rfl := Z.none_ok y_law_blocks_right
  obtain ⟨oc_Row_len, od_Row_len, dV_Row_len, kV_Row_len, dc_Row_len, pm_Row_len, an_Row_len, cd_Row_len, ct_Row_len, sl_Row_len, l_Row_len, y_Row_len⟩ := Z.fn_at (c.fn 25) (Z.all_get z2 1)
  obtain ⟨c_Row_len, y_Row_len⟩ := He.ba y_Row_len
  obtain ⟨y_Row_len, ky_Row_len⟩ := He.ba y_Row_len
  obtain rfl := Z.none_ok y_Row_len
  obtain ⟨oc_NoCode_init, od_NoCode_init, dV_NoCode_init, kV_NoCode_init, dc_NoCode_init, pm_NoCode_init, an_NoCode_init, cd_NoCode_init, ct_NoCode_init, sl_NoCode_init, l_NoCode_init, y_NoCode_init⟩ := Z.fn_at (c.fn 26) (Z.all_get z2 2)
  obtain ⟨c_NoCode_init, y_NoCode_init⟩ := He.ba y_NoCode_init
  obtain ⟨y_NoCode_init, ky_NoCode_init⟩ := He.ba y_NoCode_init
  obtain rfl := Z.none_ok y_NoCode_init
  obtain ⟨oc_read_plain, od_read_plain, dV_read_plain, kV_read_plain, dc_read_plain, pm_read_plain, an_read_plain, cd_read_plain, ct_read_plain, sl_read_plain, l_read_plain, y_read_plain⟩ := Z.fn_at (c.fn 27) (Z.all_get z2 3)
  obtain ⟨c_read_plain, y_read_plain⟩ := He.ba y_read_plain
  obtain ⟨y_read_plain, ky_read_plain⟩ := He.ba y_read_plain
  obtain rfl := Z.none_ok y_read_plain
  obtain ⟨oc_read_number, od_read_number, dV_read_number, kV_read_number, dc_read_number, pm_read_number, an_read_number, cd_read_number, ct_read_number, sl_read_number, l_read_number, y_read_number⟩ := Z.fn_at (c.fn 28) (Z.all_get z2 4)
  obtain ⟨c_read_number, y_read_number⟩ := He.ba y_read_number
  obtain ⟨y_read_number, ky_read_number⟩ := He.ba y_read_number
  obtain rfl := Z.none_ok y_read_number
  obtain ⟨oc_other_bit, od_other_bit, dV_other_bit, kV_other_bit, dc_other_bit, pm_other_bit, an_other_bit, cd_other_bit, ct_other_bit, sl_other_bit, l_other_bit, y_other_bit⟩ := Z.fn_at (c.fn 29) (Z.all_get z2 5)
  obtain ⟨c_other_bit, y_other_bit⟩ := He.ba y_other_bit
  obtain ⟨y_other_bit, ky_other_bit⟩ := He.ba y_other_bit
  obtain rfl := Z.none_ok y_other_bit
  obtain ⟨oc_read_runs, od_read_runs, dV_read_runs, kV_read_runs, dc_read_runs, pm_read_runs, an_read_runs, cd_read_runs, ct_read_runs, sl_read_runs, l_read_runs, y_read_runs⟩ := Z.fn_at (c.fn 30) (Z.all_get z2 6)
  obtain ⟨c_read_runs, y_read_runs⟩ := He.ba y_read_runs
  obtain ⟨y_read_runs, ky_read_runs⟩ := He.ba y_read_runs
  obtain rfl := Z.none_ok y_read_runs
  obtain ⟨oc_read_code, od_read_code, dV_read_code, kV_read_code, dc_read_code, pm_read_code, an_read_code, cd_read_code, ct_read_code, sl_read_code, l_read_code, y_read_code⟩ := Z.fn_at (c.fn 31) (Z.all_get z2 7)
  obtain ⟨c_read_code, y_read_code⟩ := He.ba y_read_code
  obtain ⟨y_read_code, ky_read_code⟩ := He.ba y_read_code
  obtain rfl := Z.none_ok y_read_code
  obtain ⟨oc_Row_told, od_Row_told, dV_Row_told, kV_Row_told, dc_Row_told, pm_Row_told, an_Row_told, cd_Row_told, ct_Row_told, sl_Row_told, l_Row_told, y_Row_told⟩ := Z.fn_at (c.fn 32) (Z.all_get z2 8)
  obtain ⟨c_Row_told, y_Row_told⟩ := He.ba y_Row_told
  obtain ⟨y_Row_told, ky_Row_told⟩ := He.ba y_Row_told
  obtain rfl := Z.none_ok y_Row_told
  obtain ⟨oc_Row_str, od_Row_str, dV_Row_str, kV_Row_str, dc_Row_str, pm_Row_str, an_Row_str, cd_Row_str, ct_Row_str, sl_Row_str, l_Row_str, y_Row_str⟩ := Z.fn_at (c.fn 33) (Z.all_get z2 9)
  obtain ⟨c_Row_str, y_Row_str⟩ := He.ba y_Row_str
  obtain ⟨y_Row_str, ky_Row_str⟩ := He.ba y_Row_str
  obtain rfl := Z.none_ok y_Row_str
  obtain ⟨oc_Row_repr, od_Row_repr, dV_Row_repr, kV_Row_repr, dc_Row_repr, pm_Row_repr, an_Row_repr, cd_Row_repr, ct_Row_repr, sl_Row_repr, l_Row_repr, y_Row_repr⟩ := Z.fn_at (c.fn 34) (Z.all_get z2 10)
  obtain ⟨c_Row_repr, y_Row_repr⟩ := He.ba y_Row_repr
  obtain ⟨y_Row_repr, ky_Row_repr⟩ := He.ba y_Row_repr
  obtain rfl := Z.none_ok y_Row_repr
  obtain ⟨oc_law_row_right, od_law_row_right, dV_law_row_right, kV_law_row_right, dc_law_row_right, pm_law_row_right, an_law_row_right, cd_law_row_right, ct_law_row_right, sl_law_row_right, l_law_row_right, y_law_row_right⟩ := Z.fn_at (c.fn 35) (Z.all_get z2 11)
  obtain ⟨c_law_row_right, y_law_row_right⟩ := He.ba y_law_row_right
  obtain ⟨y_law_row_right, ky_law_row_right⟩ := He.ba y_law_row_right
  obtain rfl := Z.none_ok y_law_row_right
  obtain ⟨oc_law_wide, od_law_wide, dV_law_wide, kV_law_wide, dc_law_wide, pm_law_wide, an_law_wide, cd_law_wide, ct_law_wide, sl_law_wide, l_law_wide, y_law_wide⟩ := Z.fn_at (c.fn 36) (Z.all_get z3 0)
  obtain ⟨c_law_wide, y_law_wide⟩ := He.ba y_law_wide
  obtain ⟨y_law_wide, ky_law_wide⟩ := He.ba y_law_wide
  obtain rfl := Z.none_ok y_law_wide
  obtain ⟨oc_Row_eq, od_Row_eq, dV_Row_eq, kV_Row_eq, dc_Row_eq, pm_Row_eq, an_Row_eq, cd_Row_eq, ct_Row_eq, sl_Row_eq, l_Row_eq, y_Row_eq⟩ := Z.fn_at (c.fn 37) (Z.all_get z3 1)
  obtain ⟨c_Row_eq, y_Row_eq⟩ := He.ba y_Row_eq
  obtain ⟨y_Row_eq, ky_Row_eq⟩ := He.ba y_Row_eq
  obtain rfl := Z.none_ok y_Row_eq
  obtain ⟨oc_law_alike, od_law_alike, dV_law_alike, kV_law_alike, dc_law_alike, pm_law_alike, an_law_alike, cd_law_alike, ct_law_alike, sl_law_alike, l_law_alike, y_law_alike⟩ := Z.fn_at (c.fn 38) (Z.all_get z3 2)
  obtain ⟨c_law_alike, y_law_alike⟩ := He.ba y_law_alike
  obtain ⟨y_law_alike, ky_law_alike⟩ := He.ba y_law_alike
  obtain rfl := Z.none_ok y_law_alike
  obtain ⟨oc_law, od_law, dV_law, kV_law, dc_law, pm_law, an_law, cd_law, ct_law, sl_law, l_law, y_law⟩ := Z.fn_at (c.fn 39) (Z.all_get z3 3)
  obtain ⟨c_law, y_law⟩ := He.ba y_law
  obtain ⟨y_law, ky_law⟩ := He.ba y_law
  obtain rfl := Z.none_ok y_law
  obtain ⟨es_READERS, m_READERS, kd_READERS⟩ := c.tab 0
  obtain ⟨ci_Row, oc8_Row⟩ := Option.isSome_iff_exists.mp (Z.all_get z7 1)
  obtain ⟨_, _, _, _, _, _, _, _, _, _, _, _, _, _, x_NoBits⟩ := Z.exc_at (Z.all_get z7 9)
  obtain ⟨_, _, _, _, _, _, _, _, _, _, _, _, _, _, x_NoCode⟩ := Z.exc_at (Z.all_get z8 3)
  exact all_mk X Gm hfa (He.eqO_ok (Z.all_get z3 4))
    (He.eqO_ok (Z.all_get z3 5))
    (He.eqO_ok (Z.all_get z3 6))
    (He.eqO_ok (Z.all_get z3 7))
    (He.eqO_ok (Z.all_get z3 8))
    (He.eqO_ok (Z.all_get z3 9))
    (He.eqO_ok (Z.all_get z3 10))
    (He.eqO_ok (Z.all_get z3 11))
    (He.eqO_ok (Z.all_get z4 0))
    (He.eqO_ok (Z.all_get z4 1))
    (He.eqO_ok (Z.all_get z4 2))
    (He.eqO_ok (Z.all_get z4 3))
    (He.eqO_ok (Z.all_get z4 4))
    (He.eqO_ok (Z.all_get z4 5))
    (He.eqO_ok (Z.all_get z4 6))
    (He.eqO_ok (Z.all_get z4 7))
    (He.eqO_ok (Z.all_get z4 8))
    (He.eqO_ok (Z.all_get z4 9))
    (He.int_ok X Gm (Z.all_get z4 10))
    (He.str_ok X Gm (Z.all_get z4 11))
    (He.int_ok X Gm (Z.all_get z5 0))
    (He.int_ok X Gm (Z.all_get z5 1))
    (He.eqO_ok (Z.all_get z5 2))
    (He.eqO_ok (Z.all_get z5 3))
    (He.eqO_ok (Z.all_get z5 4))
    (He.eqO_ok (Z.all_get z5 5))
    (Z.all_get z5 6)
    (Z.all_get z5 7)
    (Z.all_get z5 8)
    (He.eqO_ok (Z.all_get z5 9))
    (He.eqO_ok (Z.all_get z5 10))
    (He.eqO_ok (Z.all_get z5 11))
    (He.eqO_ok (Z.all_get z6 0))
    (He.eqO_ok (Z.all_get z6 1))
    (He.eqO_ok (Z.all_get z6 2))
    (Z.all_get z6 3)
    (Z.all_get z6 4)
    (of_decide_eq_true (Z.all_get z6 5))
    (He.eqO_ok (Z.all_get z6 6))
    (He.eqO_ok (Z.all_get z6 7))
    (of_decide_eq_true (Z.all_get z6 8))
    (He.eqO_ok (Z.all_get z6 9))
    (He.eqO_ok (Z.all_get z6 10))
    (of_decide_eq_true (Z.all_get z6 11))
    (of_decide_eq_true (Z.all_get z7 0))
    oc8_Row
    (of_decide_eq_true (Z.all_get z7 2))
    (of_decide_eq_true (Z.all_get z7 3))
    (of_decide_eq_true (Z.all_get z7 4))
    (of_decide_eq_true (Z.all_get z7 5))
    (of_decide_eq_true (Z.all_get z7 6))
    (of_decide_eq_true (Z.all_get z7 7))
    (of_decide_eq_true (Z.all_get z7 8))
    x_NoBits
    (He.eqO_ok (Z.all_get z7 10))
    (of_decide_eq_true (Z.all_get z7 11))
    (of_decide_eq_true (Z.all_get z8 0))
    (Z.all_get z8 1)
    (He.eqO_ok (Z.all_get z8 2))
    x_NoCode
    (He.eqO_ok (Z.all_get z8 4))
    (of_decide_eq_true (Z.all_get z8 5))
    (of_decide_eq_true (Z.all_get z8 6))
    (Z.all_get z8 7)
    (He.eqO_ok (Z.all_get z8 8))
    (Z.all_get z8 9)
    (He.eqO_ok (Z.all_get z8 10))
    (Z.cls_ok (Z.all_get z8 11))
    (He.eqO_ok (Z.all_get z9 0))
    l_law_urn
    c_law_urn
    (Z.all_get z9 1)
    (He.eqO_ok (Z.all_get z9 2))
    l_law_draw
    c_law_draw
    (Z.all_get z9 3)
    (He.eqO_ok (Z.all_get z9 4))
    l_law_bits
    c_law_bits
    (Z.all_get z9 5)
    (He.eqO_ok (Z.all_get z9 6))
    l_head_of
    c_head_of
    (Z.all_get z9 7)
    (He.eqO_ok (Z.all_get z9 8))
    l_code_plain
    c_code_plain
    (Z.all_get z9 9)
    (He.eqO_ok (Z.all_get z9 10))
    l_figures_of
    c_figures_of
    (Z.all_get z9 11)
    (He.eqO_ok (Z.all_get z10 0))
    l_number_code
    c_number_code
    (Z.all_get z10 1)
    (He.eqO_ok (Z.all_get z10 2))
    l_runs_of
    c_runs_of
    (Z.all_get z10 3)
    (He.eqO_ok (Z.all_get z10 4))
    l_code_runs
    c_code_runs
    (Z.all_get z10 5)
    (He.eqO_ok (Z.all_get z10 6))
    l_code_of
    c_code_of
    (Z.all_get z10 7)
    (He.eqO_ok (Z.all_get z10 8))
    (Z.all_get z10 9)
    l_Row_fill
    c_Row_fill
    (Z.all_get z10 10)
    (He.eqO_ok (Z.all_get z10 11))
    (Z.all_get z11 0)
    l_Row_count_bits
    c_Row_count_bits
    (Z.all_get z11 1)
    (He.eqO_ok (Z.all_get z11 2))
    (of_decide_eq_true (Z.all_get z11 3))
    l_NoBits_init
    c_NoBits_init
    (Z.all_get z11 4)
    (He.eqO_ok (Z.all_get z11 5))
    l_look_bits
    c_look_bits
    (Z.all_get z11 6)
    (He.eqO_ok (Z.all_get z11 7))
    (Z.all_get z11 8)
    l_Row_init
    c_Row_init
    (Z.all_get z11 9)
    t_Row_init
    kw_Row_init_size
    rv_Row_init_bits
    rv_Row_init_size
    (He.eqO_ok (Z.all_get z11 10))
    (Z.all_get z11 11)
    l_Row_heads
    c_Row_heads
    (Z.all_get z12 0)
    (He.eqO_ok (Z.all_get z12 1))
    (Z.all_get z12 2)
    l_Row_codes
    c_Row_codes
    (Z.all_get z12 3)
    (He.eqO_ok (Z.all_get z12 4))
    (Z.all_get z12 5)
    l_Row_room
    c_Row_room
    (Z.all_get z12 6)
    (He.eqO_ok (Z.all_get z12 7))
    l_law_whole
    c_law_whole
    (Z.all_get z12 8)
    (He.eqO_ok (Z.all_get z12 9))
    l_law_head
    c_law_head
    (Z.all_get z12 10)
    (He.eqO_ok (Z.all_get z12 11))
    l_law_number_code
    c_law_number_code
    (Z.all_get z13 0)
    (He.eqO_ok (Z.all_get z13 1))
    l_law_runs
    c_law_runs
    (Z.all_get z13 2)
    (He.eqO_ok (Z.all_get z13 3))
    l_law_codes
    c_law_codes
    (Z.all_get z13 4)
    (He.eqO_ok (Z.all_get z13 5))
    l_law_code
    c_law_code
    (Z.all_get z13 6)
    (He.eqO_ok (Z.all_get z13 7))
    l_law_blocks_right
    c_law_blocks_right
    (Z.all_get z13 8)
    (He.eqO_ok (Z.all_get z13 9))
    (Z.all_get z13 10)
    l_Row_len
    c_Row_len
    (Z.all_get z13 11)
    (He.eqO_ok (Z.all_get z14 0))
    (of_decide_eq_true (Z.all_get z14 1))
    l_NoCode_init
    c_NoCode_init
    (Z.all_get z14 2)
    (He.eqO_ok (Z.all_get z14 3))
    l_read_plain
    c_read_plain
    (Z.all_get z14 4)
    (He.eqO_ok (Z.all_get z14 5))
    l_read_number
    c_read_number
    (Z.all_get z14 6)
    (He.eqO_ok (Z.all_get z14 7))
    l_other_bit
    c_other_bit
    (Z.all_get z14 8)
    (He.eqO_ok (Z.all_get z14 9))
    l_read_runs
    c_read_runs
    (Z.all_get z14 10)
    (He.eqO_ok (Z.all_get z14 11))
    l_read_code
    c_read_code
    (Z.all_get z15 0)
    (He.eqO_ok (Z.all_get z15 1))
    (Z.all_get z15 2)
    l_Row_told
    c_Row_told
    (Z.all_get z15 3)
    (He.eqO_ok (Z.all_get z15 4))
    (Z.all_get z15 5)
    l_Row_str
    c_Row_str
    (Z.all_get z15 6)
    (He.eqO_ok (Z.all_get z15 7))
    (Z.all_get z15 8)
    l_Row_repr
    c_Row_repr
    (Z.all_get z15 9)
    (He.eqO_ok (Z.all_get z15 10))
    l_law_row_right
    c_law_row_right
    (Z.all_get z15 11)
    (He.eqO_ok (Z.all_get z16 0))
    l_law_wide
    c_law_wide
    (Z.all_get z16 1)
    (He.eqO_ok (Z.all_get z16 2))
    (Z.all_get z16 3)
    l_Row_eq
    c_Row_eq
    (Z.all_get z16 4)
    (He.eqO_ok (Z.all_get z16 5))
    l_law_alike
    c_law_alike
    (Z.all_get z16 6)
    (He.eqO_ok (Z.all_get z16 7))
    l_law
    c_law
    (Z.all_get z16 8)
    (He.eqO_ok (Z.all_get z16 9))
    kd_READERS.at_
    kd_READERS.lit
    kd_READERS.low
    (He.eqO_ok (Z.all_get z16 10))
    (He.eqO_ok (Z.all_get z16 11))
end My
open PySem PySem.W PySem.Calls PyProof.Rows My in
set_option maxRecDepth 100000 in
set_option maxHeartbeats 0 in
theorem PySem.Challenge.cw_countedbits_k06_rows_made_holds : PySem.Challenge.rw_countedbits_k06_rows_made.Holds := by
  w_on; o_law
  refine HandSHeadRun.head_any (r := OpenLaw.row PySem.Challenge.rw_countedbits_k06_rows_made) (q := My.hq) (H := My.hk) (ob := My.ob) (M := 30000) (loose := My.lo) (d := HandSHeadRun.topDef (OpenLaw.row PySem.Challenge.rw_countedbits_k06_rows_made).prog 43) (kwd := []) My.ob_eq
    (by kernel_rfl) (fun s => by kernel_rfl) My.hd_runs (by kernel_rfl) (by kernel_rfl) (by kernel_rfl) (by rfl) (by first | assumption | decide +kernel) (by decide +kernel) ⟨rfl, rfl, rfl, rfl, rfl, by decide +kernel⟩ ?hw ?hc
  case hw => w_witness2
  case hc =>
    refine Z.walk_h (l := PySem.Challenge.rw_countedbits_k06_rows_made) (n := 63) (k := 13) (x := "_law_script") (sp := fun K => sp_law K) rfl (by decide) (by kernel_rfl) ⟨rfl, by decide, by decide⟩ ?F (fun K H a ns hl hS => ⟨a, ns, rfl, hS, hl, fun _ => rfl⟩)
    intro w mg fa h Y Gm hmg0
    obtain ⟨K, KX, c⟩ := Y
    have hmg : mg ("law" : PySem.Str) = some (.ref fa) := by
      have e : (HandSHeadRun.topDef (OpenLaw.row PySem.Challenge.rw_countedbits_k06_rows_made).prog 43).name = ("law" : PySem.Str) := by kernel_rfl
      rw [← e]
      exact hmg0
    exact ⟨K, KX, My.all_says KX Gm hmg c⟩
#print axioms PySem.Challenge.cw_countedbits_k06_rows_made_holds
