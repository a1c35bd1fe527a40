import PyProof.Rows.All
import Wide.All
import OpenK.AllK
import Wide.FinOn
import HandS.Base
import HandS.Call
import HandS.List
import HandS.Comp
import HandS.Text
import HandS.Iter
import HandS.Ends
import HandS.Exc
import HandS.ExcOwn
import PyProof.StrOps2
import PyProof.ReprRoads
import PyProof.StrLawsRepr
import PyProof.Rows.RegReprOcc
import KE.GoesNew
import KE.GoesEnumKw
import HandS.Flow
import HandS.Walk
import HandS.WideBits
import HandS.Words
import HandS.Evl
import HandS.Style
import KE.GoesMore
import HandS.More
import HandS.CallLocal
import HandS.IsInst
import HandS.Defaults
import HandS.FStr
import PySem.Challenge.RW_countedbits_k02_the_shorter_codes
set_option Elab.async false
set_option linter.all false
set_option maxRecDepth 99999
set_option maxHeartbeats 5000000
/-! Z, part A: defs whose surroundings have no repr under way; their calls; the law's own call. -/
namespace Z
open PySem PySem.Spec PyProof.Rows L2
/-- a def's promise where no guard is laid around -/
structure FnG (P : Program) (w : World) (K : PySem.W.Frag) (mg : Str → Option Value) (base : Heap) (k : Nat)
    (f : Addr) (fd : FuncData) (ps : List Str) (sp : Sp) : Prop where
  len : ∀ vs H Q E, sp vs H Q E → vs.length = ps.length
  run : ∀ (A : Around) (outer : List Env) (s : Shared) (H : Hp) (args : Args) (us : List Value) (vs : List V) (Q : VK) (E : XK),
    Room k A → A.guards = some [] → Env0 P w K mg base A outer s H → BindsTo s fd args (ps.zip us) → Vals vs us →
    sp vs H Q E → codeAny (model P w) A (.call (.ref f) args) (CR (L2.CX P w) outer P w H s Q E) s
section
variable {P : Program} {w : World} {K : PySem.W.Frag} {mg : Str → Option Value} {base : Heap}
theorem FnG.mono {j k : Nat} {f : Addr} {fd : FuncData} {ps : List Str} {sp : Sp} (F : FnG P w K mg base j f fd ps sp) (h : j ≤ k) :
    FnG P w K mg base k f fd ps sp :=
  ⟨F.len, fun A o s H a us vs Q E r => F.run A o s H a us vs Q E (r.mono h)⟩
/-- what the text says of a def: its object, its code -/
structure Txt (K : PySem.W.Frag) (x qual : Str) (args : Arguments) (body : List Stmt) (sc : Scope) (dV kV : Value) (f : Addr) (fd : FuncData) : Prop where
  ex : ∃ (oc : Value) (od : Option Addr) (doc pm : Value) (an : Option Addr) (cdv ct : Value) (osl : Array (Option Value)),
    fd = PySem.W.fnOf x qual args body sc dV kV doc pm an cdv ct ∧ K.lookup f = some ⟨oc, od, .func fd, osl⟩ ∧ PySem.W.codeIn K cdv qual = true
  kp : PySem.W.keepIn K (.ref f) = true
/-- the body of a def, in its own frame -/
abbrev cx (P : Program) (w : World) (K : PySem.W.Frag) (mg : Str → Option Value) (base : Heap) (N : List Str) (qual : Str) (sc : Scope)
    (f : Addr) (cd : Value) (A : Around) (outer : List Env) (s : Shared) (H : Hp) (E : XK) : Cx :=
  cxOf (L2.CX P w) P w K mg base N qual sc f cd A outer s H E
theorem z_fn {x qual : Str} {args : Arguments} {body : List Stmt} {sc : Scope} {dV kV : Value} {f : Addr} {fd : FuncData}
    {N ps : List Str} {k : Nat} {sp : Sp} (T : Txt K x qual args body sc dV kV f fd) (S : FnScope N ps sc)
    (len : ∀ vs H Q E, sp vs H Q E → vs.length = ps.length)
    (hb : ∀ (cd : Value) (A : Around) (outer : List Env) (s : Shared) (H : Hp) (vs : List V) (Q : VK) (E : XK),
      Room k (A.deeper (envOfC qual sc s.heap.objs.size f cd)) → A.guards = some [] → sp vs H Q E →
      ∃ (t : TS) (σ : L2.St), start N vs = σ ∧ PSs (cx P w K mg base N qual sc f cd A outer s H E) body t ∧
        t { nx := fun _ H' => Q .non H', rt := Q } σ H) :
    FnG P w K mg base (k + 1) f fd ps sp := by
  obtain ⟨oc, od, doc, pm, an, cd, ct, osl, rfl, lk, hcd⟩ := T.ex
  refine ⟨len, ?_⟩
  intro A outer s H a us vs Q E room noG e0 binds rel want
  obtain ⟨t, σ, eσ, derived, goal⟩ := hb cd A outer s H vs Q E (room.deeper _) noG want
  subst eσ
  have inHeap : K.In s.heap := e0.mod.kin.keeps fun b o q => (e0.bs b o q).1
  have noLim : s.heap.NoLimit := e0.mod.nolimit.keeps fun b o q => (e0.bs b o q).1
  refine codeAny_call_function room.depth (inHeap _ _ lk) rfl S.co S.gen rfl (PySem.W.codeRec_of inHeap hcd) (binds _ _ _ _ ?_)
  have kinds : ∀ y ∈ ps.zip us, sc.names.lookup y.1 = some .local ∨
      (sc.names.lookup y.1 = some .cell ∧ ((cellsFrom (s.heap.objs.size + 1) sc.names []).lookup y.1).isSome = true) := by
    rintro ⟨n, v⟩ hy
    have hn : n ∈ ps := (List.of_mem_zip hy).1
    cases S.par n hn with
    | inl q => exact .inl q
    | inr q => exact .inr ⟨q, PySem.W.cellsFrom_some _ _ _ (.inl q)⟩
  refine wpAny_newFunctionEnv_cells S.kind kinds fun env he s1 x => ?_
  subst he
  refine ⟨noLim.keeps x.toInCall.keep, codeAny_func ?_⟩
  have I0 := inv_start (CX := L2.CX P w) (P := P) (w := w) (K := K) (mg := mg) (base := base) (f := f) (cd := cd) (E := E) S room.hd e0 (len _ _ _ _ want) rel x
  refine wpAny_mono (derived.run [] s1 _ H _ I0 goal) ?_ fun e s' hs => hs
  intro fl s' hs
  cases fl with
  | next =>
    obtain ⟨σ2, H2, J, q⟩ := hs
    exact ⟨.non, H2, J.os, J.bare, J.base, J.hok, rfl, q⟩
  | ret u =>
    obtain ⟨v, σ2, H2, J, rv, q⟩ := hs
    exact ⟨v, H2, J.os, J.bare, J.base, J.hok, rv, q⟩
  | brk => exact hs.elim fun _ z => z.elim fun _ z => z.2.elim
  | cont => exact hs.elim fun _ z => z.elim fun _ z => z.2.elim
/-- a def that stands under a global name, with the values of its defaults -/
structure Def (P : Program) (w : World) (K : PySem.W.Frag) (mg : Str → Option Value) (base : Heap) (k : Nat) (x : Str) (dvs : List V) (sp : Sp) : Prop where
  ex : ∃ (f : Addr) (fd : FuncData) (ps : List Str) (ds : List Value), FnG P w K mg base k f fd ps sp ∧ mg x = some (.ref f) ∧
    PySem.W.keepIn K (.ref f) = true ∧ Binds K fd ps ds ∧ Vals dvs ds
theorem Def.mono {j k : Nat} {x : Str} {dvs : List V} {sp : Sp} (D : Def P w K mg base j x dvs sp) (h : j ≤ k) : Def P w K mg base k x dvs sp := by
  obtain ⟨f, fd, ps, ds, F, r⟩ := D.ex
  exact ⟨f, fd, ps, ds, F.mono h, r⟩
/-- a method of a class -/
structure Mth (P : Program) (w : World) (K : PySem.W.Frag) (mg : Str → Option Value) (base : Heap) (k : Nat) (C : Addr) (m : Str) (dvs : List V) (sp : Sp) : Prop where
  cls : Cls K C
  ex : ∃ (f : Addr) (fd : FuncData) (ps : List Str) (ds : List Value), FnG P w K mg base k f fd ps sp ∧ Meth K C m f ∧ Binds K fd ps ds ∧ Vals dvs ds
theorem Mth.mono {j k : Nat} {C : Addr} {m : Str} {dvs : List V} {sp : Sp} (D : Mth P w K mg base j C m dvs sp) (h : j ≤ k) : Mth P w K mg base k C m dvs sp := by
  obtain ⟨f, fd, ps, ds, F, r⟩ := D.ex
  exact ⟨D.cls, f, fd, ps, ds, F.mono h, r⟩
end
section
variable {X : Cx} {k : Nat} {f : Addr} {fd : FuncData} {ps : List Str} {sp : Sp} {dvs : List V} {ds : List Value} {E : XK}
/-- the callee runs -/
theorem run_g {pins : List (Addr × Obj)} {σ : L2.St} {H : Hp} {s : Shared} {Q : VK} {us : List Value} {vs : List V}
    (F : FnG X.prog X.w X.K X.mg X.base k f fd ps sp) (room : Room k X.A) (noG : X.A.guards = some []) (hb : Binds X.K fd ps ds) (hd : Vals dvs ds)
    (hx : ∀ e s', L2.CX X.prog X.w X.stack H s E e s' → X.xe e s') (I : Inv X pins σ H s) (rel : Vals vs us) (want : sp (vs ++ dvs) H Q E) :
    wpAny (model X.prog X.w) X.A (call (.ref f) us) (EP X pins σ Q) X.xe s := by
  have rel2 : Vals (vs ++ dvs) (us ++ ds) := rel.append hd
  have many : (us ++ ds).length = ps.length := rel2.length ▸ F.len _ _ _ _ want
  have ran := F.run X.A X.stack s H ⟨us, []⟩ (us ++ ds) (vs ++ dvs) Q E room noG I.env0 (hb s us I.kIn many) rel2 want
  refine wpAny_call (codeAny_mono ran ?_)
  intro r s' hr
  match r, hr with
  | .error e, hr => exact hx e s' hr
  | .ok (.ret u), hr => exact I.after hr
  | .ok .next, hr => exact False.elim hr
  | .ok .brk, hr => exact False.elim hr
  | .ok .cont, hr => exact False.elim hr
/-- f(..) -/
def tC1 (sp : Sp) (dvs : List V) (E : L2.St → XK) (t : TA) : TE := fun σ H Q => t σ H fun vs H1 => sp (vs ++ dvs) H1 Q (E σ)
variable {x m : Str} {p pos apos : Pos} {e o : Expr} {es : List Expr} {ta : TE} {t : TA} {W : WX}
theorem pe_f (D : Def X.prog X.w X.K X.mg X.base k x dvs sp) (room : Room k X.A) (noG : X.A.guards = some []) (hg : Gl X x)
    (tk : ∀ pins σ H s, Inv X pins σ H s → ∀ e s', L2.CX X.prog X.w X.stack H s (fun c d H' => W c d σ H') e s' → X.xe e s')
    (ha : PA X (e :: es) t) (hdb : (x == ("__debug__" : Str)) = false := by decide)
    (he : starEach (e :: es) X.env = (false, eval e X.env) :: starEach es X.env := by rfl)
    (hpl : (backTo pos (starEach es X.env)).any (·.1) = false := by rfl) :
    PE X (.Call (.Name x p) (e :: es) [] pos) (tC1 sp dvs (fun σ c d H' => W c d σ H') t) := by
  obtain ⟨f, fd, ps, ds, F, hm, hk, hb, hd⟩ := D.ex
  constructor
  intro pins s σ H Q I h
  refine wpAny_Call_Name_kw (ld_glob I hg hm ?_ hdb)
  refine PySem.W.callWith_K (h₀ := X.base) I.ok.mod.kin hk (thn (ha.run pos pins s σ H _ I h) ?_) he hpl
  rintro us s1 ⟨vs, H1, I1, rel, want⟩
  exact ⟨I1.kIn, run_g F room noG hb hd (tk _ _ _ _ I1) I1 rel want⟩
theorem pe_f0 (D : Def X.prog X.w X.K X.mg X.base k x dvs sp) (room : Room k X.A) (noG : X.A.guards = some []) (hg : Gl X x)
    (tk : ∀ pins σ H s, Inv X pins σ H s → ∀ e s', L2.CX X.prog X.w X.stack H s (fun c d H' => W c d σ H') e s' → X.xe e s')
    (hdb : (x == ("__debug__" : Str)) = false := by decide) :
    PE X (.Call (.Name x p) [] [] pos) (tC1 sp dvs (fun σ c d H' => W c d σ H') tNil) := by
  obtain ⟨f, fd, ps, ds, F, hm, hk, hb, hd⟩ := D.ex
  constructor
  intro pins s σ H Q I h
  refine wpAny_Call_Name_kw (ld_glob I hg hm ?_ hdb)
  exact PySem.W.callWith_K0 I.kIn hk (run_g (us := []) F room noG hb hd (tk _ _ _ _ I) I .nil h)
/-- nothing is raised: any surroundings will do -/
theorem tk0 {X : Cx} : ∀ (pins : List (Addr × Obj)) (σ : L2.St) (H : Hp) (s : Shared), Inv X pins σ H s → ∀ e s',
    L2.CX X.prog X.w X.stack H s (fun c d H' => (fun _ _ _ _ => False : WX) c d σ H') e s' → X.xe e s' := by
  intro _ _ _ _ _ e s' c
  obtain ⟨_, _, _, _, _, _, _, _, _, _, _, _, no⟩ := c
  exact no.elim
/-- what is raised is taken around -/
theorem tkW {X : Cx} {W : WX} (tk : Takes X W) : ∀ (pins : List (Addr × Obj)) (σ : L2.St) (H : Hp) (s : Shared), Inv X pins σ H s → ∀ e s',
    L2.CX X.prog X.w X.stack H s (fun c d H' => W c d σ H') e s' → X.xe e s' :=
  fun _ _ _ _ I e s' c => tk e s' (XE.of_call I (fun _ _ _ q => q) c)
end
end Z
/-! Z, part B: the law's own call where its promise asks that no guard is laid. -/
namespace Z
open PySem PySem.Spec PyProof.Rows L2
/-- from an abstract heap that tracks the script at most, known to its object -/
theorem law_from {P : Program} {w : World} {K : PySem.W.Frag} {mg mb : Str → Option Value} {k : Nat} {fa a : Addr} {fd : FuncData} {x : Str} {sp : Sp} {s₁ : Shared} {oa : Obj} {H : Hp}
    (inK : K.In s₁.heap) (ns : s₁.heap.Ns mainGlobals mg) (bl : s₁.heap.Ns builtinsNs mb) (bl2 : ∀ x : Str, x ≠ "__name__" → mb x = bootBuiltins x)
    (lim : s₁.heap.NoLimit) (noGens : s₁.gens = #[]) (obj : s₁.heap.get? a = some oa) (notDict : ∀ es ep, oa.data ≠ .dict es ep) (room : Room k callerA)
    (F : ∀ base : Heap, K.In base → base.Ns mainGlobals mg → FnG P w K mg base k fa fd [x] sp) (binds : ∀ (s : Shared) (u : Value), BindsTo s fd ⟨[u], []⟩ [(x, u)])
    (want : sp [.ref a] H (fun v _ => v = .bl true) fun _ _ _ => False) (ok : HOk P w H s₁.heap)
    (only : ∀ b, H b = none ∨ (b = a ∧ K.lookup a = none ∧ ∃ o xs, H b = some (.frz o (.lst xs)))) :
    codeAny (model P w) callerA (.call (.ref fa) ⟨[.ref a], []⟩) (fun r s' => r = .ok (.ret (.bool true)) ∧ OldK s₁.heap s'.heap ∧ s'.os = s₁.os ∧ AllBare s'.gens) s₁ := by
  -- a namespace is no list: it stands in what is not tracked
  have free : ∀ {b : Addr} {o : Obj} {es : Array DictEntry} {ep : Nat}, s₁.heap.get? b = some o → o.data = .dict es ep → H b = none := by
    intro b o es ep q d
    rcases only b with z | ⟨rfl, _, _⟩
    · exact z
    · rw [obj] at q
      exact absurd (Option.some.inj q ▸ d) (notDict es ep)
  have nsH : ∀ {b : Addr} {m : Str → Option Value}, s₁.heap.Ns b m → (hidT s₁.heap H).Ns b m := by
    rintro b m ⟨o, es, ep, q, d, more⟩
    exact ⟨o, es, ep, hidT_get q (free q d), d, more⟩
  have inB : K.In (hidT s₁.heap H) := by
    intro b o q
    refine hidT_get (inK b o q) ?_
    rcases only b with z | ⟨rfl, no, _⟩
    · exact z
    · rw [no] at q
      cases q
  have module : Mod K mg (hidT s₁.heap H) := by
    obtain ⟨mc, l1, l2⟩ := lim
    exact ⟨inB, nsH ns, ⟨mb, nsH bl, bl2⟩, mc, nsH l1, l2⟩
  have e0 : Env0 P w K mg (hidT s₁.heap H) callerA [] s₁ H :=
    { frames := rfl, mod := module, bs := fun b o q => of_hidT q, bsz := Nat.le_of_eq (hidT_size _ _), funs := trivial,
      frf := fun b hb => absurd hb List.not_mem_nil, hok := ok, bare := .of_eq noGens }
  have ran := (F _ inB (nsH ns)).run callerA [] s₁ H ⟨[.ref a], []⟩ [.ref a] [.ref a] _ _ room rfl e0 (binds s₁ (.ref a)) (.cons rfl .nil) want
  refine codeAny_mono ran ?_
  intro r s' hr
  match r, hr with
  | .error e, hr =>
    obtain ⟨_, _, _, _, _, _, _, _, _, _, _, _, no⟩ := hr
    exact no.elim
  | .ok .next, hr => exact False.elim hr
  | .ok .brk, hr => exact False.elim hr
  | .ok .cont, hr => exact False.elim hr
  | .ok (.ret u), hr =>
    obtain ⟨v, H2, os, bare, un, ok2, rv, rfl⟩ := hr
    obtain rfl : u = Value.bool true := rv
    refine ⟨rfl, OldK.of_keep ?_, os, bare⟩
    intro b o q
    rcases only b with z | ⟨_, _, ob, xs, z⟩
    · exact un.keep b o q z List.not_mem_nil List.not_mem_nil
    · have was := (ok b _ z).1
      have is := (ok2 b _ (un.frzs b ob _ z)).1
      rw [was] at q
      exact (Option.some.inj q) ▸ is
theorem law_g {P : Program} {w : World} {K : PySem.W.Frag} {mg mb : Str → Option Value} {k : Nat} {fa a : Addr} {fd : FuncData} {x : Str} {sp : Sp} {s₁ : Shared} {vs : List Value} {ns : List Int}
    (inK : K.In s₁.heap) (hns : s₁.heap.Ns mainGlobals mg) (bl : s₁.heap.Ns builtinsNs mb) (bl2 : ∀ x : Str, x ≠ "__name__" → mb x = bootBuiltins x)
    (lim : s₁.heap.NoLimit) (noGens : s₁.gens = #[]) (obj : s₁.heap.get? a = some { cls := .type "list", data := .seq vs.toArray }) (hints : IntsAre vs ns) (short : ns.length ≤ sizeLine) (room : Room k callerA)
    (F : ∀ base : Heap, K.In base → base.Ns mainGlobals mg → FnG P w K mg base k fa fd [x] sp) (binds : ∀ (s : Shared) (u : Value), BindsTo s fd ⟨[u], []⟩ [(x, u)])
    (want : ∀ H : Hp, SqL K H a (ns.map V.int) → sp [.ref a] H (fun v _ => v = .bl true) fun _ _ _ => False) :
    codeAny (model P w) callerA (.call (.ref fa) ⟨[.ref a], []⟩) (fun r s' => r = .ok (.ret (.bool true)) ∧ OldK s₁.heap s'.heap ∧ s'.os = s₁.os ∧ AllBare s'.gens) s₁ := by
  have rel : Vals (ns.map V.int) vs := vals_ints hints
  have many : (ns.map V.int).length ≤ sizeLine := by rw [List.length_map]; exact short
  match known : K.lookup a with
  | some o =>
    have same : o = ({ cls := .type "list", data := .seq vs.toArray } : Obj) := Option.some.inj ((inK a o known).symm.trans obj)
    subst same
    refine law_from (H := fun _ => none) inK hns bl bl2 lim noGens obj (fun _ _ z => nomatch z) room F binds (want _ ?_) (fun b u z => nomatch z) fun _ => .inl rfl
    exact .inr ⟨_, vs.toArray, _, known, rfl, rfl, rfl, by rw [List.size_toArray, hints.length]; exact short, by simpa using rel⟩
  | none =>
    have at_ : upd (fun _ => none) a (.frz { cls := .type "list", data := .seq vs.toArray } (.lst (ns.map V.int))) a = _ := upd_same
    refine law_from inK hns bl bl2 lim noGens obj (fun _ _ z => nomatch z) room F binds (want _ (.inl (.inr ⟨_, at_⟩))) ?_ ?_
    · intro b u z
      by_cases q : b = a
      · subst q
        obtain rfl := Option.some.inj (at_.symm.trans z)
        exact ⟨obj, many, vs, _, rel, obj⟩
      · rw [upd_ne q] at z
        cases z
    · intro b
      by_cases q : b = a
      · subst q
        exact .inr ⟨rfl, known, _, _, at_⟩
      · exact .inl (by rw [upd_ne q])
/-- the law's walk, from its promise -/
theorem walk_g {l : PySem.W.OpenLaw} {n k : Nat} {q : Program} {loose : List Str} {XP : (Str → Option Value) → Heap → Prop} {YP : World → Heap → Prop} {d : DefRec} {K : Params → PySem.W.Frag} {sp : PySem.W.Frag → Sp} {x : Str}
    (hn : l.most = some n) (hn2 : n ≤ sizeLine) (hdf : d.params.defaults = []) (room : Room k callerA)
    (hY : ∀ (w : World) (h : Heap), YP w h → (K w.params).In h)
    (F : ∀ (w : World) (mg : Str → Option Value) (fa : Addr) (h : Heap), (K w.params).In h → h.Ns mainGlobals mg → mg d.name = some (.ref fa) →
      ∃ fd : FuncData, (∀ (s : Shared) (u : Value), BindsTo s fd ⟨[u], []⟩ [(x, u)]) ∧
        ∀ base : Heap, (K w.params).In base → base.Ns mainGlobals mg → FnG l.prog w (K w.params) mg base k fa fd [x] (sp (K w.params)))
    (want : ∀ (K : PySem.W.Frag) (H : Hp) (a : Addr) (ns : List Int), ns.length ≤ n → SqL K H a (ns.map V.int) → sp K [.ref a] H (fun v _ => v = .bl true) fun _ _ _ => False) :
    PySem.W.WalkO q loose XP YP l.row.toRowW d [] (fun f vs => PySem.call f vs) := by
  refine Att.attach_call hn hdf ?_
  intro w s₀ s₁ mg mb fa o pm cd doc a vs ns G Y ho hd hcd hmg obj hints short noGens
  have inK := hY w _ Y
  obtain ⟨fd, binds, FF⟩ := F w mg fa _ inK G.T.g hmg
  exact law_g inK G.T.g G.T.b G.T.builtins G.T.nolimit noGens obj hints (Nat.le_trans short hn2) room FF binds fun H hS => want _ H a ns short hS
end Z
/-! Z, part C: texts as lists of signs; one rule an operator, whatever the kinds; how readings step on. -/
namespace Z
open PySem PySem.Spec PyProof.Rows L2
/-- a text by its signs -/
abbrev T (l : List Nat) : V := .str ⟨l.toArray⟩
theorem str_len (l : List Nat) : (⟨l.toArray⟩ : Str).length = l.length := by
  show l.toArray.size = l.length
  simp
theorem str_app (a b : List Nat) : (⟨a.toArray⟩ ++ ⟨b.toArray⟩ : Str) = ⟨(a ++ b).toArray⟩ := by
  show (⟨a.toArray ++ b.toArray⟩ : Str) = _
  simp
theorem str_eta (x : Str) : x = ⟨x.cps.toList.toArray⟩ := by
  obtain ⟨c⟩ := x
  simp
theorem T_inj {a b : List Nat} : T a = T b ↔ a = b := by
  constructor
  · intro h
    injection h with h
    injection h with h
    simpa using congrArg Array.toList h
  · rintro rfl
    rfl
def sz : Nat := 16777216
theorem sz_eq : (sizeLine : Nat) = sz := sizeLine_eq
/-- what stood stands -/
def Ex (H H' : Hp) : Prop := ∀ b o, H b = some o → H' b = some o
theorem Ex.refl (H : Hp) : Ex H H := fun _ _ h => h
theorem Ex.trans {H H1 H2 : Hp} (a : Ex H H1) (b : Ex H1 H2) : Ex H H2 := fun c o h => b c o (a c o h)
theorem Ex.at_ {H H' : Hp} {a : Addr} {o : HO} (e : Ex H H') (h : H a = some o) : H' a = some o := e a o h
theorem Ex.new {H : Hp} {p : Addr} {o : HO} (h : H p = none) : Ex H (upd H p o) := fun a u e => by
  rw [upd_ne (ne_of_none e h)]
  exact e
theorem Ex.back {H H' : Hp} (e : Ex H H') {p : Addr} (h : H' p = none) : H p = none := by
  cases q : H p with
  | none => rfl
  | some o => rw [e p o q] at h; cases h
/-- a thing that H does not know may change -/
theorem Ex.mut {H H' : Hp} {p : Addr} {o : HO} (e : Ex H H') (h : H p = none) : Ex H (upd H' p o) := fun a u ha => by
  rw [upd_ne (ne_of_none ha h)]
  exact e a u ha
theorem Ex.seqL {K : PySem.W.Frag} {H H' : Hp} {a : Addr} {xs : List V} (e : Ex H H') (h : SqL K H a xs) : SqL K H' a xs := by
  rcases h with (h | ⟨o, h⟩) | h
  · exact .inl (.inl (e _ _ h))
  · exact .inl (.inr ⟨o, e _ _ h⟩)
  · exact .inr h
theorem Ex.seqT {K : PySem.W.Frag} {H H' : Hp} {a : Addr} {xs : List V} (e : Ex H H') (h : SqT K H a xs) : SqT K H' a xs := by
  rcases h with (h | ⟨o, h⟩) | h
  · exact .inl (.inl (e _ _ h))
  · exact .inl (.inr ⟨o, e _ _ h⟩)
  · exact .inr h
theorem ne_new {H : Hp} {a b : Addr} {o : HO} (h : H b = none) (h' : H a = some o) : a ≠ b := ne_of_none h' h
/-- all but l stand -/
def But (l : Addr) (H H' : Hp) : Prop := ∀ b o, b ≠ l → H b = some o → H' b = some o
theorem But.at_ {l : Addr} {H H' : Hp} {a : Addr} {o : HO} (e : But l H H') (n : a ≠ l) (h : H a = some o) : H' a = some o := e a o n h
theorem But.upd {l : Addr} {H : Hp} {o : HO} : But l H (upd H l o) := fun b u n h => by rw [upd_ne n]; exact h
theorem But.trans {l : Addr} {H H1 H2 : Hp} (a : But l H H1) (b : But l H1 H2) : But l H H2 := fun c o n h => b c o n (a c o n h)
theorem But.ext {l : Addr} {H H1 H2 : Hp} (a : But l H H1) (b : Ex H1 H2) : But l H H2 := fun c o n h => b c o (a c o n h)
theorem Ex.but {l : Addr} {H H1 H2 : Hp} (a : Ex H H1) (b : But l H1 H2) : But l H H2 := fun c o n h => b c o n (a c o h)
theorem But.refl (l : Addr) (H : Hp) : But l H H := fun _ _ _ h => h
theorem But.ex {l : Addr} {H0 H H' : Hp} (b : But l H H') (e : Ex H0 H) (n : H0 l = none) : Ex H0 H' := fun c o h => b c o (ne_of_none h n) (e c o h)
section
variable {X : Cx}
/-! ### the rules -/
theorem z_str {x : Str} {l : List Nat} {j : Nat} {pos : Pos} (e : x = ⟨l.toArray⟩) : PE X (.Constant (.str x) j pos) (tC (T l)) := by
  subst e
  exact pe_str
def rAddS : R2 := fun x y H Q => ∃ a b : List Nat, x = T a ∧ y = T b ∧ a.length + b.length ≤ sz ∧ Q (T (a ++ b)) H
theorem op_addS : OpR X (binaryOp .Add) rAddS := by
  intro pins s σ H x y v u Q I rx ry h
  obtain ⟨a, b, rfl, rfl, h1, q⟩ := h
  refine op_add_str pins s σ H _ _ v u Q I rx ry ⟨_, _, rfl, rfl, ?_, ?_⟩
  · rw [str_len, str_len, sz_eq]; exact h1
  · rw [str_app]; exact q
theorem iop_addS : OpR X (inplaceOp .Add) rAddS := by
  intro pins s σ H x y v u Q I rx ry h
  obtain ⟨a, b, rfl, rfl, h1, q⟩ := h
  refine iop_add_str pins s σ H _ _ v u Q I rx ry ⟨_, _, rfl, rfl, ?_, ?_⟩
  · rw [str_len, str_len, sz_eq]; exact h1
  · rw [str_app]; exact q
def rAddZ (K : PySem.W.Frag) : R2 := fun x y H Q => rI0 (fun i j => .int (i + j)) x y H Q ∨ rAddS x y H Q ∨ rCat x y H Q ∨ rCatT K x y H Q
theorem z_add : OpR X (binaryOp .Add) (rAddZ X.K) := op_add.or (op_addS.or (op_cat.or op_catT))
/-- n times a text -/
def rep (l : List Nat) (n : Nat) : List Nat := (List.replicate n l).flatten
theorem rep_len (l : List Nat) (n : Nat) : (rep l n).length = l.length * n := by
  unfold rep
  induction n with
  | zero => simp
  | succ n ih => rw [List.replicate_succ, List.flatten_cons, List.length_append, ih, Nat.mul_succ, Nat.add_comm]
theorem fold_rep (a : Array Nat) (n : Nat) (acc : Array Nat) : (List.replicate n a).foldl (· ++ ·) acc = acc ++ ((List.replicate n a.toList).flatten).toArray := by
  induction n generalizing acc with
  | zero => simp
  | succ n ih =>
    rw [List.replicate_succ, List.foldl_cons, ih, List.replicate_succ, List.flatten_cons, Array.append_assoc]
    obtain ⟨l⟩ := a
    simp
def rMulS : R2 := fun x y H Q => ∃ (a : List Nat) (n : Int), x = T a ∧ y = .int n ∧ n ≤ 16777216 ∧ -16777216 ≤ n ∧ a.length * n.toNat ≤ sz ∧ Q (T (rep a n.toNat)) H
theorem op_mulS : OpR X (binaryOp .Mult) rMulS := by
  intro pins s σ H x y v u Q I rx ry h
  obtain ⟨a, n, rfl, rfl, h1, h2, h3, q⟩ := h
  obtain ⟨t, rfl⟩ := rx
  obtain ⟨t', rfl⟩ := ry
  have el : (⟨a.toArray⟩ : Str).length = a.length := str_len a
  by_cases hn : n < 1
  · have e0 : n.toNat = 0 := by omega
    rw [e0] at q
    exact PySem.P.mul_str_none hn (by omega) ⟨T [], H, I.tok _, ⟨_, rfl⟩, q⟩
  · have ha : a.length * n.toNat ≤ sizeLine := by rw [sz_eq]; exact h3
    refine PySem.P.mul_str ?_ ?_ ?_ ?_
    · rw [decide_eq_false (by omega), decide_eq_false (by omega)]; rfl
    · intro _ _ hh
      rw [el] at hh
      have h5 : (a.length : Int) * n ≤ 16777216 := by
        have e : ((a.length * n.toNat : Nat) : Int) = (a.length : Int) * n := by rw [Int.natCast_mul, Int.toNat_of_nonneg (by omega)]
        rw [← e]
        exact Int.ofNat_le.mpr h3
      have h6 : (a.length : Int) ≤ (2 ^ 63 - 1) / n := (Int.le_ediv_iff_mul_le (by omega)).mpr (by omega)
      omega
    · intro _ _
      rw [el]
      exact decide_eq_false (by omega)
    · rw [if_neg hn]
      by_cases c : (n == 1 || (⟨a.toArray⟩ : Str).length == 0) = true
      · rw [if_pos c]
        refine ⟨T a, H, I, ⟨t, rfl⟩, ?_⟩
        have e : rep a n.toNat = a := by
          rw [Bool.or_eq_true] at c
          rcases c with c | c
          · have e1 : n = 1 := by simpa using c
            subst e1
            unfold rep
            simp
          · have e1 : a = [] := by simpa [el] using c
            subst e1
            unfold rep
            simp
        rw [e] at q
        exact q
      · rw [if_neg c]
        refine ⟨?_, T (rep a n.toNat), H, I.tok _, ⟨s.toks, ?_⟩, q⟩
        · show ((List.replicate n.toNat a.toArray).foldl (· ++ ·) #[]).size ≤ sizeLine
          rw [fold_rep]
          have := rep_len a n.toNat
          unfold rep at this
          simp at this ⊢
          omega
        · rw [fold_rep]
          unfold rep
          simp
def rMulI : R2 := rI IntMulOk fun i j => .int (i * j)
theorem op_mulI : OpR X (binaryOp .Mult) rMulI := opI fun _ _ _ _ _ _ _ hc q => mul_int q hc
def rMulZ : R2 := fun x y H Q => rMulI x y H Q ∨ rMulS x y H Q ∨ rRep x y H Q
theorem z_mul : OpR X (binaryOp .Mult) rMulZ := op_mulI.or (op_mulS.or op_rep)
def CPowW (i j : Int) : Prop := 0 ≤ j ∧ (Builtin.Int.intBits i : Int) * j ≤ 2 ^ 27
def rPowZ : R2 := rI CPowW fun i j => .int (i ^ j.toNat)
theorem z_pow : OpR X (binaryOp .Pow) rPowZ := opI fun _ _ _ _ _ _ _ hc q => pow_int hc.1 hc.2 q
def rSubZ : R2 := rI0 fun i j => .int (i - j)
theorem z_sub : OpR X (binaryOp .Sub) rSubZ := op_sub
def rDivZ : R2 := rI CDiv fun i j => .int (i / j)
theorem z_fdiv : OpR X (binaryOp .FloorDiv) rDivZ := op_fdiv
def rModZ : R2 := rI (fun _ j => 0 < j) fun i j => .int (i % j)
theorem z_mod : OpR X (binaryOp .Mod) rModZ := op_mod
def rLtZ : R2 := fun x y H Q => rI0 (fun i j => .bl (decide (i < j))) x y H Q
theorem z_lt : OpR X (compareOp .Lt) rLtZ := op_lt
def rLeZ : R2 := fun x y H Q => rI0 (fun i j => .bl (decide (i ≤ j))) x y H Q
theorem z_le : OpR X (compareOp .LtE) rLeZ := op_le
def rGtZ : R2 := fun x y H Q => rI0 (fun i j => .bl (decide (j < i))) x y H Q
theorem z_gt : OpR X (compareOp .Gt) rGtZ := op_gt
def rGeZ : R2 := fun x y H Q => rI0 (fun i j => .bl (decide (j ≤ i))) x y H Q
theorem z_ge : OpR X (compareOp .GtE) rGeZ := op_ge
def rEqZ (K : PySem.W.Frag) : R2 := fun x y H Q => rEq x y H Q ∨ rEqD K x y H Q
theorem z_eq (hu : X.A.units + 64 < cLine) : OpR X (compareOp .Eq) (rEqZ X.K) := op_eq.or (op_eqD hu)
def rNeZ (K : PySem.W.Frag) : R2 := fun x y H Q => rNe x y H Q ∨ rNeD K x y H Q
theorem z_ne (hu : X.A.units + 64 < cLine) : OpR X (compareOp .NotEq) (rNeZ X.K) := op_ne.or (op_neD hu)
def rInS : R2 := fun x y H Q => ∃ (c : Nat) (z : List Nat), x = T [c] ∧ y = T z ∧ Q (.bl (decide (c ∈ z))) H
theorem op_inS : OpR X (compareOp .In) rInS := by
  intro pins s σ H x y v u Q I rx ry h
  obtain ⟨c, z, rfl, rfl, q⟩ := h
  exact op_in_sign pins s σ H _ _ v u Q I rx ry ⟨c, ⟨z.toArray⟩, rfl, rfl, by simpa using q⟩
def rNiS : R2 := fun x y H Q => ∃ (c : Nat) (z : List Nat), x = T [c] ∧ y = T z ∧ Q (.bl (!decide (c ∈ z))) H
theorem op_niS : OpR X (compareOp .NotIn) rNiS := by
  intro pins s σ H x y v u Q I rx ry h
  obtain ⟨c, z, rfl, rfl, q⟩ := h
  exact op_notIn_sign pins s σ H _ _ v u Q I rx ry ⟨c, ⟨z.toArray⟩, rfl, rfl, by simpa using q⟩
def rInZ (K : PySem.W.Frag) : R2 := fun x y H Q => rInS x y H Q ∨ rIn K false x y H Q
theorem z_in : OpR X (compareOp .In) (rInZ X.K) := op_inS.or op_in_seq
def rNiZ (K : PySem.W.Frag) : R2 := fun x y H Q => rNiS x y H Q ∨ rIn K true x y H Q
theorem z_ni : OpR X (compareOp .NotIn) (rNiZ X.K) := op_niS.or op_notIn_seq
/-- s[i] -/
def rIxT' : R2 := fun x y H Q => ∃ (z : List Nat) (i : Int) (c : Nat), x = T z ∧ y = .int i ∧ z.length ≤ sz ∧ atI z i = some c ∧ Q (T [c]) H
theorem ix_T : IxR X rIxT' := by
  intro value slice pins s σ H x y v u Q I rx ry h hs
  obtain ⟨z, i, c, rfl, rfl, h1, h2, q⟩ := h
  refine ix_str value slice pins s σ H _ _ v u Q I rx ry ?_ hs
  exact ⟨⟨z.toArray⟩, i, c, rfl, rfl, by rw [str_len, sz_eq]; exact h1, by simpa using h2, q⟩
def rIxZ (K : PySem.W.Frag) : R2 := fun x y H Q => rIxT' x y H Q ∨ rIxL K x y H Q ∨ L2.rIxT K x y H Q
theorem z_ix : IxR X (rIxZ X.K) := ix_T.or (ix_list.or ix_tup)
/-- s[lo:hi] -/
def cut (l : List Nat) (lo hi : Option Int) : List Nat := (l.drop (HT.sIx l.length 0 lo)).take (HT.sIx l.length l.length hi - HT.sIx l.length 0 lo)
def rSlZ (K : PySem.W.Frag) : V → Option Int → Option Int → Hp → VK → Prop := fun x lo hi H Q =>
  (∃ z : List Nat, x = T z ∧ z.length ≤ sz ∧ Q (T (cut z lo hi)) H) ∨ rSlL K x lo hi H Q ∨ rSlT K x lo hi H Q
theorem sl_T : SlR X (fun x lo hi H Q => ∃ z : List Nat, x = T z ∧ z.length ≤ sz ∧ Q (T (cut z lo hi)) H) := by
  intro pins s σ H x v vl vu lo hi sl Q I rx hs pl pu h
  obtain ⟨z, rfl, h1, q⟩ := h
  refine sl_str pins s σ H _ v vl vu lo hi sl Q I rx hs pl pu ⟨⟨z.toArray⟩, rfl, by rw [str_len, sz_eq]; exact h1, ?_⟩
  unfold cutS
  rw [str_len]
  exact q
theorem z_sl : SlR X (rSlZ X.K) := sl_T.or (sl_list.or sl_tup)
/-- len -/
def rLenZ (K : PySem.W.Frag) : List V → Hp → VK → Prop := fun xs H Q => ∃ x n, xs = [x] ∧ LenV K x H n ∧ Q (.int n) H
theorem z_len : CallR X (.builtin "len") (rLenZ X.K) := call_len
/-- sep.join(list) -/
def joinT (a : List Nat) : List (List Nat) → List Nat
  | [] => []
  | [x] => x
  | x :: y :: r => x ++ a ++ joinT a (y :: r)
end
end Z
/-! Z, part D: a reading goes on by one step. -/
namespace Z
open PySem PySem.Spec PyProof.Rows L2
section
variable {σ σ' : L2.St} {H : Hp} {D : Ends} {t u ts : TS} {te ta tb tc to : TE} {tt tu : TT} {tr : TA} {Q : VK} {K : PySem.W.Frag} {x y v : V} {i : Nat} {a b p : Addr}
/-! ### statements -/
theorem norm {t : Ends → L2.St → Hp → Prop} (e : List.set σ i (some v) = σ') (h : t D σ' H) : t D (List.set σ i (some v)) H := e ▸ h
theorem seq_asg (h : te σ H fun x H1 => u D (List.set σ i (some x)) H1) : tSeq (tAsg te (gName i)) u D σ H := h
theorem asg_ (h : te σ H fun x H1 => D.nx (List.set σ i (some x)) H1) : tAsg te (gName i) D σ H := h
theorem seq_drop (h : te σ H fun _ H1 => u D σ H1) : tSeq (tDrop te) u D σ H := h
theorem drop_ (h : te σ H fun _ H1 => D.nx σ H1) : tDrop te D σ H := h
theorem ret_ (h : te σ H D.rt) : tRet te D σ H := h
theorem retN_ (h : D.rt .non H) : tRetN D σ H := h
theorem next_ (h : D.nx σ H) : tNext D σ H := h
theorem seq_ (h : t { D with nx := u D } σ H) : tSeq t u D σ H := h
def zIf (t u : TS) (D : Ends) (σ : L2.St) (b : Bool) (H : Hp) : Prop := if b = true then t D σ H else u D σ H
theorem seq_if (h : tt σ H (zIf t ts { D with nx := u D } σ)) : tSeq (tIfS tt t ts) u D σ H := h
theorem if_ (h : tt σ H (zIf t ts D σ)) : tIfS tt t ts D σ H := h
theorem zif_d {q : Prop} [Decidable q] (h1 : q → t D σ H) (h2 : ¬ q → u D σ H) : zIf t u D σ (decide q) H := by
  unfold zIf
  by_cases h : q
  · rw [decide_eq_true h, if_pos rfl]; exact h1 h
  · rw [decide_eq_false h, if_neg Bool.false_ne_true]; exact h2 h
theorem zif_n {q : Prop} [Decidable q] (h1 : ¬ q → t D σ H) (h2 : q → u D σ H) : zIf t u D σ (!decide q) H := by
  unfold zIf
  by_cases h : q
  · rw [decide_eq_true h]; exact h2 h
  · rw [decide_eq_false h]; exact h1 h
theorem zif_b {k : Bool} (h1 : k = true → t D σ H) (h2 : k = false → u D σ H) : zIf t u D σ k H := by
  unfold zIf
  cases k with
  | true => exact h1 rfl
  | false => exact h2 rfl
theorem zif_dt {q : Prop} [Decidable q] (hq : q) (h : t D σ H) : zIf t u D σ (decide q) H := zif_d (fun _ => h) fun n => absurd hq n
theorem zif_df {q : Prop} [Decidable q] (hq : ¬ q) (h : u D σ H) : zIf t u D σ (decide q) H := zif_d (fun n => absurd n hq) fun _ => h
theorem zif_nT (h : u D σ H) : zIf t u D σ (!true) H := h
theorem zif_nF (h : t D σ H) : zIf t u D σ (!false) H := h
theorem zif_nt {q : Prop} [Decidable q] (hq : ¬ q) (h : t D σ H) : zIf t u D σ (!decide q) H := zif_n (fun _ => h) fun n => absurd n hq
theorem zif_nf {q : Prop} [Decidable q] (hq : q) (h : u D σ H) : zIf t u D σ (!decide q) H := zif_n (fun n => absurd hq n) fun _ => h
theorem zif_t (h : t D σ H) : zIf t u D σ true H := h
theorem zif_f (h : u D σ H) : zIf t u D σ false H := h
/-! ### expressions -/
theorem var_ (e : σ[i]? = some (some v)) (h : Q v H) : tVar i σ H Q := ⟨v, e, h⟩
theorem c_ (h : Q v H) : tC v σ H Q := h
theorem op_ {r : R2} (h : ta σ H fun x H1 => tb σ H1 fun y H2 => r x y H2 Q) : tOp r ta tb σ H Q := h
theorem un_ {r : V → Hp → VK → Prop} (h : ta σ H fun x H1 => r x H1 Q) : tUn r ta σ H Q := h
theorem nil_ {Q : List V → Hp → Prop} (h : Q [] H) : tNil σ H Q := h
theorem cons_ {Q : List V → Hp → Prop} (h : ta σ H fun x H1 => tr σ H1 fun xs H2 => Q (x :: xs) H2) : tCons ta tr σ H Q := h
def zNew (o : HO) (H : Hp) (Q : VK) : Prop := ∀ p, H p = none → Q (.ref p) (upd H p o)
theorem new_ {o : HO} (h : ∀ p H', H p = none → Ex H H' → H' p = some o → Q (.ref p) H') : zNew o H Q := fun p hp => h p _ hp (Ex.new hp) upd_same
def zTup (xs : List V) (H : Hp) (Q : VK) : Prop := xs.length ≤ sizeLine ∧ zNew (.tup xs) H Q
def zLst (xs : List V) (H : Hp) (Q : VK) : Prop := xs.length ≤ sizeLine ∧ zNew (.lst xs) H Q
theorem tup_ (h : tr σ H fun xs H1 => zTup xs H1 Q) : tTup tr σ H Q := h
theorem lst_ (h : tr σ H fun xs H1 => zLst xs H1 Q) : tLst tr σ H Q := h
theorem ztup_ {xs : List V} (l : xs.length ≤ 16777216) (h : ∀ p H', H p = none → Ex H H' → H' p = some (.tup xs) → Q (.ref p) H') : zTup xs H Q := ⟨by rw [sz_eq]; exact l, new_ h⟩
theorem zlst_ {xs : List V} (l : xs.length ≤ 16777216) (h : ∀ p H', H p = none → Ex H H' → H' p = some (.lst xs) → Q (.ref p) H') : zLst xs H Q := ⟨by rw [sz_eq]; exact l, new_ h⟩
theorem cb_ {r : List V → Hp → VK → Prop} (h : tr σ H fun vs H1 => r vs H1 Q) : tCB r tr σ H Q := h
theorem c1_ {sp : Sp} {E : L2.St → XK} (h : tr σ H fun vs H1 => sp vs H1 Q (E σ)) : tC1 sp [] E tr σ H Q := by
  unfold tC1
  simpa using h
theorem c1d_ {sp : Sp} {dv : V} {dvs : List V} {E : L2.St → XK} (h : tr σ H fun vs H1 => sp (vs ++ dv :: dvs) H1 Q (E σ)) : tC1 sp (dv :: dvs) E tr σ H Q := h
def zSl (r : V → Option Int → Option Int → Hp → VK → Prop) (x : V) (l u : Option Int) (H : Hp) (Q : VK) : Prop := r x l u H Q
theorem sl_ {r : V → Option Int → Option Int → Hp → VK → Prop} {tl th : TO} (h : te σ H fun x H1 => tl σ H1 fun l H2 => th σ H2 fun u H3 => r x l u H3 Q) : tSl r te tl th σ H Q := h
theorem nopart_ {Q : Option Int → Hp → Prop} (h : Q none H) : tNoPart σ H Q := h
def zPart (Q : Option Int → Hp → Prop) (x : V) (H : Hp) : Prop := ∃ i, x = .int i ∧ Q (some i) H
theorem part_ {Q : Option Int → Hp → Prop} (h : te σ H (zPart Q)) : tPart te σ H Q := h
theorem zpart_ {Q : Option Int → Hp → Prop} {n : Int} (h : Q (some n) H) : zPart Q (.int n) H := ⟨n, rfl, h⟩
/-! ### tests -/
def zB (Q : Bool → Hp → Prop) (x : V) (H : Hp) : Prop := ∃ k, x = .bl k ∧ Q k H
theorem test_ {Q : Bool → Hp → Prop} (h : te σ H (zB Q)) : tTest te σ H Q := h
theorem tb_ {Q : Bool → Hp → Prop} (h : te σ H (zB Q)) : tB te σ H Q := h
theorem zb_ {Q : Bool → Hp → Prop} {k : Bool} (h : Q k H) : zB Q (.bl k) H := ⟨k, rfl, h⟩
def zAnd (tu : TT) (σ : L2.St) (Q : Bool → Hp → Prop) (c : Bool) (H : Hp) : Prop := if c = true then tu σ H Q else Q false H
def zOr (tu : TT) (σ : L2.St) (Q : Bool → Hp → Prop) (c : Bool) (H : Hp) : Prop := if c = true then Q true H else tu σ H Q
theorem and_ {Q : Bool → Hp → Prop} (h : tt σ H (zAnd tu σ Q)) : tAnd tt tu σ H Q := h
theorem or_ {Q : Bool → Hp → Prop} (h : tt σ H (zOr tu σ Q)) : tOr tt tu σ H Q := h
theorem nott_ {Q : Bool → Hp → Prop} (h : Q false H) : (fun c H1 => Q (!c) H1) true H := h
theorem not_ {Q : Bool → Hp → Prop} (h : tt σ H fun c H1 => Q (!c) H1) : tNot tt σ H Q := h
theorem zand_d {q : Prop} [Decidable q] {Q : Bool → Hp → Prop} (h1 : q → tu σ H Q) (h2 : ¬ q → Q false H) : zAnd tu σ Q (decide q) H := by
  unfold zAnd
  by_cases h : q
  · rw [decide_eq_true h, if_pos rfl]; exact h1 h
  · rw [decide_eq_false h, if_neg Bool.false_ne_true]; exact h2 h
theorem zor_d {q : Prop} [Decidable q] {Q : Bool → Hp → Prop} (h1 : q → Q true H) (h2 : ¬ q → tu σ H Q) : zOr tu σ Q (decide q) H := by
  unfold zOr
  by_cases h : q
  · rw [decide_eq_true h, if_pos rfl]; exact h1 h
  · rw [decide_eq_false h, if_neg Bool.false_ne_true]; exact h2 h
theorem zand_n {q : Prop} [Decidable q] {Q : Bool → Hp → Prop} (h1 : ¬ q → tu σ H Q) (h2 : q → Q false H) : zAnd tu σ Q (!decide q) H := by
  unfold zAnd
  by_cases h : q
  · rw [decide_eq_true h]; exact h2 h
  · rw [decide_eq_false h]; exact h1 h
theorem zor_n {q : Prop} [Decidable q] {Q : Bool → Hp → Prop} (h1 : ¬ q → Q true H) (h2 : q → tu σ H Q) : zOr tu σ Q (!decide q) H := by
  unfold zOr
  by_cases h : q
  · rw [decide_eq_true h]; exact h2 h
  · rw [decide_eq_false h]; exact h1 h
theorem zand_b {k : Bool} {Q : Bool → Hp → Prop} (h1 : k = true → tu σ H Q) (h2 : k = false → Q false H) : zAnd tu σ Q k H := by
  unfold zAnd
  cases k with
  | true => exact h1 rfl
  | false => exact h2 rfl
theorem zor_b {k : Bool} {Q : Bool → Hp → Prop} (h1 : k = true → Q true H) (h2 : k = false → tu σ H Q) : zOr tu σ Q k H := by
  unfold zOr
  cases k with
  | true => exact h1 rfl
  | false => exact h2 rfl
def zIfE (ta tb : TE) (σ : L2.St) (Q : VK) (c : Bool) (H : Hp) : Prop := if c = true then ta σ H Q else tb σ H Q
theorem ifE_ (h : tt σ H (zIfE ta tb σ Q)) : tIf tt ta tb σ H Q := h
theorem zife_d {q : Prop} [Decidable q] (h1 : q → ta σ H Q) (h2 : ¬ q → tb σ H Q) : zIfE ta tb σ Q (decide q) H := by
  unfold zIfE
  by_cases h : q
  · rw [decide_eq_true h, if_pos rfl]; exact h1 h
  · rw [decide_eq_false h, if_neg Bool.false_ne_true]; exact h2 h
theorem zife_n {q : Prop} [Decidable q] (h1 : ¬ q → ta σ H Q) (h2 : q → tb σ H Q) : zIfE ta tb σ Q (!decide q) H := by
  unfold zIfE
  by_cases h : q
  · rw [decide_eq_true h]; exact h2 h
  · rw [decide_eq_false h]; exact h1 h
theorem zife_b {k : Bool} (h1 : k = true → ta σ H Q) (h2 : k = false → tb σ H Q) : zIfE ta tb σ Q k H := by
  unfold zIfE
  cases k with
  | true => exact h1 rfl
  | false => exact h2 rfl
/-- a and b, a or b of truths, as a value -/
def zAndV (tb : TE) (σ : L2.St) (Q : VK) (x : V) (H : Hp) : Prop := ∃ c, x = .bl c ∧ if c = true then tb σ H Q else Q (.bl false) H
def zOrV (tb : TE) (σ : L2.St) (Q : VK) (x : V) (H : Hp) : Prop := ∃ c, x = .bl c ∧ if c = true then Q (.bl true) H else tb σ H Q
theorem andV_ (h : ta σ H (zAndV tb σ Q)) : tAndV ta tb σ H Q := h
theorem orV_ (h : ta σ H (zOrV tb σ Q)) : tOrV ta tb σ H Q := h
theorem zandv_d {q : Prop} [Decidable q] (h1 : q → tb σ H Q) (h2 : ¬ q → Q (.bl false) H) : zAndV tb σ Q (.bl (decide q)) H := by
  refine ⟨_, rfl, ?_⟩
  by_cases h : q
  · rw [decide_eq_true h, if_pos rfl]; exact h1 h
  · rw [decide_eq_false h, if_neg Bool.false_ne_true]; exact h2 h
theorem zorv_d {q : Prop} [Decidable q] (h1 : q → Q (.bl true) H) (h2 : ¬ q → tb σ H Q) : zOrV tb σ Q (.bl (decide q)) H := by
  refine ⟨_, rfl, ?_⟩
  by_cases h : q
  · rw [decide_eq_true h, if_pos rfl]; exact h1 h
  · rw [decide_eq_false h, if_neg Bool.false_ne_true]; exact h2 h
theorem zandv_b {k : Bool} (h1 : k = true → tb σ H Q) (h2 : k = false → Q (.bl false) H) : zAndV tb σ Q (.bl k) H := by
  refine ⟨_, rfl, ?_⟩
  cases k with
  | true => exact h1 rfl
  | false => exact h2 rfl
theorem zorv_b {k : Bool} (h1 : k = true → Q (.bl true) H) (h2 : k = false → tb σ H Q) : zOrV tb σ Q (.bl k) H := by
  refine ⟨_, rfl, ?_⟩
  cases k with
  | true => exact h1 rfl
  | false => exact h2 rfl
theorem zandv_t (h : tb σ H Q) : zAndV tb σ Q (.bl true) H := ⟨_, rfl, h⟩
theorem zandv_f (h : Q (.bl false) H) : zAndV tb σ Q (.bl false) H := ⟨_, rfl, h⟩
theorem zorv_t (h : Q (.bl true) H) : zOrV tb σ Q (.bl true) H := ⟨_, rfl, h⟩
theorem zorv_f (h : tb σ H Q) : zOrV tb σ Q (.bl false) H := ⟨_, rfl, h⟩
theorem zand_t {Q : Bool → Hp → Prop} (h : tu σ H Q) : zAnd tu σ Q true H := h
theorem zand_f {Q : Bool → Hp → Prop} (h : Q false H) : zAnd tu σ Q false H := h
theorem zor_t {Q : Bool → Hp → Prop} (h : Q true H) : zOr tu σ Q true H := h
theorem zor_f {Q : Bool → Hp → Prop} (h : tu σ H Q) : zOr tu σ Q false H := h
def zNotV (Q : VK) (x : V) (H : Hp) : Prop := ∃ c, x = .bl c ∧ Q (.bl (!c)) H
theorem notV_ (h : ta σ H (zNotV Q)) : tNotV ta σ H Q := h
theorem znotv_ {k : Bool} (h : Q (.bl (!k)) H) : zNotV Q (.bl k) H := ⟨k, rfl, h⟩
/-! ### operators on values -/
theorem addI {n m : Int} (h : Q (.int (n + m)) H) : rAddZ K (.int n) (.int m) H Q := .inl ⟨n, m, rfl, rfl, h⟩
theorem addS {l m : List Nat} (e : l.length + m.length ≤ 16777216) (h : Q (T (l ++ m)) H) : rAddZ K (T l) (T m) H Q := .inr (.inl ⟨l, m, rfl, rfl, e, h⟩)
theorem addL {xs ys : List V} (h1 : H a = some (.lst xs)) (h2 : H b = some (.lst ys)) (e : xs.length + ys.length ≤ 16777216)
    (h : ∀ p H', H p = none → Ex H H' → H' p = some (.lst (xs ++ ys)) → Q (.ref p) H') : rAddZ K (.ref a) (.ref b) H Q :=
  .inr (.inr (.inl ⟨a, b, xs, ys, rfl, rfl, h1, h2, by rw [sz_eq]; exact e, new_ h⟩))
theorem subI {n m : Int} (h : Q (.int (n - m)) H) : rSubZ (.int n) (.int m) H Q := ⟨n, m, rfl, rfl, h⟩
theorem mul_ok1 {n m : Int} (h1 : -18446744073709551616 < n) (h2 : n < 18446744073709551616) : IntMulOk n m := (CMul.ok (.inl ⟨h1, h2⟩))
theorem mul_ok2 {n m : Int} (h1 : -18446744073709551616 < m) (h2 : m < 18446744073709551616) : IntMulOk n m := (CMul.ok (.inr ⟨h1, h2⟩))
theorem mulI {n m : Int} (e : IntMulOk n m) (h : Q (.int (n * m)) H) : rMulZ (.int n) (.int m) H Q := .inl ⟨n, m, rfl, rfl, e, h⟩
theorem mulS {l : List Nat} {n : Int} (e1 : n ≤ 16777216) (e2 : -16777216 ≤ n) (e3 : l.length * n.toNat ≤ 16777216) (h : Q (T (rep l n.toNat)) H) : rMulZ (T l) (.int n) H Q :=
  .inr (.inl ⟨l, n, rfl, rfl, e1, e2, e3, h⟩)
theorem divI {n m : Int} (e1 : 0 < m) (e2 : m < 1073741824) (h : Q (.int (n / m)) H) : rDivZ (.int n) (.int m) H Q := ⟨n, m, rfl, rfl, ⟨e1, e2⟩, h⟩
theorem modI {n m : Int} (e1 : 0 < m) (h : Q (.int (n % m)) H) : rModZ (.int n) (.int m) H Q := ⟨n, m, rfl, rfl, e1, h⟩
theorem powI {n m : Int} (e : CPowW n m) (h : Q (.int (n ^ m.toNat)) H) : rPowZ (.int n) (.int m) H Q := ⟨n, m, rfl, rfl, e, h⟩
theorem pow_ok {n m : Int} (h : (decide (0 ≤ m) && decide ((Builtin.Int.intBits n : Int) * m ≤ 2 ^ 27)) = true) : CPowW n m := by
  simp only [Bool.and_eq_true, decide_eq_true_eq] at h
  exact h
theorem negI {n : Int} (h : Q (.int (-n)) H) : rU (fun i => .int (-i)) (.int n) H Q := ⟨n, rfl, h⟩
theorem ltI {n m : Int} (h : Q (.bl (decide (n < m))) H) : rLtZ (.int n) (.int m) H Q := ⟨n, m, rfl, rfl, h⟩
theorem leI {n m : Int} (h : Q (.bl (decide (n ≤ m))) H) : rLeZ (.int n) (.int m) H Q := ⟨n, m, rfl, rfl, h⟩
theorem gtI {n m : Int} (h : Q (.bl (decide (m < n))) H) : rGtZ (.int n) (.int m) H Q := ⟨n, m, rfl, rfl, h⟩
theorem geI {n m : Int} (h : Q (.bl (decide (m ≤ n))) H) : rGeZ (.int n) (.int m) H Q := ⟨n, m, rfl, rfl, h⟩
theorem dec_i {n m : Int} : decide (V.int n = V.int m) = decide (n = m) := by
  by_cases h : n = m
  · subst h; simp
  · rw [decide_eq_false h, decide_eq_false (fun q => h (V.int.inj q))]
theorem dec_s {l m : List Nat} : decide (T l = T m) = decide (l = m) := by
  by_cases h : l = m
  · subst h; simp
  · rw [decide_eq_false h, decide_eq_false (fun q => h (T_inj.mp q))]
theorem eqII {n : Int} (h : Q (.bl true) H) : rEqZ K (.int n) (.int n) H Q := .inl ⟨rfl, by rw [decide_eq_true rfl]; exact h⟩
theorem eqSS {l : List Nat} (h : Q (.bl true) H) : rEqZ K (T l) (T l) H Q := .inl ⟨rfl, by rw [decide_eq_true rfl]; exact h⟩
theorem neSS {l : List Nat} (h : Q (.bl false) H) : rNeZ K (T l) (T l) H Q := .inl ⟨rfl, by rw [decide_eq_true rfl]; exact h⟩
theorem eqI {n m : Int} (h : Q (.bl (decide (n = m))) H) : rEqZ K (.int n) (.int m) H Q := .inl ⟨rfl, dec_i ▸ h⟩
theorem eqS {l m : List Nat} (h : Q (.bl (decide (l = m))) H) : rEqZ K (T l) (T m) H Q := .inl ⟨rfl, dec_s ▸ h⟩
theorem neI {n m : Int} (h : Q (.bl (!decide (n = m))) H) : rNeZ K (.int n) (.int m) H Q := .inl ⟨rfl, dec_i ▸ h⟩
theorem neS {l m : List Nat} (h : Q (.bl (!decide (l = m))) H) : rNeZ K (T l) (T m) H Q := .inl ⟨rfl, dec_s ▸ h⟩
theorem inS {c : Nat} {z : List Nat} (h : Q (.bl (decide (c ∈ z))) H) : rInZ K (T [c]) (T z) H Q := .inl ⟨c, z, rfl, rfl, h⟩
theorem niS {c : Nat} {z : List Nat} (h : Q (.bl (!decide (c ∈ z))) H) : rNiZ K (T [c]) (T z) H Q := .inl ⟨c, z, rfl, rfl, h⟩
theorem ixS {z : List Nat} {n : Int} {c : Nat} (e1 : z.length ≤ 16777216) (e2 : atI z n = some c) (h : Q (T [c]) H) : rIxZ K (T z) (.int n) H Q := .inl ⟨z, n, c, rfl, rfl, e1, e2, h⟩
theorem ixL {xs : List V} {n : Int} {v : V} (e : H a = some (.lst xs)) (e2 : atI xs n = some v) (h : Q v H) : rIxZ K (.ref a) (.int n) H Q :=
  .inr (.inl ⟨a, xs, n, v, rfl, rfl, SqL.of e, e2, h⟩)
theorem ixU {xs : List V} {n : Int} {v : V} (e : H a = some (.tup xs)) (e2 : atI xs n = some v) (h : Q v H) : rIxZ K (.ref a) (.int n) H Q :=
  .inr (.inr ⟨a, xs, n, v, rfl, rfl, SqT.of e, e2, h⟩)
theorem ixSq {xs : List V} {n : Int} {v : V} (e : SqL K H a xs) (e2 : atI xs n = some v) (h : Q v H) : rIxZ K (.ref a) (.int n) H Q :=
  .inr (.inl ⟨a, xs, n, v, rfl, rfl, e, e2, h⟩)
theorem slS {z : List Nat} {lo hi : Option Int} (e : z.length ≤ 16777216) (h : Q (T (cut z lo hi)) H) : rSlZ K (T z) lo hi H Q := .inl ⟨z, rfl, e, h⟩
theorem slL {xs : List V} {lo hi : Option Int} (e : H a = some (.lst xs)) (h : ∀ p H', H p = none → Ex H H' → H' p = some (.lst (cutV xs lo hi)) → Q (.ref p) H') : rSlZ K (.ref a) lo hi H Q :=
  .inr (.inl ⟨a, xs, rfl, SqL.of e, new_ h⟩)
theorem lenS {l : List Nat} (e : l.length ≤ 16777216) (h : Q (.int (l.length : Nat)) H) : rLenZ K [T l] H Q :=
  ⟨_, l.length, rfl, ⟨by rw [str_len, sz_eq]; exact e, (str_len l).symm⟩, h⟩
theorem lenL {xs : List V} (e : H a = some (.lst xs)) (h : Q (.int (xs.length : Nat)) H) : rLenZ K [.ref a] H Q := ⟨_, xs.length, rfl, .inl ⟨xs, SqL.of e, rfl⟩, h⟩
theorem lenU {xs : List V} (e : H a = some (.tup xs)) (h : Q (.int (xs.length : Nat)) H) : rLenZ K [.ref a] H Q := ⟨_, xs.length, rfl, .inr ⟨xs, SqT.of e, rfl⟩, h⟩
theorem lenSq {xs : List V} (e : SqL K H a xs) (h : Q (.int (xs.length : Nat)) H) : rLenZ K [.ref a] H Q := ⟨_, xs.length, rfl, .inl ⟨xs, e, rfl⟩, h⟩
end
end Z
/-! Z, part E: more rules: op=, repr, str, int, join, count, enumerate of texts. -/
namespace Z
open PySem PySem.Spec PyProof.Rows L2
section
variable {X : Cx}
/-! ### op= -/
def pAddZ : TIp := fun x y H Q => rI0 (fun i j => .int (i + j)) x y H Q ∨ rAddS x y H Q
theorem z_iadd : PIp X .Add pAddZ := by
  intro pins s σ H x y v u Q I rx ry h
  rcases h with h | h
  · exact iop_add pins s σ H x y v u Q I rx ry h
  · exact iop_addS pins s σ H x y v u Q I rx ry h
def pSubZ : TIp := rI0 (fun i j => .int (i - j))
theorem z_isub : PIp X .Sub pSubZ := fun pins s σ H x y v u Q I rx ry h => iop_sub pins s σ H x y v u Q I rx ry h
def pMulZ : TIp := rI CMul (fun i j => .int (i * j))
theorem z_imul : PIp X .Mult pMulZ := fun pins s σ H x y v u Q I rx ry h => iop_mul pins s σ H x y v u Q I rx ry h
def pDivZ : TIp := rI CDiv (fun i j => .int (i / j))
theorem z_ifdiv : PIp X .FloorDiv pDivZ := fun pins s σ H x y v u Q I rx ry h => iop_fdiv pins s σ H x y v u Q I rx ry h
/-! ### xs[i] op= -/
def gList (K : PySem.W.Frag) : V → V → Hp → VK → Prop := fun o i H Q => ∃ (p : Addr) (xs : List V) (k : Int) (v : V), o = .ref p ∧ i = .int k ∧ SqL K H p xs ∧ atI xs k = some v ∧ Q v H
theorem get_list : PGet X (gList X.K) := by
  intro pins s σ H o i ov iv Q I ro ri h
  obtain ⟨p, xs, k, v, rfl, rfl, hq, he, q⟩ := h
  cases ro
  obtain ⟨t, rfl⟩ := ri
  obtain ⟨its, r, pl, hz⟩ := I.list hq
  obtain ⟨j, h1, h2, h3, h4, h5⟩ := atI_get he
  obtain ⟨w, ew, rw'⟩ := r.get h2
  have hl := r.length
  have hn := line63
  have fin : EP X pins σ Q w s := ⟨v, H, I, rw', q⟩
  by_cases h0 : 0 ≤ k
  · have hj : k.toNat = j := Option.some.inj ((seqIndex_of h0 h5).symm.trans h1)
    exact wpAny_getItem_list pl.isList h0 (by omega) (by rw [hj]; simpa using ew) fin
  · have hj : (k + (its.toArray.size : Int)).toNat = j := by
      rw [List.size_toArray, ← hl]
      exact Option.some.inj ((seqIndex_neg (by omega) h4).symm.trans h1)
    exact wpAny_getItem_list_neg pl.isList (by omega) (by rw [List.size_toArray] <;> omega) (by omega) (by rw [hj]; simpa using ew) fin
/-! ### repr -/
abbrev Dt (l : List Nat) : PyData := .str ⟨l.toArray⟩
/-- a text of at most n signs is told -/
inductive Rp : PyData → Nat → Nat → Prop
  | non : Rp .none 4 1
  | bl (b : Bool) : Rp (.bool b) 5 1
  | int {i : Int} (h1 : -18446744073709551616 < i) (h2 : i < 18446744073709551616) : Rp (.int i) 25 1
  | str {l : List Nat} (h : ∀ c ∈ l, c < 1000) : Rp (Dt l) (10 * l.length + 2) 1
  | lst {ds : List PyData} {n k : Nat} (h : ∀ d ∈ ds, Rp d n k) : Rp (.list ds) (ds.length * (n + 2) + 4) (k + 1)
  | tup {ds : List PyData} {n k : Nat} (h : ∀ d ∈ ds, Rp d n k) : Rp (.tuple ds) (ds.length * (n + 2) + 4) (k + 1)
  | more {d : PyData} {n m k j : Nat} (h : Rp d n k) (l : n ≤ m) (g : k ≤ j) : Rp d m j
theorem shownAll_map : ∀ ds : List PyData, PyData.shownAll ds = ds.map PyData.shown
  | [] => by simp [PyData.shownAll]
  | d :: ds => by simp [PyData.shownAll, shownAll_map ds]
theorem showableAll_of : ∀ {ds : List PyData}, (∀ d ∈ ds, d.showable = true) → PyData.showableAll ds = true
  | [], _ => by simp [PyData.showableAll]
  | d :: ds, h => by
    simp only [PyData.showableAll, h d List.mem_cons_self, Bool.true_and]
    exact showableAll_of fun e he => h e (List.mem_cons_of_mem _ he)
theorem hasDictAll_of : ∀ {ds : List PyData}, (∀ d ∈ ds, d.hasDict = false) → PyData.hasDictAll ds = false
  | [], _ => by simp [PyData.hasDictAll]
  | d :: ds, h => by
    simp only [PyData.hasDictAll, h d List.mem_cons_self, Bool.false_or]
    exact hasDictAll_of fun e he => h e (List.mem_cons_of_mem _ he)
theorem depthAll_of {k : Nat} : ∀ {ds : List PyData}, (∀ d ∈ ds, d.depth ≤ k) → PyData.depthAll ds ≤ k
  | [], _ => by simp [PyData.depthAll]
  | d :: ds, h => by
    simp only [PyData.depthAll]
    exact Nat.max_le.mpr ⟨h d List.mem_cons_self, depthAll_of fun e he => h e (List.mem_cons_of_mem _ he)⟩
theorem sum_le {n : Nat} : ∀ {ts : List Str}, (∀ t ∈ ts, t.length ≤ n) → (ts.map (·.length)).sum ≤ ts.length * n
  | [], _ => by simp
  | t :: ts, h => by
    have h1 := h t List.mem_cons_self
    have h2 := sum_le (n := n) fun u hu => h u (List.mem_cons_of_mem _ hu)
    simp only [List.map_cons, List.sum_cons, List.length_cons, Nat.succ_mul]
    omega
theorem slen_app (a b : Str) : (a ++ b).length = a.length + b.length := by
  show (a.cps ++ b.cps).size = _
  rw [Array.size_append]
  rfl
theorem tup_le (ts : List Str) : (tupleText ts).length ≤ (listText ts).length + 1 := by
  rw [listText_eq_join]
  unfold tupleText
  rw [slen_app, slen_app, slen_app, slen_app]
  have e1 : ((("(" : String) : Str)).length = 1 := by decide +kernel
  have e2 : ((("[" : String) : Str)).length = 1 := by decide +kernel
  have e3 : ((("]" : String) : Str)).length = 1 := by decide +kernel
  have e4 : (((if ts.length == 1 then ",)" else ")" : String) : Str)).length ≤ 2 := by split <;> decide +kernel
  omega
structure RpOk (d : PyData) (n k : Nat) : Prop where
  sh : d.showable = true
  nd : d.hasDict = false
  dp : d.depth ≤ k
  ln : d.shown.length ≤ n
theorem int_le {i : Int} (h1 : -18446744073709551616 < i) (h2 : i < 18446744073709551616) : i.natAbs.log2 < 1920 := by
  have h : i.natAbs < 2 ^ 64 := by omega
  by_cases z : i.natAbs = 0
  · rw [z]; decide
  · exact Nat.lt_trans ((Nat.log2_lt z).mpr h) (by decide)
theorem rp_ok {d : PyData} {n k : Nat} (r : Rp d n k) : RpOk d n k := by
  induction r with
  | non => exact ⟨rfl, rfl, Nat.zero_le _, by simp only [PyData.shown]; decide +kernel⟩
  | bl b => exact ⟨rfl, rfl, Nat.zero_le _, by simp only [PyData.shown]; cases b <;> decide +kernel⟩
  | int h1 h2 =>
    refine ⟨?_, rfl, Nat.zero_le _, ?_⟩
    · simp only [PyData.showable]
      exact decide_eq_true (int_le h1 h2)
    · simp only [PyData.shown]
      rw [PySem.ofString_length]
      exact Nat.le_trans (int_text_length_le10 (k := 20) (by decide) (by omega)) (by decide)
  | str h =>
    rename_i l
    refine ⟨rfl, rfl, Nat.zero_le _, ?_⟩
    simp only [PyData.shown]
    have := StrLaws.reprText_len (⟨l.toArray⟩ : Str) (by intro c hc; have := h c (by simpa using hc); omega)
    rw [str_len] at this
    exact this
  | lst h ih =>
    rename_i ds n k
    refine ⟨?_, ?_, ?_, ?_⟩
    · simp only [PyData.showable]; exact showableAll_of fun d hd => (ih d hd).sh
    · simp only [PyData.hasDict]; exact hasDictAll_of fun d hd => (ih d hd).nd
    · simp only [PyData.depth]; exact Nat.succ_le_succ (depthAll_of fun d hd => (ih d hd).dp)
    · simp only [PyData.shown]
      rw [shownAll_map]
      have h1 := listText_len_le (ds.map PyData.shown)
      have h2 := sum_le (n := n) (ts := ds.map PyData.shown) (by
        intro t ht
        obtain ⟨d, hd, rfl⟩ := List.mem_map.mp ht
        exact (ih d hd).ln)
      rw [List.length_map] at h1 h2
      rw [Nat.mul_add]
      omega
  | tup h ih =>
    rename_i ds n k
    refine ⟨?_, ?_, ?_, ?_⟩
    · simp only [PyData.showable]; exact showableAll_of fun d hd => (ih d hd).sh
    · simp only [PyData.hasDict]; exact hasDictAll_of fun d hd => (ih d hd).nd
    · simp only [PyData.depth]; exact Nat.succ_le_succ (depthAll_of fun d hd => (ih d hd).dp)
    · simp only [PyData.shown]
      rw [shownAll_map]
      have h0 := tup_le (ds.map PyData.shown)
      have h1 := listText_len_le (ds.map PyData.shown)
      have h2 := sum_le (n := n) (ts := ds.map PyData.shown) (by
        intro t ht
        obtain ⟨d, hd, rfl⟩ := List.mem_map.mp ht
        exact (ih d hd).ln)
      rw [List.length_map] at h1 h2
      rw [Nat.mul_add]
      omega
  | more r l g ih => exact ⟨ih.sh, ih.nd, Nat.le_trans ih.dp g, Nat.le_trans ih.ln l⟩
/-- the signs of a thing's text -/
def shownL (d : PyData) : List Nat := d.shown.cps.toList
def rRepr (K : PySem.W.Frag) : List V → Hp → VK → Prop := fun xs H Q => ∃ (x : V) (d : PyData) (n : Nat), xs = [x] ∧ Dp K H x d ∧ Rp d n 40 ∧ n ≤ sz ∧ Q (T (shownL d)) H
theorem z_repr (hu : X.A.units + 64 < cLine) (ng : X.A.guards = some []) : CallR X (.builtin "repr") (rRepr X.K) := by
  intro pins s σ H xs us Q I r h
  obtain ⟨x, d, n, rfl, dp, rp, hn, q⟩ := h
  have ok := rp_ok rp
  have hln : d.shown.length ≤ sizeLine := by rw [sz_eq]; exact Nat.le_trans ok.ln hn
  have et : T (shownL d) = V.str d.shown := by
    show V.str _ = V.str _
    exact congrArg V.str (str_eta _).symm
  rw [et] at q
  obtain ⟨u, rfl, ru⟩ := vals1 r
  cases dp with
  | non =>
    cases ru
    exact PySem.P.repr_of_none ⟨.str _, H, I.tok _, ⟨_, rfl⟩, by simpa [PyData.shown] using q⟩
  | bl b =>
    cases ru
    exact PySem.P.repr_of_bool ⟨.str _, H, I.tok _, ⟨_, rfl⟩, by simpa [PyData.shown] using q⟩
  | int i =>
    obtain ⟨t, rfl⟩ := ru
    exact PySem.P.repr_of_int (by have := ok.sh; simpa [PyData.showable] using this) ⟨.str _, H, I.tok _, ⟨_, rfl⟩, by simpa [PyData.shown] using q⟩
  | str z =>
    obtain ⟨t, rfl⟩ := ru
    exact PySem.P.repr_of_str ⟨.str _, H, I.tok _, ⟨_, rfl⟩, by simpa [PyData.shown] using q⟩ (by simpa [PyData.shown] using hln)
  | lst h1 h2 =>
    rename_i a ys ds
    cases ru
    obtain ⟨as, rd⟩ := Dp.reads I _ _ _ (Dp.lst h1 h2) rfl
    have hd := ok.dp
    exact repr_of_reads' rd ok.sh (fun z => absurd z (by rw [ok.nd]; decide)) ng (by omega) (fun _ _ e => e) (fun h' u tk k => ⟨.str _, H, I.kept k, ⟨u, rfl⟩, q⟩) hln
  | tup h1 h2 =>
    rename_i a ys ds
    cases ru
    obtain ⟨as, rd⟩ := Dp.reads I _ _ _ (Dp.tup h1 h2) rfl
    have hd := ok.dp
    exact repr_of_reads' rd ok.sh (fun z => absurd z (by rw [ok.nd]; decide)) ng (by omega) (fun _ _ e => e) (fun h' u tk k => ⟨.str _, H, I.kept k, ⟨u, rfl⟩, q⟩) hln
/-! ### str(n), int(text), join, count -/
@[irreducible] def intL (i : Int) : List Nat := (Str.ofString (toString i)).cps.toList
def rStrI : List V → Hp → VK → Prop := fun xs H Q => ∃ i : Int, xs = [.int i] ∧ -18446744073709551616 < i ∧ i < 18446744073709551616 ∧ Q (T (intL i)) H
theorem z_str_i : CallR X (.type "str") rStrI := by
  intro pins s σ H xs us Q I r h
  obtain ⟨i, rfl, h1, h2, q⟩ := h
  refine call_str_int pins s σ H _ us Q I r ⟨i, rfl, int_le h1 h2, ?_⟩
  have e : T (intL i) = V.str (Str.ofString (toString i)) := by unfold intL; exact congrArg V.str (str_eta _).symm
  rw [← e]
  exact q
def rJoin (K : PySem.W.Frag) : V → List V → Hp → VK → Prop := fun x xs H Q => ∃ (a : List Nat) (p : Addr) (ys : List (List Nat)), x = T a ∧ xs = [.ref p] ∧ (SqL K H p (ys.map T) ∨ SqT K H p (ys.map T)) ∧
  (ys.map (·.length)).sum + ys.length * a.length ≤ sz ∧ Q (T (joinT a ys)) H
theorem join_is (a : List Nat) : ∀ ys : List (List Nat), (Str.join ⟨a.toArray⟩ (ys.map fun l => (⟨l.toArray⟩ : Str))) = ⟨(joinT a ys).toArray⟩
  | [] => rfl
  | [x] => rfl
  | x :: y :: r => by
    have ih := join_is a (y :: r)
    show (⟨x.toArray⟩ ++ ⟨a.toArray⟩ ++ Str.join ⟨a.toArray⟩ ((y :: r).map fun l => (⟨l.toArray⟩ : Str)) : Str) = ⟨(x ++ a ++ joinT a (y :: r)).toArray⟩
    rw [ih, str_app, str_app]
theorem mt_joinT : MtR X "str.join" (rJoin X.K) := by
  intro pins s σ H x xs v us Q I rx rs h
  obtain ⟨a, p, ys, rfl, rfl, hp, hz, q⟩ := h
  refine mt_join pins s σ H _ _ v us Q I rx rs ⟨⟨a.toArray⟩, p, ys.map fun l => (⟨l.toArray⟩ : Str), rfl, rfl, ?_, ?_, ?_⟩
  · rw [List.map_map]
    exact hp
  · rw [List.map_map, List.length_map, str_len]
    have e : ((fun x : Str => x.length) ∘ fun l : List Nat => (⟨l.toArray⟩ : Str)) = fun l : List Nat => l.length := by
      funext l
      exact str_len l
    rw [e]
    exact hz
  · rw [TL.join_eq, join_is]
    exact q
end
section
variable {X : Cx} {o e : Expr} {to te : TE}
theorem z_join {apos pos : Pos} (ho : PE X o to) (he : PE X e te) (hs : starEach [e] X.env = [(false, eval e X.env)] := by rfl) (hbase : attributeBase o "join" X.env (eval o X.env) = eval o X.env := by rfl) (hline : (apos.endLine == pos.line) = true := by rfl) :
    PE X (.Call (.Attribute o "join" apos) [e] [] pos) (tM1 (rJoin X.K) to te) :=
  pe_m1 PySem.F.slot_str_join PySem.F.type_str_join mt_joinT ho he hs hbase hline
end
section
variable {X : Cx} {o e : Expr} {to te : TE}
theorem cnt_is (c : Nat) : ∀ l : List Nat, cnt c l = (l.count c : Nat)
  | [] => rfl
  | n :: r => by
    rw [cnt_cons, cnt_is c r, List.count_cons]
    by_cases h : n = c
    · subst h; simp; omega
    · rw [if_neg h]; simp [h]
def rCount : V → List V → Hp → VK → Prop := fun x xs H Q => ∃ (l : List Nat) (c : Nat), x = T l ∧ xs = [T [c]] ∧ Q (.int (l.count c : Nat)) H
theorem mt_countT : MtR X "str.count" rCount := by
  intro pins s σ H x xs v us Q I rx rs h
  obtain ⟨l, c, rfl, rfl, q⟩ := h
  refine mt_count pins s σ H _ _ v us Q I rx rs ⟨⟨l.toArray⟩, ⟨#[c]⟩, rfl, rfl, ?_⟩
  rw [PyProof.Rows.count_cnt]
  show Q (.int (cnt c l.toArray.toList)) H
  have e : l.toArray.toList = l := by simp
  rw [e, cnt_is]
  exact q
theorem z_count {apos pos : Pos} (ho : PE X o to) (he : PE X e te) (hs : starEach [e] X.env = [(false, eval e X.env)] := by rfl) (hbase : attributeBase o "count" X.env (eval o X.env) = eval o X.env := by rfl) (hline : (apos.endLine == pos.line) = true := by rfl) :
    PE X (.Call (.Attribute o "count" apos) [e] [] pos) (tM1 rCount to te) :=
  pe_m1 PySem.F.slot_str_count PySem.F.type_str_count mt_countT ho he hs hbase hline
end
section
variable {X : Cx}
def rAbs : List V → Hp → VK → Prop := fun xs H Q => ∃ i : Int, xs = [.int i] ∧ Q (.int (if i < 0 then -i else i)) H
theorem z_abs : CallR X (.builtin "abs") rAbs := call_abs
def rMin2 : List V → Hp → VK → Prop := fun xs H Q => ∃ i j : Int, xs = [.int i, .int j] ∧ Q (.int (if j < i then j else i)) H
theorem z_min2 (hc : X.calm = true) : CallR X (.builtin "min") rMin2 := call_min2 hc
def rMax2 : List V → Hp → VK → Prop := fun xs H Q => ∃ i j : Int, xs = [.int i, .int j] ∧ Q (.int (if j > i then j else i)) H
theorem z_max2 (hc : X.calm = true) : CallR X (.builtin "max") rMax2 := call_max2 hc
def rDivmod : List V → Hp → VK → Prop := fun xs H Q => ∃ i j : Int, xs = [.int i, .int j] ∧ CDiv i j ∧ ∀ p, H p = none → Q (.ref p) (upd H p (.tup [.int (i / j), .int (i % j)]))
theorem z_divmod : CallR X (.builtin "divmod") rDivmod := call_divmod
theorem z_str_of : CallR X (.type "str") rStrI := z_str_i
end
section
variable {X : Cx} {a : Expr} {ta : TE}
def zTru (K : PySem.W.Frag) (Q : Bool → Hp → Prop) (x : V) (H : Hp) : Prop := ∃ k, TruV K x H k ∧ Q k H
def tTruth (K : PySem.W.Frag) (ta : TE) : TT := fun σ H Q => ta σ H (zTru K Q)
theorem z_truth (ha : PE X a ta) (he : ∀ whole, isTrue a X.env whole = (do let v ← whole; standAt a.pos; holding [v] (truthy v))) : PT X a (tTruth X.K ta) := pt_truth ha he
end
/-! ### enumerate of a text -/
/-- sign by sign, from k on, each in a new pair -/
def Itn (x : List Nat) (k : Int) : It :=
  ⟨fun i _ => i < x.length, fun i H v H' => ∃ (p : Addr) (c : Nat), v = .ref p ∧ H p = none ∧ H' = upd H p (.tup [.int (k + (i : Nat)), T [c]]) ∧ x[i]? = some c, fun i _ => i = x.length⟩
theorem turn_enumT {P : Program} {w : World} {K : PySem.W.Frag} {elts : List Expr} {kk : Nat} {tpos : Pos} (x : List Nat) (t : Tok) (k : Int) (e it : Addr) (ne : e ≠ it) :
    Turn P w K (.Tuple elts kk tpos) (Itn x k) [e, it] e (fun i h => (∃ old, IsEnum h e it (k + (i : Int)) old) ∧ h.IsStrIter it (strIterType ⟨x.toArray⟩) ⟨x.toArray⟩ t i) where
  mem := List.mem_cons_self
  obj := by
    rintro i h ⟨⟨old, he⟩, o, ho, hc, hd⟩ b hb
    rcases List.mem_cons.mp hb with z | z
    · rw [z]; exact ⟨_, he, fun v q => nomatch q⟩
    · rw [List.mem_singleton.mp z]; exact ⟨o, ho, fun v q => by rw [hd] at q; cases q⟩
  keep := by
    rintro i h h' ⟨⟨old, he⟩, o, ho, r⟩ kp
    exact ⟨⟨old, kp e (by simp) _ he⟩, o, kp it (by simp) o ho, r⟩
  item := by
    intro X hP hw hK hc i pins s σ H E I hf st hg
    subst hP hw hK
    have G := GoesN.enumFrom (prog := X.prog) (w := X.w) (A := X.A) (elts := elts) (x1 := kk) (pos := tpos) k
      (Draws.text (prog := X.prog) (w := X.w) (A := X.A.in1) (I.ok.hd hc) it ⟨x.toArray⟩ t) e ne (by simpa using ne) (by simp)
    have hg1 : i < x.length := hg
    have hi : i < (⟨x.toArray⟩ : Str).cps.size := by simpa using hg1
    refine wpAny_mono (G.goes i s (fun v s2 => ∃ x_1 H', Inv X pins σ H' s2 ∧ RelV x_1 v ∧ (Itn x k).yld i H x_1 H' ∧ ((∃ old, IsEnum s2.heap e it (k + ((i + 1 : Nat) : Int)) old) ∧ s2.heap.IsStrIter it (strIterType ⟨x.toArray⟩) ⟨x.toArray⟩ t (i + 1)) ∧ ∀ b ∈ [e, it], H' b = none) E hi st ?_) (fun r s1 q => q) fun _ _ q => q
    intro v h' tk y st' kp htk
    obtain ⟨p, tk1, xv, rfl, hp, ⟨c, u, hx, rfl⟩, o, ho, hcl, n, hd⟩ := y
    have hx' : x[i]? = some c := by simpa using hx
    have new : ObjOk X.prog X.w (upd H p (.tup [.int (k + (i : Nat)), T [c]])) h' p (.tup [.int (k + (i : Nat)), T [c]]) :=
      ⟨by show 2 ≤ sizeLine; decide, [.int (k + (i : Int)) tk1, .str ⟨#[c]⟩ u], .cons ⟨_, rfl⟩ (.cons ⟨_, rfl⟩ .nil), ⟨o, ho, hcl, n, hd⟩⟩
    have I1 := I.turnedNew (t' := tk) (ch := [e, it]) kp hf hp new
    refine ⟨.ref p, _, I1, rfl, ⟨p, c, rfl, I.hok.fresh hp, rfl, hx'⟩, st', ?_⟩
    intro b hb
    have old : b < s.heap.objs.size := by
      obtain ⟨⟨_, he⟩, o2, ho2, _⟩ := st
      rcases List.mem_cons.mp hb with z | z
      · rw [z]; exact Heap.lt_size he
      · rw [List.mem_singleton.mp z]; exact Heap.lt_size ho2
    rw [upd_ne (Nat.ne_of_lt (Nat.lt_of_lt_of_le old hp))]
    exact (hf b hb).1
  done := by
    intro X hP hw hK hc i pins s σ H E I hf st hg
    subst hP hw hK
    have G := GoesN.enumFrom (prog := X.prog) (w := X.w) (A := X.A) (elts := elts) (x1 := kk) (pos := tpos) k
      (Draws.text (prog := X.prog) (w := X.w) (A := X.A.in1) (I.ok.hd hc) it ⟨x.toArray⟩ t) e ne (by simpa using ne) (by simp)
    have hi : i = (⟨x.toArray⟩ : Str).cps.size := by
      have z : i = x.length := hg
      rw [z]; simp
    refine G.stops s (fun s1 => Inv X pins σ H s1) E (hi ▸ st) ?_
    intro h' tk kp _
    refine I.step (g' := s.gens) (d' := s.drawn) (ch := [e, it]) (fun b hb => ⟨(hf b hb).2.2.2.1, (hf b hb).2.1, (hf b hb).2.2.2.2.1, (hf b hb).2.2.2.2.2⟩) (fun b o _ _ hc q _ => kp b o hc q) (fun b o _ _ hc q _ => ⟨o.slots, kp b o hc q⟩)
      (fun _ _ _ _ n => n) (fun b o hc q => ⟨o, kp b o hc q⟩) (fun _ _ q => q) (fun _ _ _ q => q) (fun b ps q => ⟨#[], by rw [q]; simp⟩) ?_ ?_ I.bare
    · rintro m ⟨o, es, ep, ho, r⟩
      exact ⟨o, es, ep, kp _ o (fun z => (hf _ z).2.1 rfl) ho, r⟩
    · intro b u q
      have nb : ∀ c v, H c = some v → c ∉ [e, it] := fun c v z hc => by
        have := (hf c hc).1
        rw [z] at this
        cases this
      refine (I.hok b u q).stay (fun c v hc r => kp c v ?_ r) (fun _ z => z) fun _ _ z => z
      rcases hc with z | z
      · rw [z]; exact nb b u q
      · exact nb c _ z
  self := by
    rintro A i s Q E ⟨⟨_, he⟩, _⟩ h
    exact wpAny_pyIter_enum he h
def iEnumT (ta : TA) : TI := fun σ H R => ta σ H fun vs H1 => ∃ x : List Nat, vs = [T x] ∧ R (Itn x 0) H1
theorem z_enumS {X : Cx} {e : Expr} {ta : TA} {p pos tpos : Pos} {elts : List Expr} {kk : Nat} (hg : Gl X "enumerate") (hm : X.mg "enumerate" = none) (ha : PA X [e] ta) (hs : starEach [e] X.env = [(false, eval e X.env)] := by rfl) :
    PI X (.Tuple elts kk tpos) (.Call (.Name "enumerate" p) [e] [] pos) (iEnumT ta) := by
  constructor
  intro pins s σ H R I h
  refine Call_ (ld_blt I hg hm boot_enumerate (PyProof.Rows.callWith_type1 (thn (ha.run pos pins s σ H _ I h) ?_) hs rfl))
  rintro us s1 ⟨vs, H1, I1, r1, x, rfl, q⟩
  obtain ⟨u, rfl, t, rfl⟩ := vals1 r1
  refine call_enumerate_str fun h' he hit hsz hk => wpAny_pyIter_enum he ?_
  have I2 : Inv X pins σ H1 { s1 with heap := h' } := I1.kept (t' := s1.toks) hk
  refine ⟨s1.heap.objs.size + 1, [s1.heap.objs.size + 1, s1.heap.objs.size], _, _, H1, rfl, I2, turn_enumT x t 0 (s1.heap.objs.size + 1) s1.heap.objs.size (Nat.succ_ne_self _), ⟨⟨.none, he⟩, hit⟩, ?_, q⟩
  intro b hb
  have le : s1.heap.objs.size ≤ b := by
    rcases List.mem_cons.mp hb with z | z
    · rw [z]; exact Nat.le_succ _
    · rw [List.mem_singleton.mp z]; exact Nat.le_refl _
  exact I1.fpOk le (I1.hok.fresh le)
theorem walk_enumT {x : List Nat} {k : Int} : Walk (Itn x k) x.length (fun _ => True) (YPair (fun i => some (.int (k + (i : Nat)))) (fun i => (x[i]?).map fun c => T [c])) :=
  ⟨fun _ _ hi _ => hi, fun _ _ => rfl, fun i H v H' _ _ ⟨p, c, h1, h2, h3, h4⟩ => ⟨p, _, _, h1, h2, h3, rfl, by show Option.map _ x[i]? = _; rw [h4]; rfl⟩⟩
end Z
/-! Z, part F: loops and comprehensions. -/
namespace Z
open PySem PySem.Spec PyProof.Rows L2
section
variable {σ σ' : L2.St} {H : Hp} {D : Ends} {t u ts tb : TS} {te ta tc to : TE} {tt : TT} {tr : TA} {Q : VK} {K : PySem.W.Frag} {x y v : V} {i j : Nat} {a b p : Addr} {g : TG} {xs : List V}
/-- what a walked thing leaves to be shown -/
def zFor (g : TG) (tb : TS) (D : Ends) (σ : L2.St) (J : It) (H : Hp) : Prop :=
  ∃ W : Nat → Nat → L2.St → Hp → Prop, (∃ m, W 0 m σ H) ∧ ∀ i m σ H, W i m σ H →
    (J.stop i H ∧ D.nx σ H) ∨ (J.go i H ∧ ∃ N : L2.St → Hp → Prop, (∀ σ' H', N σ' H' → ∃ m', m' < m ∧ W (i + 1) m' σ' H') ∧ ∀ x H', J.yld i H x H' → g x σ H' fun σ2 H2 => tb { D with nx := N, ct := N, bk := D.nx } σ2 H2)
theorem for_ {wi : TI} (h : wi σ H (zFor g tb D σ)) : tFor wi g tb D σ H := h
theorem seq_for {wi : TI} (h : wi σ H (zFor g tb { D with nx := u D } σ)) : tSeq (tFor wi g tb) u D σ H := h
def zList (K : PySem.W.Frag) (R : It → Hp → Prop) (x : V) (H : Hp) : Prop := ∃ a, x = .ref a ∧ (∃ xs, SqL K H a xs) ∧ R (Itl K a) H
theorem ilist_ {R : It → Hp → Prop} (h : te σ H (zList K R)) : iList K te σ H R := h
theorem zlist_ {R : It → Hp → Prop} (e : H a = some (.lst xs)) (h : R (Itl K a) H) : zList K R (.ref a) H := ⟨a, rfl, ⟨xs, SqL.of e⟩, h⟩
theorem zlistQ_ {R : It → Hp → Prop} (e : SqL K H a xs) (h : R (Itl K a) H) : zList K R (.ref a) H := ⟨a, rfl, ⟨xs, e⟩, h⟩
def zTupI (K : PySem.W.Frag) (R : It → Hp → Prop) (x : V) (H : Hp) : Prop := ∃ a, x = .ref a ∧ (∃ xs, SqT K H a xs) ∧ R (Itt K a) H
theorem itup_ {R : It → Hp → Prop} (h : te σ H (zTupI K R)) : iTup K te σ H R := h
theorem ztupi_ {R : It → Hp → Prop} (e : H a = some (.tup xs)) (h : R (Itt K a) H) : zTupI K R (.ref a) H := ⟨a, rfl, ⟨xs, SqT.of e⟩, h⟩
def zStr (R : It → Hp → Prop) (x : V) (H : Hp) : Prop := ∃ z, x = .str z ∧ R (Its z) H
theorem istr_ {R : It → Hp → Prop} (h : te σ H (zStr R)) : iStr te σ H R := h
theorem zstr_ {R : It → Hp → Prop} {l : List Nat} (h : R (Its ⟨l.toArray⟩) H) : zStr R (T l) H := ⟨_, rfl, h⟩
def zRng1 (R : It → Hp → Prop) (vs : List V) (H : Hp) : Prop := ∃ j : Int, vs = [.int j] ∧ -(2 ^ 62) ≤ j ∧ j < 2 ^ 62 ∧ R (Itr 0 j.toNat) H
theorem irng1_ {R : It → Hp → Prop} (h : tr σ H (zRng1 R)) : iRng1 tr σ H R := h
theorem zrng1_ {R : It → Hp → Prop} {n : Int} (e1 : -4611686018427387904 ≤ n) (e2 : n < 4611686018427387904) (h : R (Itr 0 n.toNat) H) : zRng1 R [.int n] H := ⟨n, rfl, e1, e2, h⟩
def zRng2 (R : It → Hp → Prop) (vs : List V) (H : Hp) : Prop := ∃ i j : Int, vs = [.int i, .int j] ∧ (-(2 ^ 62) ≤ i ∧ i < 2 ^ 62 ∧ -(2 ^ 62) ≤ j ∧ j < 2 ^ 62) ∧ R (Itr i (j - i).toNat) H
theorem irng2_ {R : It → Hp → Prop} (h : tr σ H (zRng2 R)) : iRng2 tr σ H R := h
theorem zrng2_ {R : It → Hp → Prop} {n m : Int} (e1 : -4611686018427387904 ≤ n) (e2 : n < 4611686018427387904) (e3 : -4611686018427387904 ≤ m) (e4 : m < 4611686018427387904) (h : R (Itr n (m - n).toNat) H) : zRng2 R [.int n, .int m] H := ⟨n, m, rfl, ⟨e1, e2, e3, e4⟩, h⟩
def zEnT (R : It → Hp → Prop) (vs : List V) (H : Hp) : Prop := ∃ x : List Nat, vs = [T x] ∧ R (Itn x 0) H
theorem ient_ {R : It → Hp → Prop} (h : tr σ H (zEnT R)) : iEnumT tr σ H R := h
theorem zent_ {R : It → Hp → Prop} {l : List Nat} (h : R (Itn l 0) H) : zEnT R [T l] H := ⟨l, rfl, h⟩
/-- a for, by its invariant -/
theorem forZ {J : It} {n : Nat} {G : Hp → Prop} {Y : Nat → Hp → V → Hp → Prop} (w : Walk J n G Y) (Pv : Nat → L2.St → Hp → Prop) (h0 : Pv 0 σ H) (hG : ∀ i σ H, i ≤ n → Pv i σ H → G H)
    (hs : ∀ i x σ H H', i < n → Pv i σ H → Y i H x H' → g x σ H' fun σ2 H2 => tb { D with nx := Pv (i + 1), ct := Pv (i + 1), bk := D.nx } σ2 H2) (hd : ∀ σ H, Pv n σ H → D.nx σ H) : zFor g tb D σ J H :=
  for_it w Pv h0 hG hs hd
/-- over a text -/
theorem forT {l : List Nat} (Pv : Nat → L2.St → Hp → Prop) (h0 : Pv 0 σ H)
    (hs : ∀ (i : Nat) (c : Nat) σ H, l[i]? = some c → Pv i σ H → tb { D with nx := Pv (i + 1), ct := Pv (i + 1), bk := D.nx } (List.set σ j (some (T [c]))) H) (hd : ∀ σ H, Pv l.length σ H → D.nx σ H) :
    zFor (gName j) tb D σ (Its ⟨l.toArray⟩) H := by
  have w : Walk (Its (⟨l.toArray⟩ : Str)) l.length (fun _ => True) (fun i H v H' => H' = H ∧ ∃ c, l[i]? = some c ∧ v = T [c]) := by
    have := walk_str (z := (⟨l.toArray⟩ : Str))
    simpa using this
  refine forZ w Pv h0 (fun _ _ _ _ _ => trivial) ?_ hd
  rintro i x σ H _ hi p ⟨rfl, c, hc, rfl⟩
  exact hs i c σ _ hc p
/-- over numbers -/
theorem forR {lo : Int} {n : Nat} (Pv : Nat → L2.St → Hp → Prop) (h0 : Pv 0 σ H)
    (hs : ∀ (i : Nat) σ H, i < n → Pv i σ H → tb { D with nx := Pv (i + 1), ct := Pv (i + 1), bk := D.nx } (List.set σ j (some (.int (lo + i)))) H) (hd : ∀ σ H, Pv n σ H → D.nx σ H) :
    zFor (gName j) tb D σ (Itr lo n) H := by
  refine forZ walk_range Pv h0 (fun _ _ _ _ _ => trivial) ?_ hd
  rintro i x σ H _ hi p ⟨rfl, rfl⟩
  exact hs i σ _ hi p
/-- over a list that stands still -/
theorem forL {xs : List V} (Pv : Nat → L2.St → Hp → Prop) (h0 : Pv 0 σ H) (hl : ∀ i σ H, i ≤ xs.length → Pv i σ H → SqL K H a xs)
    (hs : ∀ (i : Nat) (x : V) σ H, xs[i]? = some x → Pv i σ H → tb { D with nx := Pv (i + 1), ct := Pv (i + 1), bk := D.nx } (List.set σ j (some x)) H) (hd : ∀ σ H, Pv xs.length σ H → D.nx σ H) :
    zFor (gName j) tb D σ (Itl K a) H := by
  refine forZ walk_list Pv h0 hl ?_ hd
  rintro i x σ H _ hi p ⟨rfl, hx⟩
  exact hs i x σ _ hx p
/-- over the signs of a text with their places; the pair is taken apart at once -/
theorem forEnT {l : List Nat} {n : Int} {i1 i2 : Nat} (Pv : Nat → L2.St → Hp → Prop) (h0 : Pv 0 σ H)
    (hs : ∀ (i : Nat) (c : Nat) σ H H', l[i]? = some c → Pv i σ H → Ex H H' → tb { D with nx := Pv (i + 1), ct := Pv (i + 1), bk := D.nx } (List.set (List.set σ i1 (some (.int (n + i)))) i2 (some (T [c]))) H') (hd : ∀ σ H, Pv l.length σ H → D.nx σ H) :
    zFor (gTup K 2 (gCons (gName i1) (gCons (gName i2) gNil))) tb D σ (Itn l n) H := by
  refine forZ walk_enumT Pv h0 (fun _ _ _ _ _ => trivial) ?_ hd
  rintro i x σ H H' hi p ⟨q, a1, a2, rfl, hq, rfl, e1, e⟩
  obtain rfl : V.int (n + (i : Nat)) = a1 := Option.some.inj e1
  obtain ⟨c, hc, rfl⟩ := Option.map_eq_some_iff.mp e
  exact ⟨q, _, rfl, SqT.of upd_same, rfl, _, _, rfl, _, _, rfl, rfl, hs i c σ H _ hc p (Ex.new hq)⟩
/-- a while, by an invariant with a measure -/
def less (Pv : Nat → L2.St → Hp → Prop) (m : Nat) : L2.St → Hp → Prop := fun σ' H' => ∃ m', m' < m ∧ Pv m' σ' H'
def zWh (tb : TS) (D : Ends) (Pv : Nat → L2.St → Hp → Prop) (m : Nat) (σ : L2.St) (c : Bool) (H : Hp) : Prop :=
  if c = true then ∃ N : L2.St → Hp → Prop, (∀ σ' H', N σ' H' → ∃ m', m' < m ∧ Pv m' σ' H') ∧ tb { D with nx := N, ct := N, bk := D.nx } σ H else D.nx σ H
theorem while_ (Pv : Nat → L2.St → Hp → Prop) (m0 : Nat) (h0 : Pv m0 σ H) (hs : ∀ m σ H, Pv m σ H → tt σ H (zWh tb D Pv m σ)) : tWhile tt tb D σ H :=
  ⟨Pv, ⟨m0, h0⟩, hs⟩
theorem seq_while (Pv : Nat → L2.St → Hp → Prop) (m0 : Nat) (h0 : Pv m0 σ H) (hs : ∀ m σ H, Pv m σ H → tt σ H (zWh tb { D with nx := u D } Pv m σ)) : tSeq (tWhile tt tb) u D σ H := while_ (D := { D with nx := u D }) Pv m0 h0 hs
theorem zwh_d {Pv : Nat → L2.St → Hp → Prop} {m : Nat} {q : Prop} [Decidable q] (h1 : q → tb { D with nx := less Pv m, ct := less Pv m, bk := D.nx } σ H) (h2 : ¬ q → D.nx σ H) : zWh tb D Pv m σ (decide q) H := by
  unfold zWh
  by_cases h : q
  · rw [decide_eq_true h, if_pos rfl]; exact ⟨_, fun _ _ z => z, h1 h⟩
  · rw [decide_eq_false h, if_neg Bool.false_ne_true]; exact h2 h
theorem zwh_b {Pv : Nat → L2.St → Hp → Prop} {m : Nat} {k : Bool} (h1 : k = true → tb { D with nx := less Pv m, ct := less Pv m, bk := D.nx } σ H) (h2 : k = false → D.nx σ H) : zWh tb D Pv m σ k H := by
  unfold zWh
  cases k with
  | true => exact ⟨_, fun _ _ z => z, h1 rfl⟩
  | false => exact h2 rfl
theorem less_ {Pv : Nat → L2.St → Hp → Prop} {m : Nat} (m' : Nat) (l : m' < m) (p : Pv m' σ H) : less Pv m σ H := ⟨m', l, p⟩
/-! ### tuples taken apart, stores -/
theorem seq_asgG (h : te σ H fun x H1 => g x σ H1 fun σ1 H2 => u D σ1 H2) : tSeq (tAsg te g) u D σ H := h
theorem asgG_ (h : te σ H fun x H1 => g x σ H1 D.nx) : tAsg te g D σ H := h
theorem gname_ {Q : L2.St → Hp → Prop} (h : Q (List.set σ j (some v)) H) : gName j v σ H Q := h
theorem gtup_ {n : Nat} {tg : TGs} {Q : L2.St → Hp → Prop} (e : H a = some (.tup xs)) (l : xs.length = n) (h : tg xs σ H Q) : gTup K n tg (.ref a) σ H Q := ⟨a, xs, rfl, SqT.of e, l, h⟩
theorem gcons_ {tg : TGs} {Q : L2.St → Hp → Prop} (h : g v σ H fun σ' H' => tg xs σ' H' Q) : gCons g tg (v :: xs) σ H Q := ⟨v, xs, rfl, h⟩
theorem gnil_ {Q : L2.St → Hp → Prop} (h : Q σ H) : gNil [] σ H Q := ⟨rfl, h⟩
theorem gsub_ {s : TSet} {Q : L2.St → Hp → Prop} (h : to σ H fun o H1 => ta σ H1 fun i H2 => s o i v H2 fun H3 => Q σ H3) : gSub to ta s v σ H Q := h
theorem setL_ {Q : Hp → Prop} {k : Int} {n : Nat} (e : H a = some (.lst xs)) (e2 : ixN xs.length k = some n) (h : ∀ H', H' a = some (.lst (xs.set n v)) → But a H H' → Q H') : rSetL (.ref a) (.int k) v H Q :=
  ⟨a, xs, k, n, rfl, rfl, e, e2, h _ upd_same But.upd⟩
def zPar (i j : Nat) (σ : L2.St) (Q : L2.St → Hp → Prop) (vs : List V) (H : Hp) : Prop := ∃ v w, vs = [v, w] ∧ Q (List.set (List.set σ i (some v)) j (some w)) H
theorem seq_par (h : tr σ H (zPar i j σ (u D))) : tSeq (tPar i j tr) u D σ H := h
theorem par_ (h : tr σ H (zPar i j σ D.nx)) : tPar i j tr D σ H := h
theorem zpar_ {Q : L2.St → Hp → Prop} {v w : V} (h : Q (List.set (List.set σ i (some v)) j (some w)) H) : zPar i j σ Q [v, w] H := ⟨v, w, rfl, h⟩
theorem seq_aug {ti : TIp} (e : σ[i]? = some (some x)) (h : te σ H fun y H1 => ti x y H1 fun z H2 => u D (List.set σ i (some z)) H2) : tSeq (tAug i te ti) u D σ H := ⟨x, e, h⟩
theorem aug_ {ti : TIp} (e : σ[i]? = some (some x)) (h : te σ H fun y H1 => ti x y H1 fun z H2 => D.nx (List.set σ i (some z)) H2) : tAug i te ti D σ H := ⟨x, e, h⟩
theorem augS_ {tg : V → V → Hp → VK → Prop} {ti : TIp} {s : TSet} (h : to σ H fun o H1 => ta σ H1 fun i H2 => tg o i H2 fun x H3 => te σ H3 fun y H4 => ti x y H4 fun z H5 => s o i z H5 fun H6 => D.nx σ H6) : tAugS to ta te tg ti s D σ H := h
theorem getL_ {k : Int} (e : H a = some (.lst xs)) (e2 : atI xs k = some v) (h : Q v H) : gList K (.ref a) (.int k) H Q := ⟨a, xs, k, v, rfl, rfl, SqL.of e, e2, h⟩
theorem iaddI {n m : Int} (h : Q (.int (n + m)) H) : pAddZ (.int n) (.int m) H Q := .inl ⟨n, m, rfl, rfl, h⟩
theorem iaddS {l m : List Nat} (e : l.length + m.length ≤ 16777216) (h : Q (T (l ++ m)) H) : pAddZ (T l) (T m) H Q := .inr ⟨l, m, rfl, rfl, e, h⟩
theorem isubI {n m : Int} (h : Q (.int (n - m)) H) : pSubZ (.int n) (.int m) H Q := ⟨n, m, rfl, rfl, h⟩
/-! ### methods and calls of the language -/
def zBM (K : PySem.W.Frag) (s : String) (r : V → List V → Hp → VK → Prop) (tr : TA) (σ : L2.St) (Q : VK) (x : V) (H : Hp) : Prop := tyV K s x H ∧ tr σ H fun xs H2 => r x xs H2 Q
theorem bm_ {s : String} {r : V → List V → Hp → VK → Prop} (h : to σ H (zBM K s r tr σ Q)) : tBM K s r to tr σ H Q := h
theorem zbmL_ {r : V → List V → Hp → VK → Prop} (e : H a = some (.lst xs)) (h : tr σ H fun ys H2 => r (.ref a) ys H2 Q) : zBM K "list" r tr σ Q (.ref a) H := ⟨.inl ⟨rfl, _, SqL.of e⟩, h⟩
theorem append_ (e : H a = some (.lst xs)) (l : xs.length < 16777216) (h : ∀ H', H' a = some (.lst (xs ++ [v])) → But a H H' → Q .non H') : rAppend (.ref a) [v] H Q :=
  ⟨a, xs, v, rfl, rfl, e, by rw [sz_eq]; exact l, h _ upd_same But.upd⟩
def zM1 (r : V → List V → Hp → VK → Prop) (te : TE) (σ : L2.St) (Q : VK) (x : V) (H : Hp) : Prop := (∃ a, x = .str a) ∧ te σ H fun y H2 => r x [y] H2 Q
theorem m1_ {r : V → List V → Hp → VK → Prop} (h : to σ H (zM1 r te σ Q)) : tM1 r to te σ H Q := h
theorem zm1_ {r : V → List V → Hp → VK → Prop} {l : List Nat} (h : te σ H fun y H2 => r (T l) [y] H2 Q) : zM1 r te σ Q (T l) H := ⟨⟨_, rfl⟩, h⟩
theorem join_ {l : List Nat} {ys : List (List Nat)} (e : H a = some (.lst (ys.map T))) (e2 : (ys.map (·.length)).sum + ys.length * l.length ≤ 16777216) (h : Q (T (joinT l ys)) H) : rJoin K (T l) [.ref a] H Q :=
  ⟨l, a, ys, rfl, rfl, .inl (SqL.of e), e2, h⟩
theorem count_ {l : List Nat} {c : Nat} (h : Q (.int (l.count c : Nat)) H) : rCount (T l) [T [c]] H Q := ⟨l, c, rfl, rfl, h⟩
theorem strI_ {n : Int} (e1 : -18446744073709551616 < n) (e2 : n < 18446744073709551616) (h : Q (T (intL n)) H) : rStrI [.int n] H Q := ⟨n, rfl, e1, e2, h⟩
theorem divmod_ {n m : Int} (e1 : 0 < m) (e2 : m < 1073741824) (h : ∀ p H', H p = none → Ex H H' → H' p = some (.tup [.int (n / m), .int (n % m)]) → Q (.ref p) H') : rDivmod [.int n, .int m] H Q := ⟨n, m, rfl, ⟨e1, e2⟩, new_ h⟩
theorem abs_ {n : Int} (h : Q (.int (if n < 0 then -n else n)) H) : rAbs [.int n] H Q := ⟨n, rfl, h⟩
theorem min2_ {n m : Int} (h : Q (.int (if m < n then m else n)) H) : rMin2 [.int n, .int m] H Q := ⟨n, m, rfl, h⟩
theorem max2_ {n m : Int} (h : Q (.int (if m > n then m else n)) H) : rMax2 [.int n, .int m] H Q := ⟨n, m, rfl, h⟩
theorem nx_ {N : L2.St → Hp → Prop} (e : D.nx = N) (h : N σ H) : D.nx σ H := e ▸ h
theorem rt_ {R : VK} (e : D.rt = R) (h : R v H) : D.rt v H := e ▸ h
theorem bk_ {N : L2.St → Hp → Prop} (e : D.bk = N) (h : N σ H) : D.bk σ H := e ▸ h
theorem ct_ {N : L2.St → Hp → Prop} (e : D.ct = N) (h : N σ H) : D.ct σ H := e ▸ h
theorem brk_ (h : D.bk σ H) : tBreak D σ H := h
theorem cont_ (h : D.ct σ H) : tCont D σ H := h
theorem cut_ (M : L2.St → Hp → Prop) (h : t { D with nx := M } σ H) (k : ∀ σ' H', M σ' H' → u D σ' H') : Evl.tCut t u D σ H := ⟨M, h, k⟩
theorem cutSeq_ (h : t { D with nx := u D } σ H) : Evl.tCut t u D σ H := ⟨u D, h, fun _ _ z => z⟩
theorem repr_ {d : PyData} {n : Nat} (e1 : Dp K H x d) (e2 : Rp d n 40) (e3 : n ≤ 16777216) (h : Q (T (shownL d)) H) : rRepr K [x] H Q := ⟨x, d, n, rfl, e1, e2, e3, h⟩
theorem truth_ {R : Bool → Hp → Prop} (h : te σ H (zTru K R)) : tTruth K te σ H R := h
theorem ztru_b {R : Bool → Hp → Prop} {k : Bool} (h : R k H) : zTru K R (.bl k) H := ⟨k, rfl, h⟩
theorem ztru_S {R : Bool → Hp → Prop} {l : List Nat} (e : l.length ≤ 16777216) (h : R (decide (l ≠ [])) H) : zTru K R (T l) H := by
  refine ⟨_, ⟨by rw [str_len, sz_eq]; exact e, ?_⟩, h⟩
  rw [str_len]
  cases l <;> simp
  omega
def zOrT (K : PySem.W.Frag) (tb : TE) (σ : L2.St) (Q : VK) (x : V) (H : Hp) : Prop := ∃ k, TruV K x H k ∧ if k = true then Q x H else tb σ H Q
theorem orT_ {tb : TE} (h : ta σ H (zOrT K tb σ Q)) : tOrT K ta tb σ H Q := h
theorem zorT_S {tb : TE} {l : List Nat} (e : l.length ≤ 16777216) (h1 : l ≠ [] → Q (T l) H) (h2 : l = [] → tb σ H Q) : zOrT K tb σ Q (T l) H := by
  refine ⟨decide (l ≠ []), ⟨by rw [str_len, sz_eq]; exact e, ?_⟩, ?_⟩
  · rw [str_len]
    cases l <;> simp
    omega
  · by_cases h : l = []
    · rw [decide_eq_false (fun z => z h)]; exact h2 h
    · rw [decide_eq_true h]; exact h1 h
inductive RpAll (n k : Nat) : List PyData → Prop
  | nil : RpAll n k []
  | cons {d : PyData} {ds : List PyData} {m j : Nat} (h : Rp d m j) (hm : m ≤ n) (hj : j ≤ k) (r : RpAll n k ds) : RpAll n k (d :: ds)
theorem RpAll.mem {n k : Nat} {ds : List PyData} (h : RpAll n k ds) : ∀ d ∈ ds, Rp d n k := by
  induction h with
  | nil => intro d hd; cases hd
  | cons h hm hj _ ih =>
    intro d hd
    rcases List.mem_cons.mp hd with z | z
    · rw [z]; exact .more h hm hj
    · exact ih d z
/-! ### comprehensions -/
def zLc (g : TG) (tt : TT) (te : TE) (vs : List Nat) (σ : L2.St) (Q : VK) (J : It) (H1 : Hp) : Prop := ∀ D, H1 D = none → ∃ W : Nat → Nat → Hp → Prop, (∃ m, W 0 m (upd H1 D (.lst []))) ∧ ∀ i m H, W i m H →
  (J.stop i H ∧ Q (.ref D) H) ∨ (J.go i H ∧ ∃ Nx : Hp → Prop, (∀ H', Nx H' → ∃ m', m' < m ∧ W (i + 1) m' H') ∧ ∀ x H', J.yld i H x H' → g x (wipe σ vs) H' fun σ2 H2 => wipe σ2 vs = wipe σ vs ∧ tt σ2 H2 fun b H3 =>
    if b = true then te σ2 H3 fun y H4 => ∃ acc, H4 D = some (.lst acc) ∧ acc.length < sizeLine ∧ Nx (upd H4 D (.lst (acc ++ [y]))) else Nx H3)
theorem lc_ {wi : TI} {vs : List Nat} (h : wi σ H (zLc g tt te vs σ Q)) : tLc wi g tt te vs σ H Q := h
def zPut1 (D : Addr) (N : Hp → Prop) (y : V) (H : Hp) : Prop := ∃ acc, H D = some (.lst acc) ∧ acc.length < sizeLine ∧ N (upd H D (.lst (acc ++ [y])))
def zPut (te : TE) (D : Addr) (N : Hp → Prop) (σ : L2.St) (b : Bool) (H : Hp) : Prop := if b = true then te σ H (zPut1 D N) else N H
theorem zput_t {D : Addr} {N : Hp → Prop} (h : te σ H (zPut1 D N)) : zPut te D N σ true H := h
theorem zput_d {D : Addr} {N : Hp → Prop} {q : Prop} [Decidable q] (h1 : q → te σ H (zPut1 D N)) (h2 : ¬ q → N H) : zPut te D N σ (decide q) H := by
  unfold zPut
  by_cases h : q
  · rw [decide_eq_true h, if_pos rfl]; exact h1 h
  · rw [decide_eq_false h, if_neg Bool.false_ne_true]; exact h2 h
theorem zput_n {D : Addr} {N : Hp → Prop} {q : Prop} [Decidable q] (h1 : ¬ q → te σ H (zPut1 D N)) (h2 : q → N H) : zPut te D N σ (!decide q) H := by
  unfold zPut
  by_cases h : q
  · rw [decide_eq_true h]; exact h2 h
  · rw [decide_eq_false h]; exact h1 h
theorem zput_b {D : Addr} {N : Hp → Prop} {k : Bool} (h1 : k = true → te σ H (zPut1 D N)) (h2 : k = false → N H) : zPut te D N σ k H := by
  unfold zPut
  cases k with
  | true => exact h1 rfl
  | false => exact h2 rfl
theorem zput1_ {D : Addr} {N : Hp → Prop} {acc : List V} (e : H D = some (.lst acc)) (l : acc.length < 16777216) (h : ∀ H', H' D = some (.lst (acc ++ [y])) → But D H H' → N H') : zPut1 D N y H :=
  ⟨acc, e, by rw [sz_eq]; exact l, h _ upd_same But.upd⟩
theorem tyes_ {R : Bool → Hp → Prop} (h : R true H) : tYes σ H R := h
/-- a comprehension, by an invariant -/
theorem lcW {J : It} {n : Nat} {G : Hp → Prop} {Y : Nat → Hp → V → Hp → Prop} {vs : List Nat} (w : Walk J n G Y) (Pv : Addr → Nat → Hp → Prop)
    (h0 : ∀ D H1, H D = none → Ex H H1 → H1 D = some (.lst []) → Pv D 0 H1) (hG : ∀ D i H', i ≤ n → Pv D i H' → G H')
    (hs : ∀ D i x H1 H2, H D = none → i < n → Pv D i H1 → Y i H1 x H2 → g x (wipe σ vs) H2 fun σ2 H3 => wipe σ2 vs = wipe σ vs ∧ tt σ2 H3 (zPut te D (Pv D (i + 1)) σ2))
    (hd : ∀ D H1, H D = none → Pv D n H1 → Q (.ref D) H1) : zLc g tt te vs σ Q J H := by
  intro D hD
  exact lc_it w (Pv D) (h0 D _ hD (Ex.new hD) upd_same) (hG D) (fun i x H1 H2 hi p y => hs D i x H1 H2 hD hi p y) (hd D · hD)
/-- each item gives the item of ys; what stood stands -/
structure Lm (H : Hp) (ys : List V) (D : Addr) (i : Nat) (H' : Hp) : Prop where
  ex : Ex H H'
  at_ : H' D = some (.lst (ys.take i))
theorem lm_put {H H' H4 : Hp} {ys : List V} {D : Addr} {i : Nat} {y : V} (hD : H D = none) (m : Lm H ys D i H') (e : Ex H' H4) (hy : ys[i]? = some y) (l : ys.length < 16777216) : zPut1 D (Lm H ys D (i + 1)) y H4 := by
  have hi : i < ys.length := (List.getElem?_eq_some_iff.mp hy).1
  refine zput1_ (e.at_ m.at_) (by rw [List.length_take]; omega) fun H5 h5 b => ⟨?_, ?_⟩
  · exact But.ex b (m.ex.trans e) hD
  · rw [h5, List.take_succ, hy]; rfl
/-- over a list, each item by itself -/
theorem lcL {xs ys : List V} {vs : List Nat} (hx : SqL K H a xs) (hn : ys.length = xs.length) (hz : ys.length < 16777216) (hw : ∀ x, wipe (List.set (wipe σ vs) j (some x)) vs = wipe σ vs)
    (hs : ∀ (D : Addr) (i : Nat) (x : V) H1, H D = none → xs[i]? = some x → Lm H ys D i H1 → te (List.set (wipe σ vs) j (some x)) H1 (zPut1 D (Lm H ys D (i + 1))))
    (hd : ∀ D H1, H D = none → Ex H H1 → H1 D = some (.lst ys) → Q (.ref D) H1) : zLc (gName j) tYes te vs σ Q (Itl K a) H := by
  refine lcW walk_list (Lm H ys) (fun D H1 hD e h => ⟨e, by rw [h]; simp⟩) (fun D i H' _ m => m.ex.seqL hx) ?_ ?_
  · rintro D i x H1 _ hD hi m ⟨rfl, hx⟩
    exact ⟨hw x, hs D i x _ hD hx m⟩
  · intro D H1 hD m
    refine hd D H1 hD m.ex ?_
    rw [m.at_, ← hn, List.take_length]
theorem lcT {l : List Nat} {ys : List V} {vs : List Nat} (hn : ys.length = l.length) (hz : ys.length < 16777216) (hw : ∀ x, wipe (List.set (wipe σ vs) j (some x)) vs = wipe σ vs)
    (hs : ∀ (D : Addr) (i : Nat) (c : Nat) H1, H D = none → l[i]? = some c → Lm H ys D i H1 → te (List.set (wipe σ vs) j (some (T [c]))) H1 (zPut1 D (Lm H ys D (i + 1))))
    (hd : ∀ D H1, H D = none → Ex H H1 → H1 D = some (.lst ys) → Q (.ref D) H1) : zLc (gName j) tYes te vs σ Q (Its ⟨l.toArray⟩) H := by
  have w : Walk (Its (⟨l.toArray⟩ : Str)) l.length (fun _ => True) (fun i H v H' => H' = H ∧ ∃ c, l[i]? = some c ∧ v = T [c]) := by
    have := walk_str (z := (⟨l.toArray⟩ : Str))
    simpa using this
  refine lcW w (Lm H ys) (fun D H1 hD e h => ⟨e, by rw [h]; simp⟩) (fun D i H' _ m => trivial) ?_ ?_
  · rintro D i x H1 _ hD hi m ⟨rfl, c, hc, rfl⟩
    exact ⟨hw _, hs D i c _ hD hc m⟩
  · intro D H1 hD m
    refine hd D H1 hD m.ex ?_
    rw [m.at_, ← hn, List.take_length]
end
end Z
/-! Z, part G: texts turned about, least and greatest, int of a sign; what is never reached. -/
namespace Z
open PySem PySem.Spec PyProof.Rows L2
section
variable {X : Cx}
/-! ### text[::-1] -/
theorem pick_rev (l : List Nat) : ((Builtin.Str.strSliceIndices none none (-1) l.length).filterMap (l.toArray[·]?)).toArray = l.reverse.toArray := by
  have e : Builtin.Str.strSliceIndices none none (-1) l.length = sliceRange ((l.length : Int) - 1) (-1) (-1) := rfl
  rw [e, PySem.W.krv_sliceRange, PySem.W.krv_range, List.filterMap_reverse]
  have := PySem.W.krv_all l.toArray
  rw [List.size_toArray] at this
  rw [this]
def zRevS (Q : VK) (x : V) (H : Hp) : Prop := ∃ l : List Nat, x = T l ∧ l.length ≤ sz ∧ Q (T l.reverse) H
def tRevS (te : TE) : TE := fun σ H Q => te σ H (zRevS Q)
theorem z_revS {e : Expr} {te : TE} {k : Nat} {p1 p2 p3 pos : Pos} (he : PE X e te) : PE X (.Subscript e (.Slice none none (some (.UnaryOp .USub (.Constant (.int 1) k p1) p2)) p3) pos) (tRevS te) := by
  refine ⟨fun pins s σ H Q I h => ?_⟩
  refine Subscript_ (thn (he.run pins s σ H _ I h) fun v s1 ⟨x, H1, I1, r1, q1⟩ => ?_)
  obtain ⟨l, rfl, hz, q⟩ := q1
  obtain ⟨t, rfl⟩ := r1
  have hst : PO X (some (.UnaryOp .USub (.Constant (.int 1) k p1) p2)) (tPart (tUn (rU fun i => .int (-i)) (tC (.int 1)))) := po_some (pe_un un_neg pe_int)
  refine wpAny_Slice (thn (po_none.run pins s1 σ H1 (fun o H2 => o = none ∧ H2 = H1) I1 ⟨rfl, rfl⟩) fun vl s2 ⟨l', H2, I2, pl, el, e2⟩ => ?_)
  subst el e2
  refine thn (po_none.run pins s2 σ H2 (fun o H3 => o = none ∧ H3 = H2) I2 ⟨rfl, rfl⟩) fun vu s3 ⟨u, H3, I3, pu, eu, e3⟩ => ?_
  subst eu e3
  refine thn (hst.run pins s3 σ H3 (fun o H4 => o = some (-1) ∧ H4 = H3) I3 ⟨1, rfl, -1, rfl, rfl, rfl⟩) fun vs s4 ⟨o, H4, I4, ps, eo, e4⟩ => ?_
  subst eo e4
  have I5 : Inv X pins σ H4 { s4 with heap := s4.heap.push { cls := .type "slice", data := .fields #[vl, vu, vs] } } := I4.kept (t' := s4.toks) fun b ob q => Heap.get?_push_of_some _ q
  obtain ⟨ol, rfl, hol⟩ := IsPart.raw pl
  obtain ⟨ou, rfl, hou⟩ := IsPart.raw pu
  obtain ⟨os, rfl, hos⟩ := IsPart.raw ps
  have h1 : ol = none := Option.map_eq_none_iff.mp hol
  have h2 : ou = none := Option.map_eq_none_iff.mp hou
  subst h1 h2
  obtain ⟨⟨j, tj⟩, rfl, rfl⟩ := Option.map_eq_some_iff.mp hos
  show wpAny (model X.prog X.w) X.A (subscriptTail e (.Slice none none (some (.UnaryOp .USub (.Constant (.int 1) k p1) p2)) p3) (.str ⟨l.toArray⟩ t) (.ref s4.heap.objs.size)) (EP X pins σ Q) X.xe _
  refine tail_any (ops := [.ref s4.heap.objs.size, .str ⟨l.toArray⟩ t]) (typeIs_str _ _ _) (F.slot_str_getitem.lookup) ?_ (by with_unfolding_all rfl)
  refine wpAny_getItem_str_slice (l := none) (u := none) (st := some (-1, tj)) ⟨_, Heap.get?_push_size _ rfl, rfl, rfl⟩ rfl ?_
  show (Made.str ⟨((Builtin.Str.strSliceIndices none none (-1) (⟨l.toArray⟩ : Str).length).filterMap ((⟨l.toArray⟩ : Str).cps[·]?)).toArray⟩).post (EP X pins σ Q) _
  have e : (Builtin.Str.strSliceIndices none none (-1) (⟨l.toArray⟩ : Str).length).filterMap ((⟨l.toArray⟩ : Str).cps[·]?) = l.reverse := by
    have := congrArg Array.toList (pick_rev l)
    rw [str_len]
    exact this
  rw [e]
  refine ⟨?_, T l.reverse, H4, I5.tok _, ⟨_, rfl⟩, q⟩
  rw [str_len, List.length_reverse, sz_eq]
  exact hz
/-! ### min, max of a list -/
theorem z_min1 (hc : X.calm = true) : CallR X (.builtin "min") (rMin X.K) := cr_min hc
theorem z_max1 (hc : X.calm = true) : CallR X (.builtin "max") (rMax X.K) := cr_max hc
/-! ### int(..) -/
def rIntZ : List V → Hp → VK → Prop := fun xs H Q => (∃ i, xs = [.int i] ∧ Q (.int i) H) ∨ (∃ k, xs = [.bl k] ∧ Q (.int (if k then 1 else 0)) H) ∨ ∃ c, xs = [T [c]] ∧ (c = 48 ∨ c = 49) ∧ Q (.int ((c : Int) - 48)) H
theorem z_int_of : CallR X (.type "int") rIntZ := by
  intro pins s σ H xs us Q I rs q
  rcases q with q | q | ⟨c, rfl, hc, q⟩
  · exact call_int1 pins s σ H xs us Q I rs (.inl q)
  · exact call_int1 pins s σ H xs us Q I rs (.inr q)
  · refine call_int_str pins s σ H _ us Q I rs ⟨_, _, rfl, ?_, ?_, q⟩
    · rcases hc with rfl | rfl
      · decide +kernel
      · decide +kernel
    · rw [str_len]; simp
end
section
variable {σ σ' : L2.St} {H : Hp} {D : Ends} {Q : VK} {K : PySem.W.Frag} {a b p : Addr} {te : TE} {xs ys : List V}
def zPar3 (i j l : Nat) (σ : L2.St) (Q : L2.St → Hp → Prop) (vs : List V) (H : Hp) : Prop := ∃ u v w, vs = [u, v, w] ∧ Q (List.set (List.set (List.set σ i (some u)) j (some v)) l (some w)) H
theorem seq_par3 {i j l : Nat} {tr : TA} {u : TS} (h : tr σ H (zPar3 i j l σ (u D))) : tSeq (tPar3 i j l tr) u D σ H := h
theorem par3_ {i j l : Nat} {tr : TA} (h : tr σ H (zPar3 i j l σ D.nx)) : tPar3 i j l tr D σ H := h
theorem zpar3_ {i j l : Nat} {Q : L2.St → Hp → Prop} {u v w : V} (h : Q (List.set (List.set (List.set σ i (some u)) j (some v)) l (some w)) H) : zPar3 i j l σ Q [u, v, w] H := ⟨u, v, w, rfl, h⟩
theorem revS_ (h : te σ H (zRevS Q)) : tRevS te σ H Q := h
theorem zrevS_ {l : List Nat} (e : l.length ≤ 16777216) (h : Q (T l.reverse) H) : zRevS Q (T l) H := ⟨l, rfl, e, h⟩
theorem min1_ {ns : List Int} (e : H a = some (.lst (ns.map V.int))) (l : 0 < ns.length) (h : ∀ m, m ∈ ns → (∀ y ∈ ns, m ≤ y) → Q (.int m) H) : rMin K [.ref a] H Q := ⟨a, ns, rfl, SqL.of e, l, fun m h1 h2 => h m h1 h2⟩
theorem max1_ {ns : List Int} (e : H a = some (.lst (ns.map V.int))) (l : 0 < ns.length) (h : ∀ m, m ∈ ns → (∀ y ∈ ns, y ≤ m) → Q (.int m) H) : rMax K [.ref a] H Q := ⟨a, ns, rfl, SqL.of e, l, fun m h1 h2 => h m h1 h2⟩
theorem intI_ {i : Int} (h : Q (.int i) H) : rIntZ [.int i] H Q := .inl ⟨i, rfl, h⟩
theorem intB_ {k : Bool} (h : Q (.int (if k then 1 else 0)) H) : rIntZ [.bl k] H Q := .inr (.inl ⟨k, rfl, h⟩)
theorem intS_ {c : Nat} (e : c = 48 ∨ c = 49) (h : Q (.int ((c : Int) - 48)) H) : rIntZ [T [c]] H Q := .inr (.inr ⟨c, rfl, e, h⟩)
theorem eqD_ {x y : V} {d e : PyData} (h1 : Dp K H x d) (h2 : Dp K H y e) (s1 : SeqAt.shaped d = true) (s2 : SeqAt.shaped e = true) (h : Q (.bl (PyData.eqv d e)) H) : rEqZ K x y H Q := .inr ⟨d, e, h1, h2, s1, s2, h⟩
theorem neD_ {x y : V} {d e : PyData} (h1 : Dp K H x d) (h2 : Dp K H y e) (s1 : SeqAt.shaped d = true) (s2 : SeqAt.shaped e = true) (h : Q (.bl (!PyData.eqv d e)) H) : rNeZ K x y H Q := .inr ⟨d, e, h1, h2, s1, s2, h⟩
end
/-! ### data that can be told can be compared -/
theorem canAll_of : ∀ {ds : List PyData}, (∀ d ∈ ds, PyData.canLay0 d = true) → PyData.canLayAll0 ds = true
  | [], _ => rfl
  | d :: ds, h => by
    rw [PyData.canLayAll0, h d List.mem_cons_self, canAll_of fun e he => h e (List.mem_cons_of_mem _ he)]
    rfl
theorem rp_can {d : PyData} {n k : Nat} (r : Rp d n k) : n ≤ 16777216 → PyData.canLay0 d = true := by
  induction r with
  | non => exact fun _ => rfl
  | bl b => exact fun _ => rfl
  | int h1 h2 => exact fun _ => rfl
  | str h =>
    rename_i l
    intro hn
    show (l.toArray.all (· < 0x110000)) = true
    rw [Array.all_eq_true_iff_forall_mem]
    intro c hc
    have := h c (by simpa using hc)
    exact decide_eq_true (by omega)
  | lst h ih =>
    rename_i ds n k
    intro hn
    show PyData.canLayAll0 ds = true
    refine canAll_of fun d hd => ih d hd ?_
    have h1 : 0 < ds.length := List.length_pos_of_mem hd
    have h2 : 1 * (n + 2) ≤ ds.length * (n + 2) := Nat.mul_le_mul_right _ h1
    omega
  | tup h ih =>
    rename_i ds n k
    intro hn
    show PyData.canLayAll0 ds = true
    refine canAll_of fun d hd => ih d hd ?_
    have h1 : 0 < ds.length := List.length_pos_of_mem hd
    have h2 : 1 * (n + 2) ≤ ds.length * (n + 2) := Nat.mul_le_mul_right _ h1
    omega
  | more h l g ih => exact fun hn => ih (by omega)
theorem rp_shaped {d : PyData} {n k : Nat} (r : Rp d n k) (hn : n ≤ 16777216) (hk : k ≤ 64) : SeqAt.shaped d = true := by
  unfold SeqAt.shaped
  rw [rp_can r hn, decide_eq_true (Nat.le_trans (rp_ok r).dp hk)]
  rfl
section
variable {H : Hp} {Q : VK} {K : PySem.W.Frag} {x y : V} {d : PyData} {n k : Nat}
theorem eqDD_ (h1 : Dp K H x d) (h2 : Dp K H y d) (r : Rp d n k) (hn : n ≤ 16777216) (hk : k ≤ 64) (h : Q (.bl true) H) : rEqZ K x y H Q :=
  eqD_ h1 h2 (rp_shaped r hn hk) (rp_shaped r hn hk) (by rw [SeqAt.eqv_refl d (rp_can r hn)]; exact h)
theorem neDD_ (h1 : Dp K H x d) (h2 : Dp K H y d) (r : Rp d n k) (hn : n ≤ 16777216) (hk : k ≤ 64) (h : Q (.bl false) H) : rNeZ K x y H Q :=
  neD_ h1 h2 (rp_shaped r hn hk) (rp_shaped r hn hk) (by rw [SeqAt.eqv_refl d (rp_can r hn)]; exact h)
end
end Z
/-! Z, part H: enumerate(text, start=k); a dict of the module; a local name that holds a def; isinstance. -/
namespace Z
open PySem PySem.Spec PyProof.Rows L2
section
variable {M : Model} {A : Around} {E : Value → Shared → Prop} {s : Shared} {env : Env}
theorem callWith_typeK {pos : Pos} {T : String} {first : List Value} {args : List (Bool × Sem Value)} {keywords : List (Option Str × Sem Value)} {Q : Value → Shared → Prop}
    (hplain : args.any (·.1) = false) (hkw : keywords.any (·.1.isNone) = false)
    (h : wpAny M A (evalArgs (.type T) true args keywords) (fun a s₁ => wpAny M A (call (.type T) (first ++ a.pos) a.kw) Q E s₁) E s) : wpAny M A (callWith pos (.type T) first args keywords) Q E s := by
  unfold callWith
  refine wpAny_bind (wpAny_holding (wpAny_mono h (fun a s₁ h₁ => wpAny_bind (wpAny_standAt ?_)) fun _ _ x => x))
  simp only [hplain, hkw, Bool.or_false]
  refine wpAny_bind (wpAny_pure ?_)
  exact wpAny_bind (wpAny_mono h₁ (fun r s₂ hr => wpAny_bind (wpAny_holding (wpAny_point (wpAny_pure hr)))) fun _ _ x => x)
end
def zEnK (R : It → Hp → Prop) (vs zs : List V) (H2 : Hp) : Prop := ∃ (x : List Nat) (k : Int), vs = [T x] ∧ zs = [.int k] ∧ -(2 ^ 63) ≤ k ∧ k < 2 ^ 63 ∧ R (Itn x k) H2
def iEnumKT (ta tk : TA) : TI := fun σ H R => ta σ H fun vs H1 => tk σ H1 (zEnK R vs)
theorem z_enumKS {X : Cx} {e e2 : Expr} {ta tk : TA} {p pos tpos kp : Pos} {elts : List Expr} {kk : Nat} (hg : Gl X "enumerate") (hm : X.mg "enumerate" = none) (ha : PA X [e] ta) (hk : PK X [⟨some "start", e2, kp⟩] tk)
    (hs : starEach [e] X.env = [(false, eval e X.env)] := by rfl) :
    PI X (.Tuple elts kk tpos) (.Call (.Name "enumerate" p) [e] [⟨some "start", e2, kp⟩] pos) (iEnumKT ta tk) := by
  constructor
  intro pins s σ H R I h
  have F0 : (backTo pos (starEach [e] X.env)).any (·.1) = false := by rw [hs]; rfl
  have go : ∀ (Q : Value → Shared → Prop), (∀ x t k u H2 s2, Inv X pins σ H2 s2 → -(2 ^ 63) ≤ k → k < 2 ^ 63 → R (Itn x k) H2 → wpAny (model X.prog X.w) X.A (call (.type "enumerate") [.str ⟨x.toArray⟩ t] [(Str.ofString "start", .int k u)]) Q X.xe s2) →
      wpAny (model X.prog X.w) X.A (callWith pos (.type "enumerate") [] (backTo pos (starEach [e] X.env)) (backToKw pos (keywordEach [⟨some "start", e2, kp⟩] X.env))) Q X.xe s := by
    intro Q q
    refine callWith_typeK F0 rfl ?_
    refine evalArgs_kw2 rfl (thn (ha.run pos pins s σ H _ I h) fun us s1 ⟨vs, H1, I1, r1, q1⟩ => thn (hk.run pos pins s1 σ H1 _ I1 q1) fun ws s2 ⟨zs, H2, I2, r2, q2⟩ => ?_) hs
    obtain ⟨x, k, rfl, rfl, k0, k1, q3⟩ := q2
    obtain ⟨u, rfl, t, rfl⟩ := vals1 r1
    obtain ⟨u2, rfl, t2, rfl⟩ := vals1 r2
    exact q x t k t2 H2 s2 I2 k0 k1 q3
  refine wpAny_Call_Name_kw (ld_blt I hg hm boot_enumerate ?_)
  refine go _ fun x t k u H2 s2 I2 k0 k1 q => ?_
  refine enum_begins_start (begins_text ⟨x.toArray⟩ t) trivial k0 k1 fun h' he hit hsz hk' => wpAny_pyIter_enum he ?_
  have I3 : Inv X pins σ H2 { s2 with heap := h' } := I2.kept (t' := s2.toks) hk'
  have e0 : k + ((0 : Nat) : Int) = k := by omega
  refine ⟨s2.heap.objs.size + 1, [s2.heap.objs.size + 1, s2.heap.objs.size], _, _, H2, rfl, I3, turn_enumT x t k (s2.heap.objs.size + 1) s2.heap.objs.size (Nat.succ_ne_self _), ⟨⟨.none, by rw [e0]; exact he⟩, ⟨_, hit, rfl, rfl⟩⟩, ?_, q⟩
  intro b hb
  have le : s2.heap.objs.size ≤ b := by
    rcases List.mem_cons.mp hb with z | z
    · rw [z]; exact Nat.le_succ _
    · rw [List.mem_singleton.mp z]; exact Nat.le_refl _
  exact I2.fpOk le (I2.hok.fresh le)
/-! ### a dict of the module with texts for keys -/
section
variable {X : Cx}
/-- at a: a written dict; what stands at a text, if anything -/
def KD (K : PySem.W.Frag) (w : World) (a : Addr) (z : Str) (r : Option Value) : Prop := ∃ es n, KDict K w a es n ∧ PySem.W.nsIn K a z = some r
def rNiKD (K : PySem.W.Frag) (w : World) : R2 := fun x y H Q => ∃ (a : Addr) (z : List Nat) (r : Option Value), x = T z ∧ y = .ref a ∧ KD K w a ⟨z.toArray⟩ r ∧ Q (.bl (!r.isSome)) H
theorem z_niKD : OpR X (compareOp .NotIn) (rNiKD X.K X.w) := by
  intro pins s σ H x y v u Q I rx ry h
  obtain ⟨a, z, r, rfl, rfl, ⟨es, n, D, e⟩, q⟩ := h
  exact op_notIn_kd D pins s σ H _ _ v u Q I rx ry ⟨_, r, rfl, rfl, e, q⟩
def rInKD (K : PySem.W.Frag) (w : World) : R2 := fun x y H Q => ∃ (a : Addr) (z : List Nat) (r : Option Value), x = T z ∧ y = .ref a ∧ KD K w a ⟨z.toArray⟩ r ∧ Q (.bl r.isSome) H
theorem z_inKD : OpR X (compareOp .In) (rInKD X.K X.w) := by
  intro pins s σ H x y v u Q I rx ry h
  obtain ⟨a, z, r, rfl, rfl, ⟨es, n, D, e⟩, q⟩ := h
  exact op_in_kd D pins s σ H _ _ v u Q I rx ry ⟨_, r, rfl, rfl, e, q⟩
def rIxKD (K : PySem.W.Frag) (w : World) : R2 := fun x y H Q => ∃ (a : Addr) (z : List Nat) (u0 : Value) (v0 : V), x = .ref a ∧ y = T z ∧ KD K w a ⟨z.toArray⟩ (some u0) ∧ RelV v0 u0 ∧ Q v0 H
theorem z_ixKD : IxR X (rIxKD X.K X.w) := by
  intro value slice pins s σ H x y v u Q I rx ry h hs
  obtain ⟨a, z, u0, v0, rfl, rfl, ⟨es, n, D, e⟩, r, q⟩ := h
  exact ix_kdict value slice pins s σ H _ _ v u Q I rx ry ⟨_, _, v0, rfl, rfl, ⟨es, n, u0, D.at_, D.lit, e, r⟩, q⟩ hs
end
section
variable {σ : L2.St} {H : Hp} {Q : VK} {K : PySem.W.Frag} {w : World} {a : Addr}
theorem niKD_ {z : List Nat} {r : Option Value} (e : KD K w a ⟨z.toArray⟩ r) (h : Q (.bl (!r.isSome)) H) : rNiKD K w (T z) (.ref a) H Q := ⟨a, z, r, rfl, rfl, e, h⟩
theorem inKD_ {z : List Nat} {r : Option Value} (e : KD K w a ⟨z.toArray⟩ r) (h : Q (.bl r.isSome) H) : rInKD K w (T z) (.ref a) H Q := ⟨a, z, r, rfl, rfl, e, h⟩
theorem ixKD_ {z : List Nat} {u0 : Value} {v0 : V} (e : KD K w a ⟨z.toArray⟩ (some u0)) (r : RelV v0 u0) (h : Q v0 H) : rIxKD K w (.ref a) (T z) H Q := ⟨a, z, u0, v0, rfl, rfl, e, r, h⟩
theorem ientK_ {ta tk : TA} {R : It → Hp → Prop} (h : ta σ H fun vs H1 => tk σ H1 (zEnK R vs)) : iEnumKT ta tk σ H R := h
theorem zenK_ {R : It → Hp → Prop} {l : List Nat} {k : Int} (e1 : -9223372036854775808 ≤ k) (e2 : k < 9223372036854775808) (h : R (Itn l k) H) : zEnK R [T l] [.int k] H := ⟨l, k, rfl, rfl, e1, e2, h⟩
end
/-! ### isinstance -/
section
variable {X : Cx} {H : Hp} {Q : VK} {K : PySem.W.Frag} {x : V}
def rIsZ (K : PySem.W.Frag) : List V → Hp → VK → Prop := fun xs H Q => rIsi K xs H Q ∨ rIsiT K xs H Q
theorem z_isi : CallR X (.builtin "isinstance") (rIsZ X.K) := call_isi.or call_isiT
theorem isB_ {a b : String} {r : Bool} (t : TyX K H x (.type a)) (e : kitB a b = some r) (h : Q (.bl r) H) : rIsZ K [x, .ty b] H Q := .inl ⟨x, .ty b, .type a, .type b, r, rfl, .ty _, t, kit_ty e, h⟩
theorem isSS_ {l : List Nat} (h : Q (.bl true) H) : rIsZ K [T l, .ty "str"] H Q := isB_ (a := "str") (.base (.str _)) (by decide +kernel) h
end
section
variable {H : Hp} {Q : VK}
theorem imulI {n m : Int} (h1 : -18446744073709551616 < n) (h2 : n < 18446744073709551616) (h : Q (.int (n * m)) H) : pMulZ (.int n) (.int m) H Q := ⟨n, m, rfl, rfl, .inl ⟨h1, h2⟩, h⟩
theorem idivI {n m : Int} (e1 : 0 < m) (e2 : m < 1073741824) (h : Q (.int (n / m)) H) : pDivZ (.int n) (.int m) H Q := ⟨n, m, rfl, rfl, ⟨e1, e2⟩, h⟩
end
section
variable {σ : L2.St} {H : Hp} {tu : TT} {Q : Bool → Hp → Prop} {q : Prop} [Decidable q]
theorem zor_keep (hk : Q true H) (h2 : ¬ q → Q true H → tu σ H Q) : zOr tu σ Q (decide q) H := zor_d (fun _ => hk) fun n => h2 n hk
end
/-! ### a call of a local name that holds a def -/
structure HeldG (P : Program) (w : World) (K : PySem.W.Frag) (mg : Str → Option Value) (base : Heap) (k : Nat) (f : Addr) (sp : Sp) : Prop where
  ex : ∃ (fd : FuncData) (ps : List Str), FnG P w K mg base k f fd ps sp ∧ PySem.W.keepIn K (.ref f) = true ∧ Binds K fd ps []
/-- the slot holds a def whose promise S tells -/
def tCallV (i : Nat) (S : Addr → Sp → Prop) (E : L2.St → XK) (t : TA) : TE := fun σ H Q => ∃ f sp, σ[i]? = some (some (.ref f)) ∧ S f sp ∧ t σ H fun vs H1 => sp vs H1 Q (E σ)
section
variable {X : Cx} {k i : Nat} {S : Addr → Sp → Prop} {x : Str} {p pos : Pos} {e : Expr} {es : List Expr} {t : TA} {W : WX}
theorem pe_callV (A : ∀ f sp, S f sp → HeldG X.prog X.w X.K X.mg X.base k f sp) (room : Room k X.A) (noG : X.A.guards = some []) (hN : X.N[i]? = some x) (hv : Vis X.env.scope x)
    (tk : ∀ pins σ H s, Inv X pins σ H s → ∀ e s', L2.CX X.prog X.w X.stack H s (fun c d H' => W c d σ H') e s' → X.xe e s') (ha : PA X (e :: es) t)
    (hdb : (x == ("__debug__" : Str)) = false := by decide) (hcd : (x == ("__classdict__" : Str)) = false := by decide)
    (he : starEach (e :: es) X.env = (false, eval e X.env) :: starEach es X.env := by rfl) (hpl : (backTo pos (starEach es X.env)).any (·.1) = false := by rfl) :
    PE X (.Call (.Name x p) (e :: es) [] pos) (tCallV i S (fun σ c d H' => W c d σ H') t) := by
  refine ⟨fun pins s σ H Q I h => ?_⟩
  obtain ⟨f, sp, hs, hS, ht⟩ := h
  obtain ⟨fd, ps, F, hk, hb⟩ := (A f sp hS).ex
  refine wpAny_Call_Name_kw (thn ((pe_var (pos := p) hN hv hdb hcd).run pins s σ H (fun v H1 => v = .ref f ∧ H1 = H) I ⟨.ref f, hs, rfl, rfl⟩) fun u s1 ⟨v, H1, I1, r1, q1⟩ => ?_)
  obtain ⟨rfl, rfl⟩ := q1
  cases r1
  refine PySem.W.callWith_K (h₀ := X.base) I.ok.mod.kin hk (thn (ha.run pos pins s1 σ _ _ I1 ht) fun us s2 ⟨vs, H2, I2, r, q⟩ => ⟨I2.kIn, ?_⟩) he hpl
  exact run_g F room noG hb .nil (tk _ _ _ _ I2) I2 r (by rw [List.append_nil]; exact q)
end
section
variable {σ : L2.St} {H : Hp} {S : Addr → Sp → Prop} {Q : VK} {E : L2.St → XK} {XE : XK} {t : TA} {i : Nat} {f : Addr} {vs : List V}
theorem callV_ {sp : Sp} (e : σ[i]? = some (some (.ref f))) (e2 : S f sp) (h : t σ H fun vs H1 => sp vs H1 Q (E σ)) : tCallV i S E t σ H Q := ⟨f, sp, e, e2, h⟩
end
end Z
/-! Z, part I: instances: fields, methods, making; calls with keywords and defaults. -/
namespace Z
open PySem PySem.Spec PyProof.Rows L2
/-! ### calls -/
/-- a def under a global name, called with n values and keywords named ks -/
structure DefK (P : Program) (w : World) (K : PySem.W.Frag) (mg : Str → Option Value) (base : Heap) (k : Nat) (x : Str) (n : Nat) (ks : List Str) (gV : List V → List V → List V) (sp : Sp) : Prop where
  ex : ∃ (f : Addr) (fd : FuncData) (ps : List Str) (g : List Value → List Value → List Value), FnG P w K mg base k f fd ps sp ∧ mg x = some (.ref f) ∧
    PySem.W.keepIn K (.ref f) = true ∧ KBn K fd ps n ks g gV
/-- a method of a class, with n values (self among them) and keywords -/
structure MthK (P : Program) (w : World) (K : PySem.W.Frag) (mg : Str → Option Value) (base : Heap) (k : Nat) (C : Addr) (m : Str) (n : Nat) (ks : List Str) (gV : List V → List V → List V) (sp : Sp) : Prop where
  cls : Cls K C
  ex : ∃ (f : Addr) (fd : FuncData) (ps : List Str) (g : List Value → List Value → List Value), FnG P w K mg base k f fd ps sp ∧ Meth K C m f ∧ KBn K fd ps n ks g gV
/-- a class that is made by its __init__: n values behind self, keywords ks -/
structure MkK (P : Program) (w : World) (K : PySem.W.Frag) (mg : Str → Option Value) (base : Heap) (k : Nat) (x : Str) (C : Addr) (n : Nat) (ks : List Str) (gV : List V → List V → List V) (sp : Sp) : Prop where
  ex : ∃ (f : Addr) (fd : FuncData) (ps : List Str) (g : List Value → List Value → List Value), FnG P w K mg base k f fd ps sp ∧ mg x = some (.ref C) ∧ Mk K C f ∧ KBn K fd ps (n + 1) ks g gV
section
variable {P : Program} {w : World} {K : PySem.W.Frag} {mg : Str → Option Value} {base : Heap}
theorem DefK.mono {j k n : Nat} {x : Str} {ks : List Str} {gV : List V → List V → List V} {sp : Sp} (D : DefK P w K mg base j x n ks gV sp) (h : j ≤ k) : DefK P w K mg base k x n ks gV sp := by
  obtain ⟨f, fd, ps, g, F, r⟩ := D.ex
  exact ⟨f, fd, ps, g, F.mono h, r⟩
theorem MthK.mono {j k n : Nat} {C : Addr} {x : Str} {ks : List Str} {gV : List V → List V → List V} {sp : Sp} (D : MthK P w K mg base j C x n ks gV sp) (h : j ≤ k) : MthK P w K mg base k C x n ks gV sp := by
  obtain ⟨f, fd, ps, g, F, r⟩ := D.ex
  exact ⟨D.cls, f, fd, ps, g, F.mono h, r⟩
theorem MkK.mono {j k n : Nat} {C : Addr} {x : Str} {ks : List Str} {gV : List V → List V → List V} {sp : Sp} (D : MkK P w K mg base j x C n ks gV sp) (h : j ≤ k) : MkK P w K mg base k x C n ks gV sp := by
  obtain ⟨f, fd, ps, g, F, r⟩ := D.ex
  exact ⟨f, fd, ps, g, F.mono h, r⟩
end
section
variable {X : Cx} {k n : Nat} {f C : Addr} {fd : FuncData} {ps ks : List Str} {sp : Sp} {dvs : List V} {ds : List Value} {E : XK} {g : List Value → List Value → List Value} {gV : List V → List V → List V}
theorem run_gk {pins : List (Addr × Obj)} {σ : L2.St} {H : Hp} {s : Shared} {Q : VK} {us ws : List Value} {vs zs : List V}
    (F : FnG X.prog X.w X.K X.mg X.base k f fd ps sp) (room : Room k X.A) (noG : X.A.guards = some []) (hb : KBn X.K fd ps n ks g gV)
    (hx : ∀ e s', L2.CX X.prog X.w X.stack H s E e s' → X.xe e s') (I : Inv X pins σ H s) (r : Vals vs us) (rz : Vals zs ws) (l1 : vs.length = n) (l2 : zs.length = ks.length) (want : sp (gV vs zs) H Q E) :
    wpAny (model X.prog X.w) X.A (call (.ref f) us (ks.zip ws)) (EP X pins σ Q) X.xe s := by
  have r2 := hb.rel r rz
  have ran := F.run X.A X.stack s H ⟨us, ks.zip ws⟩ (g us ws) (gV vs zs) Q E room noG I.env0 (hb.to s us ws I.kIn (r.length.symm.trans l1) (rz.length.symm.trans l2)) r2 want
  refine wpAny_call (codeAny_mono ran ?_)
  intro r s' hr
  match r, hr with
  | .error e, hr => exact hx e s' hr
  | .ok (.ret u), hr => exact I.after hr
  | .ok .next, hr => exact False.elim hr
  | .ok .brk, hr => exact False.elim hr
  | .ok .cont, hr => exact False.elim hr
theorem make_guards {A : Around} {C : Addr} {us : List Value} {ws : List (Str × Value)} (h : A.guards = some []) : (A.under (.builtin "type.__call__" ⟨.ref C :: us, ws⟩)).guards = some [] := by
  show pushGuards (Code.guards (.builtin "type.__call__" ⟨.ref C :: us, ws⟩)) A.guards = some []
  rw [show Code.guards (.builtin "type.__call__" ⟨.ref C :: us, ws⟩) = [] from by simp [Code.guards, Code.isGuard]; decide +kernel]
  exact h
theorem run_gmake {pins : List (Addr × Obj)} {σ : L2.St} {H : Hp} {s : Shared} {Q : VK} {us ws : List Value} {vs zs : List V} (M : Mk X.K C f)
    (F : FnG X.prog X.w X.K X.mg X.base k f fd ps sp) (room : Room (k + 1) X.A) (noG : X.A.guards = some []) (hb : KBn X.K fd ps (n + 1) ks g gV)
    (hx : ∀ H s, Inv X pins σ H s → ∀ e s', L2.CX X.prog X.w X.stack H s E e s' → X.xe e s') (I : Inv X pins σ H s) (r : Vals vs us) (rz : Vals zs ws) (l1 : vs.length = n) (l2 : zs.length = ks.length)
    (h : ∀ x dx, H x = none → H dx = none → dx ≠ x → sp (gV (.ref x :: vs) zs) (upd (upd H dx (.own x)) x (.ins C dx [])) (fun v H2 => v = .non ∧ Q (.ref x) H2) E) :
    wpAny (model X.prog X.w) X.A (call (.ref C) us (ks.zip ws)) (EP X pins σ Q) X.xe s := by
  have hq := h (s.heap.objs.size + 1) s.heap.objs.size (I.hok.fresh (Nat.le_succ _)) (I.hok.fresh (Nat.le_refl _)) (Nat.ne_of_lt (Nat.lt_succ_self _))
  have I2 := Inv.made (C := C) I
  have r1 : Vals (V.ref (s.heap.objs.size + 1) :: vs) (Value.ref (s.heap.objs.size + 1) :: us) := .cons rfl r
  have r2 := hb.rel r1 rz
  have e1 : (Value.ref (s.heap.objs.size + 1) :: us).length = n + 1 := r1.length.symm.trans (congrArg Nat.succ l1)
  have e2 : ws.length = ks.length := rz.length.symm.trans l2
  refine wpAny_call (make_map (f := f) I.kIn M.makes M.init (beq_iff_eq.mp M.fn) (codeAny_mono (F.run _ X.stack _ _ ⟨Value.ref (s.heap.objs.size + 1) :: us, ks.zip ws⟩ (g (Value.ref (s.heap.objs.size + 1) :: us) ws) _ _ E (room.make C us (ks.zip ws))
    (make_guards noG) (I2.env0.make C us (ks.zip ws)) (hb.to _ (Value.ref (s.heap.objs.size + 1) :: us) ws I2.kIn e1 e2) r2 hq) fun r s' hq' => ?_))
  match r, hq' with
  | .error e, hq' => exact hx _ _ I2 e s' hq'
  | .ok (.ret u), hq' =>
    obtain ⟨v, H', I3, rv, ev, q3⟩ := I2.after hq'
    subst ev
    exact ⟨rv, ⟨V.ref (s.heap.objs.size + 1), H', I3, rfl, q3⟩⟩
  | .ok .next, hq' => exact False.elim hq'
  | .ok .brk, hq' => exact False.elim hq'
  | .ok .cont, hq' => exact False.elim hq'
end
/-- f(e, .., k = v, ..) -/
def tCK (sp : Sp) (gV : List V → List V → List V) (E : L2.St → XK) (n m : Nat) (t tk : TA) : TE := fun σ H Q => t σ H fun vs H1 => tk σ H1 fun zs H2 => vs.length = n ∧ zs.length = m ∧ sp (gV vs zs) H2 Q (E σ)
def zMeth (C : Addr) (m : Str) (t : TA) (q : V → List V → Hp → Prop) (σ : L2.St) (x : V) (H : Hp) : Prop := ∃ a dx fs, x = .ref a ∧ H a = some (.ins C dx fs) ∧ fs.lookup m = none ∧ t σ H fun vs H2 => q x vs H2
/-- o.m(e, .., k = v, ..) -/
def tMK (C : Addr) (m : Str) (sp : Sp) (gV : List V → List V → List V) (E : L2.St → XK) (n l : Nat) (ta : TE) (t tk : TA) : TE := fun σ H Q => ta σ H (zMeth C m t (fun x vs H2 => tk σ H2 fun zs H3 => vs.length + 1 = n ∧ zs.length = l ∧ sp (gV (x :: vs) zs) H3 Q (E σ)) σ)
def zMake (C : Addr) (q : V → Hp → VK → Prop) (H : Hp) (Q : VK) : Prop := ∀ x dx, H x = none → H dx = none → dx ≠ x → q (.ref x) (upd (upd H dx (.own x)) x (.ins C dx [])) (fun v H2 => v = .non ∧ Q (.ref x) H2)
/-- C(e, .., k = v, ..) -/
def tKK (C : Addr) (sp : Sp) (gV : List V → List V → List V) (E : L2.St → XK) (n m : Nat) (t tk : TA) : TE := fun σ H Q => t σ H fun vs H1 => tk σ H1 fun zs H2 => vs.length = n ∧ zs.length = m ∧
  zMake C (fun x H3 Q3 => sp (gV (x :: vs) zs) H3 Q3 (E σ)) H2 Q
section
variable {X : Cx} {k n : Nat} {sp : Sp} {ks : List Str} {gV : List V → List V → List V} {x m : Str} {C : Addr} {p pos apos : Pos} {e o : Expr} {es : List Expr} {kws : List Keyword} {ta : TE} {t tk : TA} {W : WX}
/-- what a call lets out is taken around -/
abbrev TK (X : Cx) (W : WX) : Prop := ∀ pins σ H s, Inv X pins σ H s → ∀ e s', L2.CX X.prog X.w X.stack H s (fun c d H' => W c d σ H') e s' → X.xe e s'
theorem pe_fk (D : DefK X.prog X.w X.K X.mg X.base k x n ks gV sp) (room : Room k X.A) (noG : X.A.guards = some []) (hg : Gl X x) (tw : TK X W)
    (ha : PA X (e :: es) t) (hkw : PK X kws tk) (hall : (backToKw pos (keywordEach kws X.env)).all (·.1.isSome) = true := by rfl) (hks : (backToKw pos (keywordEach kws X.env)).filterMap (·.1) = ks := by rfl)
    (hdb : (x == ("__debug__" : Str)) = false := by decide) (he : starEach (e :: es) X.env = (false, eval e X.env) :: starEach es X.env := by rfl)
    (hpl : ((backTo pos (starEach (e :: es) X.env)).any (·.1) || (backToKw pos (keywordEach kws X.env)).any (·.1.isNone)) = false := by rfl) :
    PE X (.Call (.Name x p) (e :: es) kws pos) (tCK sp gV (fun σ c d H' => W c d σ H') n ks.length t tk) := by
  obtain ⟨f, fd, ps, g, F, hm, hk, hb⟩ := D.ex
  refine ⟨fun pins s σ H Q I h => ?_⟩
  refine wpAny_Call_Name_kw (ld_glob I hg hm ?_ hdb)
  refine PySem.W.callWith_KW (h₀ := X.base) I.ok.mod.kin hk hall (thn (ha.run pos pins s σ H _ I h) fun us s1 ⟨vs, H1, I1, r, q⟩ => ?_) hpl he
  refine thn (hkw.run pos pins s1 σ H1 _ I1 q) fun ws s2 ⟨zs, H2, I2, rz, l1, l2, q2⟩ => ⟨I2.kIn, ?_⟩
  rw [hks]
  exact run_gk F room noG hb (tw _ _ _ _ I2) I2 r rz l1 l2 q2
/-- a def called without keywords -/
theorem pe_fk1 (D : DefK X.prog X.w X.K X.mg X.base k x n [] gV sp) (room : Room k X.A) (noG : X.A.guards = some []) (hg : Gl X x) (tw : TK X W)
    (ha : PA X (e :: es) t) (hdb : (x == ("__debug__" : Str)) = false := by decide) (he : starEach (e :: es) X.env = (false, eval e X.env) :: starEach es X.env := by rfl)
    (hpl : (backTo pos (starEach es X.env)).any (·.1) = false := by rfl) :
    PE X (.Call (.Name x p) (e :: es) [] pos) (tCK sp gV (fun σ c d H' => W c d σ H') n 0 t tNil) := by
  obtain ⟨f, fd, ps, g, F, hm, hk, hb⟩ := D.ex
  refine ⟨fun pins s σ H Q I h => ?_⟩
  refine wpAny_Call_Name_kw (ld_glob I hg hm ?_ hdb)
  refine PySem.W.callWith_K (h₀ := X.base) I.ok.mod.kin hk (thn (ha.run pos pins s σ H _ I h) ?_) he hpl
  rintro us s1 ⟨vs, H1, I1, rel, l1, l2, q2⟩
  exact ⟨I1.kIn, run_gk (ws := []) F room noG hb (tw _ _ _ _ I1) I1 rel .nil l1 rfl q2⟩
theorem pe_mk1 {pl : Sem Bool} (he : PE X o ta) (D : MthK X.prog X.w X.K X.mg X.base k C m n [] gV sp) (room : Room k X.A) (noG : X.A.guards = some []) (tw : TK X W) (ha : PA X (e :: es) t)
    (hst : starEach (e :: es) X.env = (false, eval e X.env) :: starEach es X.env := by rfl) (hpl : (backTo pos (starEach es X.env)).any (·.1) = false := by rfl)
    (ht : eval (.Call (.Attribute o m apos) (e :: es) [] pos) X.env = (do
      let ov ← eval o X.env
      standAt apos.atName
      let (f, first) ← holding [ov] (getMethod ov m pl)
      callWith pos f first (backTo pos (starEach (e :: es) X.env)) (backToKw pos (keywordEach [] X.env))) := by rfl) :
    PE X (.Call (.Attribute o m apos) (e :: es) [] pos) (tMK C m sp gV (fun σ c d H' => W c d σ H') n 0 ta t tNil) := by
  obtain ⟨f, fd, ps, g, F, hm, hb⟩ := D.ex
  refine ⟨fun pins s σ H Q I h => ?_⟩
  refine PySem.W.methodCall_KW (pl := pl) (thn (he.run pins s σ H _ I h) fun u s1 ⟨x, H1, I1, rx, a, dx, fs, ex, ea, l, q⟩ => ?_) ht
  subst ex
  obtain rfl : u = Value.ref a := rx
  refine getmeth_ok I1 ea D.cls hm l ?_
  refine PySem.W.callWith_K (first := [.ref a]) (h₀ := X.base) I.ok.mod.kin hm.kp (thn (ha.run pos pins s1 σ H1 _ I1 q) fun us s2 ⟨vs, H2, I2, r, l1, l2, q2⟩ => ⟨I2.kIn, ?_⟩) hst hpl
  exact run_gk (us := .ref a :: us) (vs := .ref a :: vs) (ws := []) F room noG hb (tw _ _ _ _ I2) I2 (.cons rfl r) .nil l1 rfl q2
theorem pe_mk0 {pl : Sem Bool} (he : PE X o ta) (D : MthK X.prog X.w X.K X.mg X.base k C m n [] gV sp) (room : Room k X.A) (noG : X.A.guards = some []) (tw : TK X W)
    (ht : eval (.Call (.Attribute o m apos) [] [] pos) X.env = (do
      let ov ← eval o X.env
      standAt apos.atName
      let (f, first) ← holding [ov] (getMethod ov m pl)
      callWith pos f first (backTo pos (starEach [] X.env)) (backToKw pos (keywordEach [] X.env))) := by rfl) :
    PE X (.Call (.Attribute o m apos) [] [] pos) (tMK C m sp gV (fun σ c d H' => W c d σ H') n 0 ta tNil tNil) := by
  obtain ⟨f, fd, ps, g, F, hm, hb⟩ := D.ex
  refine ⟨fun pins s σ H Q I h => ?_⟩
  refine PySem.W.methodCall_KW (pl := pl) (thn (he.run pins s σ H _ I h) fun u s1 ⟨x, H1, I1, rx, a, dx, fs, ex, ea, l, q⟩ => ?_) ht
  subst ex
  obtain rfl : u = Value.ref a := rx
  refine getmeth_ok I1 ea D.cls hm l ?_
  obtain ⟨l1, l2, q2⟩ := q
  exact PySem.W.callWith_K0 (first := [.ref a]) I1.kIn hm.kp (run_gk (us := [.ref a]) (vs := [.ref a]) (ws := []) F room noG hb (tw _ _ _ _ I1) I1 (.cons rfl .nil) .nil l1 rfl q2)
theorem pe_kk (D : MkK X.prog X.w X.K X.mg X.base k x C n ks gV sp) (room : Room (k + 1) X.A) (noG : X.A.guards = some []) (hg : Gl X x) (tw : TK X W)
    (ha : PA X (e :: es) t) (hkw : PK X kws tk) (hall : (backToKw pos (keywordEach kws X.env)).all (·.1.isSome) = true := by rfl) (hks : (backToKw pos (keywordEach kws X.env)).filterMap (·.1) = ks := by rfl)
    (hdb : (x == ("__debug__" : Str)) = false := by decide) (he : starEach (e :: es) X.env = (false, eval e X.env) :: starEach es X.env := by rfl)
    (hpl : ((backTo pos (starEach (e :: es) X.env)).any (·.1) || (backToKw pos (keywordEach kws X.env)).any (·.1.isNone)) = false := by rfl) :
    PE X (.Call (.Name x p) (e :: es) kws pos) (tKK C sp gV (fun σ c d H' => W c d σ H') n ks.length t tk) := by
  obtain ⟨f, fd, ps, g, F, hm, M, hb⟩ := D.ex
  refine ⟨fun pins s σ H Q I h => ?_⟩
  refine wpAny_Call_Name_kw (ld_glob I hg hm ?_ hdb)
  refine PySem.W.callWith_KW (h₀ := X.base) I.ok.mod.kin M.kp hall (thn (ha.run pos pins s σ H _ I h) fun us s1 ⟨vs, H1, I1, r, q⟩ => ?_) hpl he
  refine thn (hkw.run pos pins s1 σ H1 _ I1 q) fun ws s2 ⟨zs, H2, I2, rz, l1, l2, q2⟩ => ⟨I2.kIn, ?_⟩
  rw [hks]
  exact run_gmake M F room noG hb (fun H s I => tw _ _ _ _ I) I2 r rz l1 l2 q2
theorem pe_kk1 (D : MkK X.prog X.w X.K X.mg X.base k x C n [] gV sp) (room : Room (k + 1) X.A) (noG : X.A.guards = some []) (hg : Gl X x) (tw : TK X W)
    (ha : PA X (e :: es) t) (hdb : (x == ("__debug__" : Str)) = false := by decide) (he : starEach (e :: es) X.env = (false, eval e X.env) :: starEach es X.env := by rfl)
    (hpl : (backTo pos (starEach es X.env)).any (·.1) = false := by rfl) :
    PE X (.Call (.Name x p) (e :: es) [] pos) (tKK C sp gV (fun σ c d H' => W c d σ H') n 0 t tNil) := by
  obtain ⟨f, fd, ps, g, F, hm, M, hb⟩ := D.ex
  refine ⟨fun pins s σ H Q I h => ?_⟩
  refine wpAny_Call_Name_kw (ld_glob I hg hm ?_ hdb)
  refine PySem.W.callWith_K (h₀ := X.base) I.ok.mod.kin M.kp (thn (ha.run pos pins s σ H _ I h) ?_) he hpl
  rintro us s1 ⟨vs, H1, I1, rel, l1, l2, q2⟩
  exact ⟨I1.kIn, run_gmake (ws := []) M F room noG hb (fun H s I => tw _ _ _ _ I) I1 rel .nil l1 rfl q2⟩
theorem pe_kk0 (D : MkK X.prog X.w X.K X.mg X.base k x C n [] gV sp) (room : Room (k + 1) X.A) (noG : X.A.guards = some []) (hg : Gl X x) (tw : TK X W)
    (hdb : (x == ("__debug__" : Str)) = false := by decide) :
    PE X (.Call (.Name x p) [] [] pos) (tKK C sp gV (fun σ c d H' => W c d σ H') n 0 tNil tNil) := by
  obtain ⟨f, fd, ps, g, F, hm, M, hb⟩ := D.ex
  refine ⟨fun pins s σ H Q I h => ?_⟩
  refine wpAny_Call_Name_kw (ld_glob I hg hm ?_ hdb)
  obtain ⟨l1, l2, q2⟩ := h
  exact PySem.W.callWith_K0 I.kIn M.kp (run_gmake (us := []) (vs := []) (ws := []) M F room noG hb (fun H s I => tw _ _ _ _ I) I .nil .nil l1 rfl q2)
end
/-! ### steps -/
section
variable {σ : L2.St} {H : Hp} {Q : VK} {K : PySem.W.Frag} {D : Ends} {a b C dx : Addr} {f : Str} {fs : List (Str × V)} {v y : V} {ta tv te : TE} {t tk tr : TA} {u : TS} {xs ys : List V}
theorem extend_ (e : H a = some (.lst xs)) (e2 : H b = some (.lst ys)) (l : xs.length + ys.length ≤ 16777216) (h : ∀ H', H' a = some (.lst (xs ++ ys)) → But a H H' → Q .non H') : rExtend (.ref a) [.ref b] H Q :=
  ⟨a, b, xs, ys, rfl, rfl, e, e2, by rw [sz_eq]; exact l, h _ upd_same But.upd⟩
def zFld (K : PySem.W.Frag) (f : Str) (Q : VK) (x : V) (H : Hp) : Prop := ∃ a C dx fs v, x = .ref a ∧ H a = some (.ins C dx fs) ∧ Cls K C ∧ NoAttr K C f ∧ fs.lookup f = some v ∧ Q v H
theorem fld_ (h : ta σ H (zFld K f Q)) : tFld K ta f σ H Q := h
theorem zfld_ (e : H a = some (.ins C dx fs)) (c : Cls K C) (n : NoAttr K C f) (l : fs.lookup f = some v) (h : Q v H) : zFld K f Q (.ref a) H := ⟨a, C, dx, fs, v, rfl, e, c, n, l, h⟩
def zSet (K : PySem.W.Frag) (f : Str) (y : V) (N : L2.St → Hp → Prop) (σ : L2.St) (x : V) (H : Hp) : Prop := ∃ a C dx fs, x = .ref a ∧ H a = some (.ins C dx fs) ∧ Cls K C ∧ NoAttr K C f ∧ fs.length < 1000 ∧ N σ (upd H a (.ins C dx (putF f y fs)))
theorem seq_fld (h : tv σ H fun y H1 => ta σ H1 (zSet K f y (u D) σ)) : tSeq (sFld K ta tv f) u D σ H := h
theorem fldS_ (h : tv σ H fun y H1 => ta σ H1 (zSet K f y D.nx σ)) : sFld K ta tv f D σ H := h
theorem zset_ {N : L2.St → Hp → Prop} {fs' : List (Str × V)} (e : H a = some (.ins C dx fs)) (c : Cls K C) (n : NoAttr K C f) (l : fs.length < 1000) (p : putF f y fs = fs') (h : ∀ H', H' a = some (.ins C dx fs') → But a H H' → N σ H') : zSet K f y N σ (.ref a) H :=
  ⟨a, C, dx, fs, rfl, e, c, n, l, h _ (by rw [upd_same, p]) But.upd⟩
/-- calls -/
def zCK (sp : Sp) (gV : List V → List V → List V) (E : XK) (n m : Nat) (Q : VK) (vs zs : List V) (H : Hp) : Prop := vs.length = n ∧ zs.length = m ∧ sp (gV vs zs) H Q E
theorem ck_ {sp : Sp} {gV : List V → List V → List V} {E : L2.St → XK} {n m : Nat} (h : t σ H fun vs H1 => tk σ H1 (zCK sp gV (E σ) n m Q vs)) : tCK sp gV E n m t tk σ H Q := h
theorem zck_ {sp : Sp} {gV : List V → List V → List V} {E : XK} {n m : Nat} {vs zs ws : List V} (l1 : vs.length = n) (l2 : zs.length = m) (e : gV vs zs = ws) (h : sp ws H Q E) : zCK sp gV E n m Q vs zs H := ⟨l1, l2, e ▸ h⟩
theorem mk_ {m : Str} {sp : Sp} {gV : List V → List V → List V} {E : L2.St → XK} {n l : Nat} (h : ta σ H (zMeth C m t (fun x vs H2 => tk σ H2 (zCK sp gV (E σ) n l Q (x :: vs))) σ)) : tMK C m sp gV E n l ta t tk σ H Q := h
theorem zmeth_ {m : Str} {q : V → List V → Hp → Prop} (e : H a = some (.ins C dx fs)) (n : fs.lookup m = none) (h : t σ H fun vs H2 => q (.ref a) vs H2) : zMeth C m t q σ (.ref a) H := ⟨a, dx, fs, rfl, e, n, h⟩
def zKK (C : Addr) (sp : Sp) (gV : List V → List V → List V) (E : XK) (n m : Nat) (Q : VK) (vs zs : List V) (H : Hp) : Prop := vs.length = n ∧ zs.length = m ∧ zMake C (fun x H3 Q3 => sp (gV (x :: vs) zs) H3 Q3 E) H Q
theorem kk_ {sp : Sp} {gV : List V → List V → List V} {E : L2.St → XK} {n m : Nat} (h : t σ H fun vs H1 => tk σ H1 (zKK C sp gV (E σ) n m Q vs)) : tKK C sp gV E n m t tk σ H Q := h
def zSp (sp : Sp) (ws : List V) (H : Hp) (Q : VK) (E : XK) : Prop := sp ws H Q E
theorem zsp_ {sp : Sp} {vs ws : List V} {E : XK} (e : vs = ws) (h : sp ws H Q E) : zSp sp vs H Q E := e ▸ h
theorem zkk_ {sp : Sp} {gV : List V → List V → List V} {E : XK} {n m : Nat} {vs zs : List V} (l1 : vs.length = n) (l2 : zs.length = m)
    (h : ∀ x dx H', H x = none → H dx = none → dx ≠ x → Ex H H' → H' x = some (.ins C dx []) → zSp sp (gV (.ref x :: vs) zs) H' (fun v H2 => v = .non ∧ Q (.ref x) H2) E) : zKK C sp gV E n m Q vs zs H := by
  refine ⟨l1, l2, fun x dx hx hd ne => h x dx _ hx hd ne ?_ upd_same⟩
  intro b o hb
  rw [upd_ne (ne_of_none hb hx), upd_ne (ne_of_none hb hd)]
  exact hb
end
end Z
/-! the urn; the mathematics of codes -/
namespace Z
open PySem L2
/-- an urn of which at most n draws were made -/
def Urn (H : Hp) (u : Addr) (n : Nat) : Prop := ∃ g c k : Int, H u = some (.lst [.int g, .int c, .int k]) ∧ 0 ≤ g ∧ 0 ≤ c ∧ c < 1152921504606846976 ∧ 0 ≤ k ∧ k ≤ n
theorem Urn.ex {H H' : Hp} {u : Addr} {n : Nat} (e : Ex H H') (h : Urn H u n) : Urn H' u n := by
  obtain ⟨g, c, k, hu, r⟩ := h
  exact ⟨g, c, k, e _ _ hu, r⟩
theorem Urn.but {H H' : Hp} {u l : Addr} {n : Nat} (e : But l H H') (ne : u ≠ l) (h : Urn H u n) : Urn H' u n := by
  obtain ⟨g, c, k, hu, r⟩ := h
  exact ⟨g, c, k, e _ _ ne hu, r⟩
theorem Urn.mono {H : Hp} {u : Addr} {n m : Nat} (h : Urn H u n) (l : n ≤ m) : Urn H u m := by
  obtain ⟨g, c, k, hu, h1, h2, h3, h4, h5⟩ := h
  exact ⟨g, c, k, hu, h1, h2, h3, h4, by omega⟩
theorem Urn.ne_new {H : Hp} {u p : Addr} {n : Nat} (hp : H p = none) (h : Urn H u n) : p ≠ u := by
  obtain ⟨g, c, k, hu, _⟩ := h
  exact Ne.symm (ne_of_none hu hp)
/-- bits as signs -/
def Bit (c : Nat) : Prop := c = 48 ∨ c = 49
def Bits (l : List Nat) : Prop := ∀ c ∈ l, Bit c
theorem bits_of {l : List Nat} (h : (l.all fun c => c == 48 || c == 49) = true) : Bits l := fun c hc => by
  have := List.all_eq_true.mp h c hc
  simpa [Bit] using this
theorem Bits.nil : Bits [] := fun _ h => nomatch h
theorem Bits.app {a b : List Nat} (h1 : Bits a) (h2 : Bits b) : Bits (a ++ b) := fun c h => (List.mem_append.mp h).elim (h1 c) (h2 c)
theorem Bits.one {c : Nat} (h : Bit c) : Bits [c] := fun d hd => by
  rw [List.mem_singleton.mp hd]; exact h
theorem Bits.rep {a : List Nat} (h : Bits a) (n : Nat) : Bits (rep a n) := by
  intro c hc
  unfold Z.rep at hc
  obtain ⟨l, hl, hcl⟩ := List.mem_flatten.mp hc
  rw [(List.mem_replicate.mp hl).2] at hcl
  exact h c hcl
theorem Bits.take {a : List Nat} (h : Bits a) (n : Nat) : Bits (a.take n) := fun c hc => h c (List.mem_of_mem_take hc)
theorem Bits.drop {a : List Nat} (h : Bits a) (n : Nat) : Bits (a.drop n) := fun c hc => h c (List.mem_of_mem_drop hc)
theorem Bits.cut {a : List Nat} (h : Bits a) (lo hi : Option Int) : Bits (cut a lo hi) := (h.drop _).take _
theorem Bits.lt {a : List Nat} (h : Bits a) : ∀ c ∈ a, c < 1000 := fun c hc => by
  rcases h c hc with z | z <;> omega
/-- where a slice's end lies -/
theorem cut_to (l : List Nat) (n : Int) (h : 0 ≤ n) : cut l none (some n) = l.take n.toNat := by
  unfold Z.cut
  have e : n = ((n.toNat : Nat) : Int) := by omega
  rw [HT.sIx_none, e, HT.sIx_nat, List.drop_zero, Nat.sub_zero]
  simp only [Int.toNat_natCast]
  rw [List.take_eq_take_iff]
  omega
theorem cut_from (l : List Nat) (n : Int) (h : 0 ≤ n) : cut l (some n) none = l.drop n.toNat := by
  unfold Z.cut
  have e : n = ((n.toNat : Nat) : Int) := by omega
  rw [HT.sIx_none, e, HT.sIx_nat]
  simp only [Int.toNat_natCast]
  by_cases g : n.toNat ≤ l.length
  · rw [Nat.min_eq_left g, List.take_of_length_le (by rw [List.length_drop]; omega)]
  · rw [Nat.min_eq_right (by omega), List.drop_eq_nil_of_le (Nat.le_refl _), List.drop_eq_nil_of_le (by omega)]
    simp
theorem cutV_to (l : List V) (n : Int) (h : 0 ≤ n) : cutV l none (some n) = l.take n.toNat := by
  unfold cutV
  have e : n = ((n.toNat : Nat) : Int) := by omega
  rw [HT.sIx_none, e, HT.sIx_nat, List.drop_zero, Nat.sub_zero]
  simp only [Int.toNat_natCast]
  rw [List.take_eq_take_iff]
  omega
theorem joinT_nil : ∀ ys : List (List Nat), joinT [] ys = ys.flatten
  | [] => rfl
  | [x] => by simp [joinT]
  | x :: y :: r => by
    show x ++ [] ++ joinT [] (y :: r) = _
    rw [joinT_nil (y :: r)]
    simp
end Z
/-! ### codes -/
namespace My
open PySem L2 Z
/-- a number's binary figures -/
def figs (n : Nat) : List Nat := if n = 0 then [] else figs (n / 2) ++ [48 + n % 2]
theorem figs_zero : figs 0 = [] := by unfold figs; simp
theorem figs_step {n : Nat} (h : 0 < n) : figs n = figs (n / 2) ++ [48 + n % 2] := by
  conv => lhs; unfold figs
  rw [if_neg (by omega)]
theorem figs_len : ∀ {k n : Nat}, n < 2 ^ k → (figs n).length ≤ k
  | 0, n, h => by
    have : n = 0 := by omega
    subst this
    rw [figs_zero]; simp
  | k + 1, n, h => by
    by_cases z : n = 0
    · subst z; rw [figs_zero]; simp
    · rw [figs_step (by omega), List.length_append]
      have := figs_len (k := k) (n := n / 2) (by omega)
      simp; omega
theorem figs_pos {n : Nat} (h : 0 < n) : 0 < (figs n).length := by
  rw [figs_step h]; simp
theorem figs_bits : ∀ {k n : Nat}, n < k → Bits (figs n)
  | 0, n, h => absurd h (Nat.not_lt_zero _)
  | k + 1, n, h => by
    by_cases z : n = 0
    · subst z; rw [figs_zero]; exact Bits.nil
    · rw [figs_step (by omega)]
      exact (figs_bits (k := k) (n := n / 2) (by omega)).app (Bits.one (by unfold Bit; omega))
/-- a number, written so that it ends by itself -/
def ncode (n : Nat) : List Nat := rep [48] ((figs n).length - 1) ++ figs n
theorem ncode_len {k n : Nat} (h : n < 2 ^ k) : (ncode n).length ≤ 2 * k := by
  unfold ncode
  have := figs_len h
  rw [List.length_append, rep_len]
  simp; omega
theorem ncode_bits (n : Nat) : Bits (ncode n) := (Bits.rep (Bits.one (.inl rfl)) _).app (figs_bits (Nat.lt_succ_self n))
/-- the last number is one more -/
def bump (a : List Nat) : List Nat := a.set (a.length - 1) (a.getD (a.length - 1) 0 + 1)
def rs (s : List Nat × List Nat) (c : Nat) : List Nat × List Nat := if [c] = s.2 then (bump s.1, [c]) else (s.1 ++ [1], [c])
/-- how many bits each run has, and the last sign -/
def rsAll (l : List Nat) : List Nat × List Nat := l.foldl rs ([], [])
def runs (l : List Nat) : List Nat := (rsAll l).1
theorem rsAll_snoc (l : List Nat) (c : Nat) : rsAll (l ++ [c]) = rs (rsAll l) c := by
  unfold rsAll; rw [List.foldl_append]; rfl
theorem rsAll_take {l : List Nat} {i c : Nat} (h : l[i]? = some c) : rsAll (l.take (i + 1)) = rs (rsAll (l.take i)) c := by
  rw [List.take_succ, h]
  exact rsAll_snoc _ _
theorem rs_two (s : List Nat × List Nat) (c : Nat) : (rs s c).2 = [c] := by
  unfold rs; split <;> rfl
theorem bump_len (a : List Nat) : (bump a).length = a.length := by unfold bump; rw [List.length_set]
theorem rsAll_last : ∀ (l : List Nat), (rsAll l).2 = l.drop (l.length - 1) := by
  intro l
  rcases List.eq_nil_or_concat l with rfl | ⟨a, c, rfl⟩
  · rfl
  · rw [List.concat_eq_append, rsAll_snoc, rs_two]; simp
theorem rsAll_len (l : List Nat) : ∀ (i : Nat), i ≤ l.length → (rsAll (l.take i)).1.length ≤ i ∧ (0 < i → 0 < (rsAll (l.take i)).1.length)
  | 0, _ => by simp [rsAll]
  | i + 1, h => by
    have ih := rsAll_len l i (by omega)
    have hc : l[i]? = some l[i] := List.getElem?_eq_getElem (by omega)
    rw [rsAll_take hc]
    unfold rs
    split
    · rename_i e
      have hi : 0 < i := by
        rcases Nat.eq_zero_or_pos i with z | z
        · subst z; simp [rsAll] at e
        · exact z
      simp only [bump_len]
      exact ⟨by omega, fun _ => ih.2 hi⟩
    · simp only [List.length_append, List.length_singleton]
      omega
theorem rsAll_le (l : List Nat) : ∀ (i : Nat), i ≤ l.length → (rsAll (l.take i)).1.sum = i ∧ ∀ n ∈ (rsAll (l.take i)).1, 1 ≤ n
  | 0, _ => by simp [rsAll]
  | i + 1, h => by
    have ih := rsAll_le l i (by omega)
    have hl := rsAll_len l i (by omega)
    have hc : l[i]? = some l[i] := List.getElem?_eq_getElem (by omega)
    rw [rsAll_take hc]
    unfold rs
    split
    · rename_i e
      have hi : 0 < i := by
        rcases Nat.eq_zero_or_pos i with z | z
        · subst z; simp [rsAll] at e
        · exact z
      have hp := hl.2 hi
      generalize (rsAll (l.take i)).1 = a at *
      obtain ⟨b, d, rfl⟩ : ∃ b d, a = b ++ [d] := by
        rcases List.eq_nil_or_concat a with rfl | ⟨b, d, rfl⟩
        · simp at hp
        · exact ⟨b, d, by rw [List.concat_eq_append]⟩
      have eb : bump (b ++ [d]) = b ++ [d + 1] := by
        unfold bump
        simp
      simp only [eb]
      constructor
      · have := ih.1
        simp at this ⊢
        omega
      · intro n hn
        rcases List.mem_append.mp hn with z | z
        · exact ih.2 n (List.mem_append_left _ z)
        · rw [List.mem_singleton.mp z]; omega
    · constructor
      · simp; exact ih.1
      · intro n hn
        rcases List.mem_append.mp hn with z | z
        · exact ih.2 n z
        · rw [List.mem_singleton.mp z]; exact Nat.le_refl _
theorem runs_sum (l : List Nat) : (runs l).sum = l.length := by
  have := (rsAll_le l l.length (Nat.le_refl _)).1
  rw [List.take_length] at this
  exact this
theorem runs_pos (l : List Nat) : ∀ n ∈ runs l, 1 ≤ n := by
  have := (rsAll_le l l.length (Nat.le_refl _)).2
  rw [List.take_length] at this
  exact this
theorem mem_le_sum : ∀ {l : List Nat} {n : Nat}, n ∈ l → n ≤ l.sum
  | a :: r, n, h => by
    rw [List.sum_cons]
    rcases List.mem_cons.mp h with z | z
    · omega
    · have := mem_le_sum z; omega
theorem len_le_sum : ∀ {l : List Nat}, (∀ n ∈ l, 1 ≤ n) → l.length ≤ l.sum
  | [], _ => by simp
  | a :: r, h => by
    have h1 := h a List.mem_cons_self
    have h2 := len_le_sum fun n hn => h n (List.mem_cons_of_mem _ hn)
    rw [List.sum_cons, List.length_cons]
    omega
theorem runs_le (l : List Nat) : ∀ n ∈ runs l, n ≤ l.length := fun n h => runs_sum l ▸ mem_le_sum h
theorem runs_len (l : List Nat) : (runs l).length ≤ l.length := runs_sum l ▸ len_le_sum (runs_pos l)
/-- the code by runs -/
def rcode (l : List Nat) : List Nat := 114 :: l.getD 0 48 :: ((runs l).map ncode).flatten
theorem flat_len {f : Nat → List Nat} {k : Nat} : ∀ {l : List Nat}, (∀ n ∈ l, (f n).length ≤ k) → ((l.map f).flatten).length ≤ l.length * k ∧ (((l.map f).map (·.length)).sum = ((l.map f).flatten).length)
  | [], _ => by simp
  | a :: r, h => by
    have h1 := h a List.mem_cons_self
    have h2 := flat_len fun n hn => h n (List.mem_cons_of_mem _ hn)
    simp only [List.map_cons, List.flatten_cons, List.length_append, List.length_cons, List.sum_cons, Nat.succ_mul]
    omega
theorem rcode_len {l : List Nat} (h : l.length ≤ 1000) : (rcode l).length ≤ 2 + 20 * l.length := by
  unfold rcode
  have hz : ∀ n ∈ runs l, (ncode n).length ≤ 20 := fun n hn => ncode_len (k := 10) (by have := runs_le l n hn; omega)
  have hf := (flat_len hz).1
  have := runs_len l
  have h2 : (runs l).length * 20 ≤ l.length * 20 := Nat.mul_le_mul_right _ this
  simp only [List.length_cons]
  omega
theorem rcode_lt {l : List Nat} (h : Bits l) : ∀ c ∈ rcode l, c < 1000 := by
  intro c hc
  unfold rcode at hc
  rcases List.mem_cons.mp hc with z | z
  · omega
  rcases List.mem_cons.mp z with z | z
  · rw [z, List.getD_eq_getElem?_getD]
    cases e : l[0]? with
    | none => simp
    | some d => exact h.lt d (List.mem_of_getElem? e)
  · obtain ⟨y, hy, hcy⟩ := List.mem_flatten.mp z
    obtain ⟨n, _, rfl⟩ := List.mem_map.mp hy
    exact (ncode_bits n).lt c hcy
end My
/-! heads of blocks -/
namespace My
open PySem L2 Z
/-- two a one, less one a sign -/
def dep (l : List Nat) : Int := 2 * (l.count 49 : Nat) - (l.length : Nat)
def deps (l : List Nat) : List Int := (List.range l.length).map fun i => dep (l.take (i + 1))
theorem deps_len (l : List Nat) : (deps l).length = l.length := by unfold deps; simp
theorem deps_at {l : List Nat} {i : Nat} (h : i < l.length) : (deps l)[i]? = some (dep (l.take (i + 1))) := by
  unfold deps
  rw [List.getElem?_map, List.getElem?_range h]
  rfl
theorem deps_take {l : List Nat} {i : Nat} (h : i < l.length) : (deps l).take (i + 1) = (deps l).take i ++ [dep (l.take (i + 1))] := by
  rw [List.take_succ, deps_at h]; rfl
theorem dep_take {l : List Nat} {i c : Nat} (h : l[i]? = some c) : dep (l.take (i + 1)) = dep (l.take i) + (if c = 49 then 1 else -1) := by
  have hi : i < l.length := (List.getElem?_eq_some_iff.mp h).1
  rw [List.take_succ, h]
  unfold dep
  simp only [Option.toList_some, List.count_append, List.length_append, List.length_singleton, List.count_singleton]
  by_cases e : c = 49
  · rw [if_pos e, e]; simp; omega
  · rw [if_neg e]
    have : (c == 49) = false := by simpa using e
    rw [this]; simp; omega
theorem dep_app (a b : List Nat) : dep (a ++ b) = dep a + dep b := by
  unfold dep
  rw [List.count_append, List.length_append]
  omega
theorem mem_deps {l : List Nat} {m : Int} : m ∈ deps l ↔ ∃ i, i < l.length ∧ m = dep (l.take (i + 1)) := by
  unfold deps
  rw [List.mem_map]
  constructor
  · rintro ⟨i, hi, rfl⟩
    exact ⟨i, List.mem_range.mp hi, rfl⟩
  · rintro ⟨i, hi, rfl⟩
    exact ⟨i, List.mem_range.mpr hi, rfl⟩
theorem mem_deps_app {a b : List Nat} {m : Int} : m ∈ deps (a ++ b) ↔ m ∈ deps a ∨ ∃ k ∈ deps b, m = dep a + k := by
  constructor
  · intro h
    obtain ⟨i, hi, rfl⟩ := mem_deps.mp h
    rw [List.length_append] at hi
    by_cases c : i < a.length
    · exact .inl (mem_deps.mpr ⟨i, c, by rw [List.take_append_of_le_length (by omega)]⟩)
    · refine .inr ⟨dep (b.take (i - a.length + 1)), mem_deps.mpr ⟨i - a.length, by omega, rfl⟩, ?_⟩
      rw [← dep_app, List.take_append, List.take_of_length_le (by omega)]
      have : i + 1 - a.length = i - a.length + 1 := by omega
      rw [this]
  · rintro (h | ⟨k, h, rfl⟩)
    · obtain ⟨i, hi, rfl⟩ := mem_deps.mp h
      exact mem_deps.mpr ⟨i, by rw [List.length_append]; omega, by rw [List.take_append_of_le_length (by omega)]⟩
    · obtain ⟨i, hi, rfl⟩ := mem_deps.mp h
      refine mem_deps.mpr ⟨a.length + i, by rw [List.length_append]; omega, ?_⟩
      have e2 : a.length + i + 1 - a.length = i + 1 := by omega
      have ea : a.take (a.length + i + 1) = a := List.take_of_length_le (by omega)
      rw [List.take_append, ea, e2, dep_app]
structure Least (m : Int) (l : List Nat) : Prop where
  mem : m ∈ deps l
  le : ∀ y ∈ deps l, m ≤ y
theorem Least.eq {m k : Int} {l : List Nat} (h : Least m l) (g : Least k l) : m = k := by
  have h1 := h.le _ g.mem
  have h2 := g.le _ h.mem
  omega
theorem Least.app {m k n : Int} {a b : List Nat} (h : Least m a) (g : Least k b) (f : Least n (a ++ b)) : n = if dep a + k < m then dep a + k else m := by
  have h1 := f.le _ (mem_deps_app.mpr (.inl h.mem))
  have h2 := f.le _ (mem_deps_app.mpr (.inr ⟨k, g.mem, rfl⟩))
  rcases mem_deps_app.mp f.mem with z | ⟨j, hj, rfl⟩
  · have := h.le _ z
    split <;> omega
  · have := g.le _ hj
    split <;> omega
theorem Least.bd {m : Int} {l : List Nat} (h : Least m l) : -(l.length : Int) ≤ m ∧ m ≤ l.length := by
  obtain ⟨i, hi, rfl⟩ := mem_deps.mp h.mem
  unfold dep
  have h1 : (l.take (i + 1)).count 49 ≤ (l.take (i + 1)).length := List.count_le_length
  rw [List.length_take] at h1 ⊢
  omega
/-- each bit the other one -/
def flip (c : Nat) : Nat := 97 - c
theorem Bits.flip {l : List Nat} (h : Bits l) : Bits (l.map flip) := by
  intro c hc
  obtain ⟨d, hd, rfl⟩ := List.mem_map.mp hc
  rcases h d hd with rfl | rfl
  · exact .inr rfl
  · exact .inl rfl
theorem count_flip : ∀ {l : List Nat}, Bits l → (l.map flip).count 49 + l.count 49 = l.length
  | [], _ => rfl
  | c :: r, h => by
    have ih := count_flip (l := r) fun d hd => h d (List.mem_cons_of_mem _ hd)
    rw [List.map_cons, List.count_cons, List.count_cons, List.length_cons]
    rcases h c List.mem_cons_self with rfl | rfl
    · simp [flip]; omega
    · simp [flip]; omega
theorem Bits.rev {l : List Nat} (h : Bits l) : Bits l.reverse := fun c hc => h c (List.mem_reverse.mp hc)
theorem flat_one {f : Nat → Nat} : ∀ l : List Nat, (l.map fun c => [f c]).flatten = l.map f
  | [] => rfl
  | c :: r => by rw [List.map_cons, List.flatten_cons, flat_one r]; rfl
/-- a block's head as data -/
def headD (l : List Nat) (m : Int) : PyData := .tuple [.int (l.length : Nat), .int (l.count 49 : Nat), .int m]
theorem headD_rp {l : List Nat} {m : Int} (h : Least m l) (hl : l.length ≤ 1000) : Rp (headD l m) 85 2 := by
  have h1 := h.bd
  have h2 : l.count 49 ≤ l.length := List.count_le_length
  exact .tup (RpAll.mem (n := 25) (k := 1) (.cons (.int (by omega) (by omega)) (Nat.le_refl _) (Nat.le_refl _) (.cons (.int (by omega) (by omega)) (Nat.le_refl _) (Nat.le_refl _) (.cons (.int (by omega) (by omega)) (Nat.le_refl _) (Nat.le_refl _) .nil))))
end My
/-! codes read -/
namespace My
open PySem L2 Z
theorem figs_bound : ∀ {k n : Nat}, n < k → 0 < n → 2 ^ ((figs n).length - 1) ≤ n ∧ n < 2 ^ (figs n).length
  | 0, n, h, _ => absurd h (Nat.not_lt_zero _)
  | k + 1, n, h, h0 => by
    by_cases z : n / 2 = 0
    · have e : n = 1 := by omega
      subst e
      rw [figs_step (by omega), show (1 : Nat) / 2 = 0 from rfl, figs_zero]
      simp
    · have ih := figs_bound (k := k) (n := n / 2) (by omega) (by omega)
      rw [figs_step h0, List.length_append]
      simp only [List.length_singleton, Nat.add_sub_cancel]
      have hp := figs_pos (n := n / 2) (by omega)
      have e1 : 2 ^ (figs (n / 2)).length = 2 * 2 ^ ((figs (n / 2)).length - 1) := by
        rw [← Nat.pow_succ']; congr 1; omega
      have e2 : 2 ^ ((figs (n / 2)).length + 1) = 2 * 2 ^ (figs (n / 2)).length := Nat.pow_succ'
      omega
theorem figs_at : ∀ {b n : Nat} (k : Nat), n < b → k < (figs n).length → (figs n)[k]? = some (48 + n / 2 ^ ((figs n).length - 1 - k) % 2)
  | 0, n, _, h, _ => absurd h (Nat.not_lt_zero _)
  | b + 1, n, k, h, hk => by
    by_cases z : n = 0
    · subst z; rw [figs_zero] at hk; simp at hk
    · rw [figs_step (by omega)] at hk ⊢
      rw [List.length_append] at hk ⊢
      simp only [List.length_singleton, Nat.add_sub_cancel] at hk ⊢
      by_cases c : k < (figs (n / 2)).length
      · rw [List.getElem?_append_left c, figs_at (b := b) k (by omega) c]
        have e : (figs (n / 2)).length - k = ((figs (n / 2)).length - 1 - k) + 1 := by omega
        rw [e, Nat.pow_succ', Nat.div_div_eq_div_mul]
      · have e : k = (figs (n / 2)).length := by omega
        subst e
        rw [List.getElem?_append_right (Nat.le_refl _)]
        simp
theorem cut_one {t : List Nat} {i c : Nat} (h : t[i]? = some c) : cut t (some (i : Int)) (some ((i : Int) + 1)) = [c] := by
  have hi : i < t.length := (List.getElem?_eq_some_iff.mp h).1
  unfold Z.cut
  have e : ((i : Int) + 1) = ((i + 1 : Nat) : Int) := by omega
  rw [e, HT.sIx_nat, HT.sIx_nat, Nat.min_eq_left (by omega), Nat.min_eq_left (by omega)]
  have e2 : i + 1 - i = 1 := by omega
  rw [e2, List.drop_eq_getElem_cons hi]
  have : t[i] = c := (List.getElem?_eq_some_iff.mp h).2
  rw [this]
  rfl
theorem rep_one (c n : Nat) : rep [c] n = List.replicate n c := by
  unfold rep
  induction n with
  | zero => rfl
  | succ n ih => rw [List.replicate_succ, List.flatten_cons, ih]; rfl
theorem ncode_len2 (n : Nat) : (ncode n).length = (figs n).length - 1 + (figs n).length := by
  unfold ncode
  rw [List.length_append, rep_one, List.length_replicate]
/-- the noughts ahead -/
theorem nc_nought {a r : List Nat} {n j : Nat} (h : j < (figs n).length - 1) : (a ++ (ncode n ++ r))[a.length + j]? = some 48 := by
  rw [List.getElem?_append_right (by omega), Nat.add_sub_cancel_left, List.getElem?_append_left (by rw [ncode_len2]; omega)]
  unfold ncode
  rw [rep_one, List.getElem?_append_left (by rw [List.length_replicate]; exact h), List.getElem?_replicate, if_pos h]
/-- the figures -/
theorem nc_fig {a r : List Nat} {n k : Nat} (h : k < (figs n).length) : (a ++ (ncode n ++ r))[a.length + ((figs n).length - 1 + k)]? = some (48 + n / 2 ^ ((figs n).length - 1 - k) % 2) := by
  rw [List.getElem?_append_right (by omega), Nat.add_sub_cancel_left, List.getElem?_append_left (by rw [ncode_len2]; omega)]
  unfold ncode
  rw [rep_one, List.getElem?_append_right (by rw [List.length_replicate]; omega), List.length_replicate, Nat.add_sub_cancel_left]
  exact figs_at k (Nat.lt_succ_self n) h
end My
/-! runs told out -/
namespace My
open PySem L2 Z
/-- runs told out, the sign turning each time -/
def tell (b : Nat) : List Nat → List Nat
  | [] => []
  | n :: r => List.replicate n b ++ tell (97 - b) r
/-- the sign after j turns -/
def turn (b : Nat) : Nat → Nat
  | 0 => b
  | j + 1 => turn (97 - b) j
theorem turn_succ : ∀ (b j : Nat), turn b (j + 1) = 97 - turn b j
  | b, 0 => rfl
  | b, j + 1 => turn_succ (97 - b) j
theorem turn_bit : ∀ {b : Nat} (j : Nat), Bit b → Bit (turn b j)
  | b, 0, h => h
  | b, j + 1, h => turn_bit (b := 97 - b) j (by unfold Bit at *; omega)
theorem tell_app : ∀ (b : Nat) (xs : List Nat) (k : Nat), tell b (xs ++ [k]) = tell b xs ++ List.replicate k (turn b xs.length)
  | b, [], k => by simp [tell, turn]
  | b, x :: xs, k => by
    show List.replicate x b ++ tell (97 - b) (xs ++ [k]) = (List.replicate x b ++ tell (97 - b) xs) ++ List.replicate k (turn (97 - b) xs.length)
    rw [tell_app (97 - b) xs k, List.append_assoc]
theorem tell_len : ∀ (b : Nat) (xs : List Nat), (tell b xs).length = xs.sum
  | b, [] => rfl
  | b, x :: xs => by
    show (List.replicate x b ++ tell (97 - b) xs).length = _
    rw [List.length_append, List.length_replicate, tell_len, List.sum_cons]
theorem tell_runs_aux (l : List Nat) (hb : Bits l) : ∀ i, i < l.length → tell (l.getD 0 48) (rsAll (l.take (i + 1))).1 = l.take (i + 1) ∧ 0 < (rsAll (l.take (i + 1))).1.length ∧
    (rsAll (l.take (i + 1))).2 = [turn (l.getD 0 48) ((rsAll (l.take (i + 1))).1.length - 1)]
  | 0, h => by
    have hc : l[0]? = some (l.getD 0 48) := by rw [List.getD_eq_getElem?_getD, List.getElem?_eq_getElem h]; rfl
    rw [rsAll_take hc, List.take_succ, hc]
    have e : rsAll (l.take 0) = ([], []) := rfl
    rw [e]
    unfold rs
    rw [if_neg (by simp)]
    simp [tell, turn]
  | i + 1, h => by
    obtain ⟨t1, t2, t3⟩ := tell_runs_aux l hb i (by omega)
    have hc : l[i + 1]? = some l[i + 1] := List.getElem?_eq_getElem h
    have hbc := hb _ (List.mem_of_getElem? hc)
    have hb0 : Bit (l.getD 0 48) := by
      rw [List.getD_eq_getElem?_getD, List.getElem?_eq_getElem (by omega : 0 < l.length)]
      exact hb _ (List.getElem_mem _)
    rw [rsAll_take hc]
    have et : l.take (i + 1 + 1) = l.take (i + 1) ++ [l[i + 1]] := by rw [List.take_succ, hc]; rfl
    rw [et]
    generalize l[i + 1] = c at *
    generalize rsAll (l.take (i + 1)) = s at *
    generalize l.getD 0 48 = b at *
    obtain ⟨xs, k, ex⟩ : ∃ xs k, s.1 = xs ++ [k] := by
      rcases List.eq_nil_or_concat s.1 with z | ⟨xs, k, z⟩
      · rw [z] at t2; simp at t2
      · exact ⟨xs, k, by rw [z, List.concat_eq_append]⟩
    have hb1 := turn_bit xs.length hb0
    unfold rs
    rw [ex] at t1 t3 ⊢
    simp only [List.length_append, List.length_singleton, Nat.add_sub_cancel] at t3
    split
    · rename_i e
      have eb : bump (xs ++ [k]) = xs ++ [k + 1] := by unfold bump; simp
      rw [t3] at e
      simp only [eb]
      refine ⟨?_, by simp, ?_⟩
      · rw [tell_app] at t1 ⊢
        rw [List.replicate_succ', ← List.append_assoc, t1, e]
      · simp only [List.length_append, List.length_singleton, Nat.add_sub_cancel]; exact e
    · rename_i e
      rw [t3] at e
      have e2 : c = 97 - turn b xs.length := by
        have : ¬ c = turn b xs.length := fun z => e (by rw [z])
        unfold Bit at hbc hb1
        omega
      refine ⟨?_, by simp, ?_⟩
      · rw [tell_app, t1]
        simp only [List.length_append, List.length_singleton, turn_succ, ← e2]
        rfl
      · simp only [List.length_append, List.length_singleton, Nat.add_sub_cancel, turn_succ, ← e2]
theorem tell_runs {l : List Nat} (hb : Bits l) (h : 0 < l.length) : tell (l.getD 0 48) (runs l) = l := by
  have := (tell_runs_aux l hb (l.length - 1) (by omega)).1
  have e : l.length - 1 + 1 = l.length := by omega
  rw [e, List.take_length] at this
  exact this
end My
namespace My
open PySem PySem.Spec PyProof.Rows L2 Z
/-! ### the shorter code -/
def scode (l : List Nat) : List Nat := if (112 :: l).length ≤ (rcode l).length then 112 :: l else rcode l
theorem scode_or (l : List Nat) : scode l = 112 :: l ∨ scode l = rcode l := by
  unfold scode
  split
  · exact .inl rfl
  · exact .inr rfl
theorem scode_len (l : List Nat) : (scode l).length ≤ l.length + 1 := by
  unfold scode
  split
  · simp
  · rename_i h
    simp only [List.length_cons] at h
    omega
theorem scode_lt {l : List Nat} (h : Bits l) : ∀ c ∈ scode l, c < 1000 := by
  rcases scode_or l with e | e
  · rw [e]
    intro c hc
    rcases List.mem_cons.mp hc with rfl | z
    · decide
    · exact Bits.lt h c z
  · rw [e]
    exact rcode_lt h
end My
namespace My
open PySem PySem.Spec PyProof.Rows L2 Z
def topS (i : Nat) : Stmt := PySem.Challenge.pw_countedbits_k02_the_shorter_codes.main.body.getD i (.Pass ⟨0, 0, 0, 0⟩)
def clsS (s : Stmt) (j : Nat) : Stmt := L2.inClass s j
/-- what the top leaves under its names -/
structure G (mg : Str → Option Value) : Prop where
  b_abs : mg "abs" = none
  b_divmod : mg "divmod" = none
  b_enumerate : mg "enumerate" = none
  b_int : mg "int" = none
  b_isinstance : mg "isinstance" = none
  b_len : mg "len" = none
  b_max : mg "max" = none
  b_min : mg "min" = none
  b_range : mg "range" = none
  b_repr : mg "repr" = none
  b_str : mg "str" = none
  c_MOST_BITS : ∃ t, mg "MOST_BITS" = some (.int 64 t)
  c_BITS : ∃ t, mg "BITS" = some (.str ⟨([48, 49] : List Nat).toArray⟩ t)
abbrev st_NoCode_init : Stmt := clsS (topS 2) 0
abbrev nm_NoCode_init : List Str := ["self", "at"]
theorem sc_NoCode_init : FnScope nm_NoCode_init ["self", "at"] (defScope st_NoCode_init) := ⟨rfl, rfl, rfl, by decide +kernel, rfl, by decide +kernel, by decide +kernel⟩
abbrev st_figures_of : Stmt := topS 6
abbrev nm_figures_of : List Str := ["number", "found", "figure"]
theorem sc_figures_of : FnScope nm_figures_of ["number"] (defScope st_figures_of) := ⟨rfl, rfl, rfl, by decide +kernel, rfl, by decide +kernel, by decide +kernel⟩
abbrev st_number_code : Stmt := topS 7
abbrev nm_number_code : List Str := ["number", "figures"]
theorem sc_number_code : FnScope nm_number_code ["number"] (defScope st_number_code) := ⟨rfl, rfl, rfl, by decide +kernel, rfl, by decide +kernel, by decide +kernel⟩
abbrev st_runs_of : Stmt := topS 8
abbrev nm_runs_of : List Str := ["bits", "found", "last", "bit"]
theorem sc_runs_of : FnScope nm_runs_of ["bits"] (defScope st_runs_of) := ⟨rfl, rfl, rfl, by decide +kernel, rfl, by decide +kernel, by decide +kernel⟩
abbrev st_code_plain : Stmt := topS 9
abbrev nm_code_plain : List Str := ["bits"]
theorem sc_code_plain : FnScope nm_code_plain ["bits"] (defScope st_code_plain) := ⟨rfl, rfl, rfl, by decide +kernel, rfl, by decide +kernel, by decide +kernel⟩
abbrev st_code_runs : Stmt := topS 10
abbrev nm_code_runs : List Str := ["bits", "first", "many"]
theorem sc_code_runs : FnScope nm_code_runs ["bits"] (defScope st_code_runs) := ⟨rfl, rfl, rfl, by decide +kernel, rfl, by decide +kernel, by decide +kernel⟩
abbrev st_code_of : Stmt := topS 11
abbrev nm_code_of : List Str := ["bits", "plain", "runs"]
theorem sc_code_of : FnScope nm_code_of ["bits"] (defScope st_code_of) := ⟨rfl, rfl, rfl, by decide +kernel, rfl, by decide +kernel, by decide +kernel⟩
abbrev st_read_plain : Stmt := topS 12
abbrev nm_read_plain : List Str := ["text", "at", "sign"]
theorem sc_read_plain : FnScope nm_read_plain ["text"] (defScope st_read_plain) := ⟨rfl, rfl, rfl, by decide +kernel, rfl, by decide +kernel, by decide +kernel⟩
abbrev st_read_number : Stmt := topS 13
abbrev nm_read_number : List Str := ["text", "at", "room", "least", "number", "sign"]
theorem sc_read_number : FnScope nm_read_number ["text", "at", "room"] (defScope st_read_number) := ⟨rfl, rfl, rfl, by decide +kernel, rfl, by decide +kernel, by decide +kernel⟩
abbrev st_other_bit : Stmt := topS 14
abbrev nm_other_bit : List Str := ["bit"]
theorem sc_other_bit : FnScope nm_other_bit ["bit"] (defScope st_other_bit) := ⟨rfl, rfl, rfl, by decide +kernel, rfl, by decide +kernel, by decide +kernel⟩
abbrev st_read_runs : Stmt := topS 15
abbrev nm_read_runs : List Str := ["text", "bit", "found", "at", "many"]
theorem sc_read_runs : FnScope nm_read_runs ["text"] (defScope st_read_runs) := ⟨rfl, rfl, rfl, by decide +kernel, rfl, by decide +kernel, by decide +kernel⟩
abbrev st_read_code : Stmt := topS 17
abbrev nm_read_code : List Str := ["text", "reader"]
theorem sc_read_code : FnScope nm_read_code ["text"] (defScope st_read_code) := ⟨rfl, rfl, rfl, by decide +kernel, rfl, by decide +kernel, by decide +kernel⟩
abbrev st_law_urn : Stmt := topS 19
abbrev nm_law_urn : List Str := ["_law_script", "_law_spot", "_law_cell", "_law_great"]
theorem sc_law_urn : FnScope nm_law_urn ["_law_script", "_law_spot"] (defScope st_law_urn) := ⟨rfl, rfl, rfl, by decide +kernel, rfl, by decide +kernel, by decide +kernel⟩
abbrev st_law_draw : Stmt := topS 20
abbrev nm_law_draw : List Str := ["_law_urn_here", "_law_wide", "_law_digit", "_law_primes", "_law_here", "_law_base", "_law_mixed"]
theorem sc_law_draw : FnScope nm_law_draw ["_law_urn_here", "_law_wide"] (defScope st_law_draw) := ⟨rfl, rfl, rfl, by decide +kernel, rfl, by decide +kernel, by decide +kernel⟩
abbrev st_law_bits : Stmt := topS 21
abbrev nm_law_bits : List Str := ["_law_urn_here", "_law_most", "_law_amount", "_law_way", "_law_sign", "_law_found"]
theorem sc_law_bits : FnScope nm_law_bits ["_law_urn_here", "_law_most"] (defScope st_law_bits) := ⟨rfl, rfl, rfl, by decide +kernel, rfl, by decide +kernel, by decide +kernel⟩
abbrev st_law_runs : Stmt := topS 22
abbrev nm_law_runs : List Str := ["_law_row_text", "_law_found", "_law_here", "_law_sign"]
theorem sc_law_runs : FnScope nm_law_runs ["_law_row_text"] (defScope st_law_runs) := ⟨rfl, rfl, rfl, by decide +kernel, rfl, by decide +kernel, by decide +kernel⟩
abbrev st_law_number_code : Stmt := topS 23
abbrev nm_law_number_code : List Str := ["_law_number", "_law_found"]
theorem sc_law_number_code : FnScope nm_law_number_code ["_law_number"] (defScope st_law_number_code) := ⟨rfl, rfl, rfl, by decide +kernel, rfl, by decide +kernel, by decide +kernel⟩
abbrev st_law_codes : Stmt := topS 24
abbrev nm_law_codes : List Str := ["_law_row_text", "_law_parts", "_law_number"]
theorem sc_law_codes : FnScope nm_law_codes ["_law_row_text"] (defScope st_law_codes) := ⟨rfl, rfl, rfl, by decide +kernel, rfl, by decide +kernel, by decide +kernel⟩
abbrev st_law_code : Stmt := topS 25
abbrev nm_law_code : List Str := ["_law_row_text", "_law_plain", "_law_runs_here"]
theorem sc_law_code : FnScope nm_law_code ["_law_row_text"] (defScope st_law_code) := ⟨rfl, rfl, rfl, by decide +kernel, rfl, by decide +kernel, by decide +kernel⟩
abbrev st_law_block : Stmt := topS 26
abbrev nm_law_block : List Str := ["_law_urn_here"]
theorem sc_law_block : FnScope nm_law_block ["_law_urn_here"] (defScope st_law_block) := ⟨rfl, rfl, rfl, by decide +kernel, rfl, by decide +kernel, by decide +kernel⟩
abbrev st_law_near : Stmt := topS 27
abbrev nm_law_near : List Str := ["_law_urn_here", "_law_found", "_law_sign", "_law_turn"]
theorem sc_law_near : FnScope nm_law_near ["_law_urn_here"] (defScope st_law_near) := ⟨rfl, rfl, rfl, by decide +kernel, rfl, by decide +kernel, by decide +kernel⟩
abbrev st_law : Stmt := topS 28
abbrev nm_law : List Str := ["_law_script", "_law_spot", "_law_urn_here", "_law_some", "_law_turn", "_law_row_text", "_law_told"]
theorem sc_law : FnScope nm_law ["_law_script"] (defScope st_law) := ⟨rfl, rfl, rfl, by decide +kernel, rfl, by decide +kernel, by decide +kernel⟩
theorem lit_0 : (Str.ofString "") = (⟨([] : List Nat).toArray⟩ : Str) := by decide +kernel
theorem lit_1 : (Str.ofString "0") = (⟨([48] : List Nat).toArray⟩ : Str) := by decide +kernel
theorem lit_2 : (Str.ofString "p") = (⟨([112] : List Nat).toArray⟩ : Str) := by decide +kernel
theorem lit_3 : (Str.ofString "r") = (⟨([114] : List Nat).toArray⟩ : Str) := by decide +kernel
theorem lit_4 : (Str.ofString "1") = (⟨([49] : List Nat).toArray⟩ : Str) := by decide +kernel
theorem lit_5 : (Str.ofString "01") = (⟨([48, 49] : List Nat).toArray⟩ : Str) := by decide +kernel
theorem lit_6 : (Str.ofString "p0") = (⟨([112, 48] : List Nat).toArray⟩ : Str) := by decide +kernel
def sp_figures_of : Sp := fun vs H Q _ => ∃ i : Int, vs = [.int i] ∧ 0 ≤ i ∧ i < 1048576 ∧ ∀ H', Ex H H' → Q (T (figs i.toNat)) H'
theorem call_figures_of {i : Int} {H : Hp} {Q : VK} {E : XK} (h1 : 0 ≤ i) (h2 : i < 1048576) (k : ∀ H', Ex H H' → Q (T (figs i.toNat)) H') : sp_figures_of [.int i] H Q E := ⟨i, rfl, h1, h2, k⟩
def sp_number_code : Sp := fun vs H Q _ => ∃ i : Int, vs = [.int i] ∧ 0 < i ∧ i < 1048576 ∧ ∀ H', Ex H H' → Q (T (ncode i.toNat)) H'
theorem call_number_code {i : Int} {H : Hp} {Q : VK} {E : XK} (h1 : 0 < i) (h2 : i < 1048576) (k : ∀ H', Ex H H' → Q (T (ncode i.toNat)) H') : sp_number_code [.int i] H Q E := ⟨i, rfl, h1, h2, k⟩
def sp_runs_of : Sp := fun vs H Q _ => ∃ l : List Nat, vs = [T l] ∧ l.length ≤ 1000 ∧ ∀ p H', H p = none → Ex H H' → H' p = some (.lst ((runs l).map fun n => V.int (n : Nat))) → Q (.ref p) H'
theorem call_runs_of {l : List Nat} {H : Hp} {Q : VK} {E : XK} (h1 : l.length ≤ 1000) (k : ∀ p H', H p = none → Ex H H' → H' p = some (.lst ((runs l).map fun n => V.int (n : Nat))) → Q (.ref p) H') : sp_runs_of [T l] H Q E := ⟨l, rfl, h1, k⟩
def sp_code_plain : Sp := fun vs H Q _ => ∃ l : List Nat, vs = [T l] ∧ l.length ≤ 1000 ∧ ∀ H', Ex H H' → Q (T (112 :: l)) H'
theorem call_code_plain {l : List Nat} {H : Hp} {Q : VK} {E : XK} (h1 : l.length ≤ 1000) (k : ∀ H', Ex H H' → Q (T (112 :: l)) H') : sp_code_plain [T l] H Q E := ⟨l, rfl, h1, k⟩
def sp_code_runs : Sp := fun vs H Q _ => ∃ l : List Nat, vs = [T l] ∧ 0 < l.length ∧ l.length ≤ 1000 ∧ ∀ H', Ex H H' → Q (T (rcode l)) H'
theorem call_code_runs {l : List Nat} {H : Hp} {Q : VK} {E : XK} (h0 : 0 < l.length) (h1 : l.length ≤ 1000) (k : ∀ H', Ex H H' → Q (T (rcode l)) H') : sp_code_runs [T l] H Q E := ⟨l, rfl, h0, h1, k⟩
def sp_code_of : Sp := fun vs H Q _ => ∃ l : List Nat, vs = [T l] ∧ 0 < l.length ∧ l.length ≤ 1000 ∧ ∀ H', Ex H H' → Q (T (scode l)) H'
theorem call_code_of {l : List Nat} {H : Hp} {Q : VK} {E : XK} (h0 : 0 < l.length) (h1 : l.length ≤ 1000) (k : ∀ H', Ex H H' → Q (T (scode l)) H') : sp_code_of [T l] H Q E := ⟨l, rfl, h0, h1, k⟩
def sp_read_plain : Sp := fun vs H Q _ => ∃ l : List Nat, vs = [T (112 :: l)] ∧ Bits l ∧ 0 < l.length ∧ l.length ≤ 64 ∧ ∀ H', Ex H H' → Q (T l) H'
theorem call_read_plain {l : List Nat} {H : Hp} {Q : VK} {E : XK} (hb : Bits l) (h0 : 0 < l.length) (h1 : l.length ≤ 64) (k : ∀ H', Ex H H' → Q (T l) H') : sp_read_plain [T (112 :: l)] H Q E := ⟨l, rfl, hb, h0, h1, k⟩
def sp_read_number : Sp := fun vs H Q _ => ∃ (t a r : List Nat) (n : Nat) (i room : Int), vs = [T t, .int i, .int room] ∧ t = a ++ (ncode n ++ r) ∧ i = (a.length : Nat) ∧ t.length ≤ 100000 ∧ 0 < n ∧ (n : Int) ≤ room ∧ room ≤ 64 ∧
  ∀ p H', H p = none → Ex H H' → H' p = some (.tup [.int (n : Nat), .int ((a ++ ncode n).length : Nat)]) → Q (.ref p) H'
theorem call_read_number {t a r : List Nat} {n : Nat} {i room : Int} {H : Hp} {Q : VK} {E : XK} (h1 : t = a ++ (ncode n ++ r)) (h2 : i = (a.length : Nat)) (h3 : t.length ≤ 100000) (h4 : 0 < n) (h5 : (n : Int) ≤ room) (h6 : room ≤ 64)
    (k : ∀ p H', H p = none → Ex H H' → H' p = some (.tup [.int (n : Nat), .int ((a ++ ncode n).length : Nat)]) → Q (.ref p) H') : sp_read_number [T t, .int i, .int room] H Q E := ⟨t, a, r, n, i, room, rfl, h1, h2, h3, h4, h5, h6, k⟩
def sp_other_bit : Sp := fun vs H Q _ => ∃ c : Nat, vs = [T [c]] ∧ Bit c ∧ Q (T [97 - c]) H
theorem call_other_bit {c : Nat} {H : Hp} {Q : VK} {E : XK} (hb : Bit c) (k : Q (T [97 - c]) H) : sp_other_bit [T [c]] H Q E := ⟨c, rfl, hb, k⟩
def sp_read_runs : Sp := fun vs H Q _ => ∃ l : List Nat, vs = [T (rcode l)] ∧ Bits l ∧ 0 < l.length ∧ l.length ≤ 64 ∧ ∀ H', Ex H H' → Q (T l) H'
theorem call_read_runs {l : List Nat} {H : Hp} {Q : VK} {E : XK} (hb : Bits l) (h0 : 0 < l.length) (h1 : l.length ≤ 64) (k : ∀ H', Ex H H' → Q (T l) H') : sp_read_runs [T (rcode l)] H Q E := ⟨l, rfl, hb, h0, h1, k⟩
def S_read_code (f1 f2 : Addr) : Addr → Sp → Prop := fun f sp => (f = f1 ∧ sp = sp_read_plain) ∨ (f = f2 ∧ sp = sp_read_runs)
def sp_read_code : Sp := fun vs H Q _ => ∃ l c : List Nat, vs = [T c] ∧ (c = 112 :: l ∨ c = rcode l) ∧ Bits l ∧ 0 < l.length ∧ l.length ≤ 64 ∧ ∀ H', Ex H H' → Q (T l) H'
theorem call_read_code {l c : List Nat} {H : Hp} {Q : VK} {E : XK} (hc : c = 112 :: l ∨ c = rcode l) (hb : Bits l) (h0 : 0 < l.length) (h1 : l.length ≤ 64) (k : ∀ H', Ex H H' → Q (T l) H') : sp_read_code [T c] H Q E := ⟨l, c, rfl, hc, hb, h0, h1, k⟩
def sp_law_urn (K : PySem.W.Frag) : Sp := fun vs H Q _ => ∃ (a : Addr) (ns : List Int) (i : Int), vs = [.ref a, .int i] ∧ SqL K H a (ns.map V.int) ∧ ns.length ≤ 63 ∧ 0 ≤ i ∧ i < 64 ∧ ∀ u H', H u = none → Ex H H' → Urn H' u 0 → Q (.ref u) H'
theorem call_law_urn {K : PySem.W.Frag} {a : Addr} {ns : List Int} {i : Int} {H : Hp} {Q : VK} {E : XK} (h1 : SqL K H a (ns.map V.int)) (h2 : ns.length ≤ 63) (h3 : 0 ≤ i) (h4 : i < 64) (k : ∀ u H', H u = none → Ex H H' → Urn H' u 0 → Q (.ref u) H') : sp_law_urn K [.ref a, .int i] H Q E := ⟨a, ns, i, rfl, h1, h2, h3, h4, k⟩
def sp_law_draw : Sp := fun vs H Q _ => ∃ (u : Addr) (n : Nat) (m : Int), vs = [.ref u, .int m] ∧ Urn H u n ∧ n < 1000000000 ∧ 0 < m ∧ m < 1073741824 ∧ ∀ d H', 0 ≤ d → d < m → Urn H' u (n + 1) → But u H H' → Q (.int d) H'
theorem call_law_draw {u : Addr} {n : Nat} {m : Int} {H : Hp} {Q : VK} {E : XK} (h1 : Urn H u n) (h2 : n < 1000000000) (h3 : 0 < m) (h4 : m < 1073741824) (k : ∀ d H', 0 ≤ d → d < m → Urn H' u (n + 1) → But u H H' → Q (.int d) H') : sp_law_draw [.ref u, .int m] H Q E := ⟨u, n, m, rfl, h1, h2, h3, h4, k⟩
def sp_law_bits : Sp := fun vs H Q _ => ∃ (u : Addr) (n : Nat) (m : Int), vs = [.ref u, .int m] ∧ Urn H u n ∧ n < 500000000 ∧ 0 ≤ m ∧ m ≤ 1000 ∧
  ∀ (l : List Nat) (H' : Hp), Bits l → l.length ≤ m → Urn H' u (n + 2100) → But u H H' → Q (T l) H'
theorem call_law_bits {u : Addr} {n : Nat} {m : Int} {H : Hp} {Q : VK} {E : XK} (h1 : Urn H u n) (h2 : n < 500000000) (h3 : 0 ≤ m) (h4 : m ≤ 1000)
    (k : ∀ (l : List Nat) (H' : Hp), Bits l → l.length ≤ m → Urn H' u (n + 2100) → But u H H' → Q (T l) H') : sp_law_bits [.ref u, .int m] H Q E := ⟨u, n, m, rfl, h1, h2, h3, h4, k⟩
def sp_law_runs : Sp := fun vs H Q _ => ∃ l : List Nat, vs = [T l] ∧ l.length ≤ 1000 ∧ ∀ p H', H p = none → Ex H H' → H' p = some (.lst ((runs l).map fun n => V.int (n : Nat))) → Q (.ref p) H'
theorem call_law_runs {l : List Nat} {H : Hp} {Q : VK} {E : XK} (h1 : l.length ≤ 1000) (k : ∀ p H', H p = none → Ex H H' → H' p = some (.lst ((runs l).map fun n => V.int (n : Nat))) → Q (.ref p) H') : sp_law_runs [T l] H Q E := ⟨l, rfl, h1, k⟩
def sp_law_number_code : Sp := fun vs H Q _ => ∃ i : Int, vs = [.int i] ∧ 0 < i ∧ i < 1048576 ∧ ∀ H', Ex H H' → Q (T (ncode i.toNat)) H'
theorem call_law_number_code {i : Int} {H : Hp} {Q : VK} {E : XK} (h1 : 0 < i) (h2 : i < 1048576) (k : ∀ H', Ex H H' → Q (T (ncode i.toNat)) H') : sp_law_number_code [.int i] H Q E := ⟨i, rfl, h1, h2, k⟩
def sp_law_codes : Sp := fun vs H Q _ => ∃ l : List Nat, vs = [T l] ∧ 0 < l.length ∧ l.length ≤ 1000 ∧ ∀ p H', H p = none → Ex H H' → H' p = some (.tup [T (112 :: l), T (rcode l)]) → Q (.ref p) H'
theorem call_law_codes {l : List Nat} {H : Hp} {Q : VK} {E : XK} (h0 : 0 < l.length) (h1 : l.length ≤ 1000) (k : ∀ p H', H p = none → Ex H H' → H' p = some (.tup [T (112 :: l), T (rcode l)]) → Q (.ref p) H') : sp_law_codes [T l] H Q E := ⟨l, rfl, h0, h1, k⟩
def sp_law_code : Sp := fun vs H Q _ => ∃ l : List Nat, vs = [T l] ∧ 0 < l.length ∧ l.length ≤ 1000 ∧ ∀ H', Ex H H' → Q (T (scode l)) H'
theorem call_law_code {l : List Nat} {H : Hp} {Q : VK} {E : XK} (h0 : 0 < l.length) (h1 : l.length ≤ 1000) (k : ∀ H', Ex H H' → Q (T (scode l)) H') : sp_law_code [T l] H Q E := ⟨l, rfl, h0, h1, k⟩
def sp_law_block : Sp := fun vs H Q _ => ∃ (u : Addr) (n : Nat), vs = [.ref u] ∧ Urn H u n ∧ n < 400000000 ∧
  ∀ (l : List Nat) (H' : Hp), Bits l → 0 < l.length → l.length ≤ 64 → Urn H' u (n + 2102) → But u H H' → Q (T l) H'
theorem call_law_block {u : Addr} {n : Nat} {H : Hp} {Q : VK} {E : XK} (h1 : Urn H u n) (h2 : n < 400000000)
    (k : ∀ (l : List Nat) (H' : Hp), Bits l → 0 < l.length → l.length ≤ 64 → Urn H' u (n + 2102) → But u H H' → Q (T l) H') : sp_law_block [.ref u] H Q E := ⟨u, n, rfl, h1, h2, k⟩
def sp_law_near : Sp := fun vs H Q _ => ∃ (u : Addr) (n : Nat), vs = [.ref u] ∧ Urn H u n ∧ n < 400000000 ∧
  ∀ (l : List Nat) (H' : Hp), Bits l → 0 < l.length → l.length ≤ 64 → Urn H' u (n + 10) → But u H H' → Q (T l) H'
theorem call_law_near {u : Addr} {n : Nat} {H : Hp} {Q : VK} {E : XK} (h1 : Urn H u n) (h2 : n < 400000000)
    (k : ∀ (l : List Nat) (H' : Hp), Bits l → 0 < l.length → l.length ≤ 64 → Urn H' u (n + 10) → But u H H' → Q (T l) H') : sp_law_near [.ref u] H Q E := ⟨u, n, rfl, h1, h2, k⟩
def sp_law (K : PySem.W.Frag) : Sp := fun vs H Q _ => ∃ (a : Addr) (ns : List Int), vs = [.ref a] ∧ SqL K H a (ns.map V.int) ∧ ns.length ≤ 63 ∧ ∀ H', Q (.bl true) H'
def Good (t : List Nat) : Prop := Bits t ∧ 0 < t.length ∧ t.length ≤ 64
end My
namespace My
open PySem PySem.Spec PyProof.Rows L2 Z
section
variable {P : Program} {w : World} {K : PySem.W.Frag} {mg : Str → Option Value} {base : Heap}
/-! the steps by name -/
local macro_rules | `(tactic| walk_at "sd") => `(tactic| first
  | with_reducible assumption
  | omega
  | (simp only [List.length_append, List.length_cons, List.length_nil, List.length_replicate, rep_len, List.length_map, List.length_set]; omega)
  | decide)
local macro_rules | `(tactic| walk_at "lk") => `(tactic| first
  | with_reducible assumption
  | exact Ex.at_ (by with_reducible assumption) (by walk_at "lk")
  | exact But.at_ (by with_reducible assumption) (by walk_at "ne") (by walk_at "lk"))
local macro_rules | `(tactic| walk_at "ne") => `(tactic| first
  | with_reducible assumption
  | exact Ne.symm (by with_reducible assumption)
  | exact ne_new (by with_reducible assumption) (by walk_at "lk")
  | exact Ne.symm (ne_new (by with_reducible assumption) (by walk_at "lk"))
  | exact Urn.ne_new (by with_reducible assumption) (by walk_at "ur")
  | exact Ne.symm (Urn.ne_new (by with_reducible assumption) (by walk_at "ur")))
local macro_rules | `(tactic| walk_at "ur") => `(tactic| first
  | with_reducible assumption
  | exact Urn.ex (by with_reducible assumption) (by walk_at "ur")
  | exact Urn.but (by with_reducible assumption) (by walk_at "ne") (by walk_at "ur"))
local macro_rules | `(tactic| walk_at "dp") => `(tactic| first
  | with_reducible exact Dp.str _
  | with_reducible exact Dp.int _
  | with_reducible exact Dp.bl _
  | with_reducible exact Dp.non
  | with_reducible assumption
  | ((with_reducible refine' Dp.lst (SqL.of ?h0) ?h1); (case h0 => walk_at "lk"); (case h1 => walk_at "da"))
  | ((with_reducible refine' Dp.tup (SqT.of ?h0) ?h1); (case h0 => walk_at "lk"); (case h1 => walk_at "da"))
  | exact Dp.int _
  | exact Dp.str _)
local macro_rules | `(tactic| walk_at "da") => `(tactic| first
  | exact DpAll.nil
  | ((with_reducible refine' DpAll.cons ?h0 ?h1); (case h0 => walk_at "dp"); (case h1 => walk_at "da"))
  | with_reducible assumption)
local macro_rules | `(tactic| walk_at "ex") => `(tactic| first
  | with_reducible assumption
  | exact Ex.refl _
  | (refine Ex.trans ?_ (by with_reducible assumption); walk_at "ex"))
local macro_rules | `(tactic| walk_at "at") => `(tactic| first
  | with_reducible assumption
  | exact rfl
  | exact atI_nat (by with_reducible assumption)
  | exact atI_last _ _)
local macro_rules | `(tactic| walk_at "s") => `(tactic| first
  | ((with_reducible refine' norm ?h0 ?_); (case h0 => (dsimp only [List.set_cons_zero, List.set_cons_succ] <;> exact rfl)))
  | ((with_reducible refine' var_ ?h0 ?_); (case h0 => exact rfl))
  | ((with_reducible refine' c_ ?_))
  | ((with_reducible refine' op_ ?_))
  | ((with_reducible refine' cons_ ?_))
  | ((with_reducible refine' nil_ ?_))
  | ((with_reducible refine' seq_asg ?_))
  | ((with_reducible refine' asg_ ?_))
  | ((with_reducible refine' ret_ ?_))
  | ((with_reducible refine' cb_ ?_))
  | ((with_reducible refine' c1_ ?_))
  | ((with_reducible refine' addI ?_))
  | ((with_reducible refine' subI ?_))
  | ((with_reducible refine' addS ?h0 ?_); (case h0 => walk_at "sd"))
  | ((with_reducible refine' lenS ?h0 ?_); (case h0 => walk_at "sd"))
  | ((with_reducible refine' ixS ?h0 ?h1 ?_); (case h0 => walk_at "sd"); (case h1 => walk_at "at"))
  | ((with_reducible refine' ixL ?h0 ?h1 ?_); (case h0 => walk_at "lk"); (case h1 => walk_at "at"))
  | ((with_reducible refine' ixU ?h0 ?h1 ?_); (case h0 => walk_at "lk"); (case h1 => walk_at "at"))
  | ((with_reducible refine' ixSq ?h0 ?h1 ?_); (case h0 => assumption); (case h1 => walk_at "at"))
  | ((with_reducible refine' lenL ?h0 ?_); (case h0 => walk_at "lk"))
  | ((with_reducible refine' lenU ?h0 ?_); (case h0 => walk_at "lk"))
  | ((with_reducible refine' lenSq ?h0 ?_); (case h0 => assumption))
  | ((with_reducible refine' mulI ?h0 ?_); (case h0 => first | exact mul_ok1 (by omega) (by omega) | exact mul_ok2 (by omega) (by omega) | with_reducible assumption))
  | ((with_reducible refine' mulS ?h0 ?h1 ?h2 ?_); (case h0 => walk_at "sd"); (case h1 => walk_at "sd"); (case h2 => walk_at "sd"))
  | ((with_reducible refine' divI ?h0 ?h1 ?_); (case h0 => walk_at "sd"); (case h1 => walk_at "sd"))
  | ((with_reducible refine' modI ?h0 ?_); (case h0 => walk_at "sd"))
  | ((with_reducible refine' powI ?h0 ?_); (case h0 => first | with_reducible assumption | exact pow_ok (by decide)))
  | ((with_reducible refine' test_ ?_))
  | ((with_reducible refine' zb_ ?_))
  | ((with_reducible refine' tb_ ?_))
  | ((with_reducible refine' ltI ?_))
  | ((with_reducible refine' leI ?_))
  | ((with_reducible refine' gtI ?_))
  | ((with_reducible refine' geI ?_))
  | ((with_reducible refine' eqII ?_))
  | ((with_reducible refine' eqSS ?_))
  | ((with_reducible refine' neSS ?_))
  | ((with_reducible refine' eqI ?_))
  | ((with_reducible refine' eqS ?_))
  | ((with_reducible refine' neI ?_))
  | ((with_reducible refine' neS ?_))
  | ((with_reducible refine' orT_ ?_))
  | ((with_reducible refine' truth_ ?_))
  | ((with_reducible refine' ztru_b ?_))
  | ((with_reducible refine' ztru_S ?h0 ?_); (case h0 => walk_at "sd"))
  | ((with_reducible refine' inS ?_))
  | ((with_reducible refine' niS ?_))
  | ((with_reducible refine' seq_if ?_))
  | ((with_reducible refine' if_ ?_))
  | ((with_reducible refine' zif_t ?_))
  | ((with_reducible refine' zif_f ?_))
  | ((with_reducible refine' zif_nT ?_))
  | ((with_reducible refine' zif_nF ?_))
  | ((with_reducible refine' zif_dt ?h0 ?_); (case h0 => walk_at "sd"))
  | ((with_reducible refine' zif_df ?h0 ?_); (case h0 => walk_at "sd"))
  | ((with_reducible refine' zif_nt ?h0 ?_); (case h0 => walk_at "sd"))
  | ((with_reducible refine' zif_nf ?h0 ?_); (case h0 => walk_at "sd"))
  | ((with_reducible refine' not_ ?_))
  | ((with_reducible refine' and_ ?_))
  | ((with_reducible refine' or_ ?_))
  | ((with_reducible refine' tup_ ?_))
  | ((with_reducible refine' lst_ ?_))
  | ((with_reducible refine' ztup_ ?h0 (fun p H' hn he hp => ?_)); (case h0 => walk_at "sd"))
  | ((with_reducible refine' zlst_ ?h0 (fun p H' hn he hp => ?_)); (case h0 => walk_at "sd"))
  | ((with_reducible refine' addL ?h0 ?h1 ?h2 (fun p H' hn he hp => ?_)); (case h0 => walk_at "lk"); (case h1 => walk_at "lk"); (case h2 => walk_at "sd"))
  | ((with_reducible refine' un_ ?_))
  | ((with_reducible refine' negI ?_))
  | ((with_reducible refine' sl_ ?_))
  | ((with_reducible refine' nopart_ ?_))
  | ((with_reducible refine' part_ ?_))
  | ((with_reducible refine' zpart_ ?_))
  | ((with_reducible refine' slS ?h0 ?_); (case h0 => walk_at "sd"))
  | ((with_reducible refine' slL ?h0 (fun p H' hn he hp => ?_)); (case h0 => walk_at "lk"))
  | ((with_reducible refine' seq_asgG ?_))
  | ((with_reducible refine' asgG_ ?_))
  | ((with_reducible refine' gtup_ ?h0 ?h1 ?_); (case h0 => walk_at "lk"); (case h1 => rfl))
  | ((with_reducible refine' gcons_ ?_))
  | ((with_reducible refine' gname_ ?_))
  | ((with_reducible refine' gnil_ ?_))
  | ((with_reducible refine' gsub_ ?_))
  | ((with_reducible refine' setL_ ?h0 ?h1 (fun H' hp hb => ?_)); (case h0 => walk_at "lk"); (case h1 => first | rfl | assumption))
  | ((with_reducible refine' seq_par ?_))
  | ((with_reducible refine' par_ ?_))
  | ((with_reducible refine' zpar_ ?_))
  | ((with_reducible refine' seq_aug ?h0 ?_); (case h0 => exact rfl))
  | ((with_reducible refine' aug_ ?h0 ?_); (case h0 => exact rfl))
  | ((with_reducible refine' augS_ ?_))
  | ((with_reducible refine' getL_ ?h0 ?h1 ?_); (case h0 => walk_at "lk"); (case h1 => walk_at "at"))
  | ((with_reducible refine' iaddI ?_))
  | ((with_reducible refine' iaddS ?h0 ?_); (case h0 => walk_at "sd"))
  | ((with_reducible refine' isubI ?_))
  | ((with_reducible refine' imulI ?h0 ?h1 ?_); (case h0 => walk_at "sd"); (case h1 => walk_at "sd"))
  | ((with_reducible refine' idivI ?h0 ?h1 ?_); (case h0 => walk_at "sd"); (case h1 => walk_at "sd"))
  | ((with_reducible refine' seq_drop ?_))
  | ((with_reducible refine' drop_ ?_))
  | ((with_reducible refine' bm_ ?_))
  | ((with_reducible refine' zbmL_ ?h0 ?_); (case h0 => walk_at "lk"))
  | ((with_reducible refine' append_ ?h0 ?h1 (fun H' hp hb => ?_)); (case h0 => walk_at "lk"); (case h1 => walk_at "sd"))
  | ((with_reducible refine' fld_ ?_))
  | ((with_reducible refine' zfld_ ?h0 ?h1 ?h2 ?h3 ?_); (case h0 => walk_at "lk"); (case h1 => assumption); (case h2 => assumption); (case h3 => exact rfl))
  | ((with_reducible refine' seq_fld ?_))
  | ((with_reducible refine' fldS_ ?_))
  | ((with_reducible refine' zset_ ?h0 ?h1 ?h2 ?h3 ?h4 (fun H' hp hb => ?_)); (case h0 => walk_at "lk"); (case h1 => assumption); (case h2 => assumption); (case h3 => decide); (case h4 => exact rfl))
  | ((with_reducible refine' ck_ ?_))
  | ((with_reducible refine' zck_ ?h0 ?h1 ?h2 ?_); (case h0 => rfl); (case h1 => rfl); (case h2 => (dsimp only [List.cons_append, List.nil_append, List.append_nil] <;> exact rfl)))
  | ((with_reducible refine' mk_ ?_))
  | ((with_reducible refine' zmeth_ ?h0 ?h1 ?_); (case h0 => walk_at "lk"); (case h1 => exact rfl))
  | ((with_reducible refine' kk_ ?_))
  | ((with_reducible refine' zkk_ ?h0 ?h1 (fun x dx H' nx ndx ne he hx => ?_)); (case h0 => rfl); (case h1 => rfl))
  | ((with_reducible refine' zsp_ ?h0 ?_); (case h0 => (dsimp only [List.cons_append, List.nil_append, List.append_nil] <;> exact rfl)))
  | ((with_reducible refine' extend_ ?h0 ?h1 ?h2 (fun H' hp hb => ?_)); (case h0 => walk_at "lk"); (case h1 => walk_at "lk"); (case h2 => walk_at "sd"))
  | ((with_reducible refine' m1_ ?_))
  | ((with_reducible refine' zm1_ ?_))
  | ((with_reducible refine' count_ ?_))
  | ((with_reducible refine' strI_ ?h0 ?h1 ?_); (case h0 => walk_at "sd"); (case h1 => walk_at "sd"))
  | ((with_reducible refine' divmod_ ?h0 ?h1 (fun p H' hn he hp => ?_)); (case h0 => walk_at "sd"); (case h1 => walk_at "sd"))
  | ((with_reducible refine' abs_ ?_))
  | ((with_reducible refine' min2_ ?_))
  | ((with_reducible refine' max2_ ?_))
  | ((with_reducible refine' seq_for ?_))
  | ((with_reducible refine' for_ ?_))
  | ((with_reducible refine' ilist_ ?_))
  | ((with_reducible refine' zlist_ ?h0 ?_); (case h0 => walk_at "lk"))
  | ((with_reducible refine' zlistQ_ ?h0 ?_); (case h0 => assumption))
  | ((with_reducible refine' istr_ ?_))
  | ((with_reducible refine' zstr_ ?_))
  | ((with_reducible refine' irng1_ ?_))
  | ((with_reducible refine' irng2_ ?_))
  | ((with_reducible refine' zrng1_ ?h0 ?h1 ?_); (case h0 => walk_at "sd"); (case h1 => walk_at "sd"))
  | ((with_reducible refine' zrng2_ ?h0 ?h1 ?h2 ?h3 ?_); (case h0 => walk_at "sd"); (case h1 => walk_at "sd"); (case h2 => walk_at "sd"); (case h3 => walk_at "sd"))
  | ((with_reducible refine' ient_ ?_))
  | ((with_reducible refine' zent_ ?_))
  | ((with_reducible refine' revS_ ?_))
  | ((with_reducible refine' zrevS_ ?h0 ?_); (case h0 => walk_at "sd"))
  | ((with_reducible refine' intI_ ?_))
  | ((with_reducible refine' intB_ ?_))
  | ((with_reducible refine' intS_ ?h0 ?_); (case h0 => assumption))
  | ((with_reducible refine' seq_par3 ?_))
  | ((with_reducible refine' par3_ ?_))
  | ((with_reducible refine' zpar3_ ?_))
  | ((with_reducible refine' isSS_ ?_))
  | ((with_reducible refine' ientK_ ?_))
  | ((with_reducible refine' zenK_ ?h0 ?h1 ?_); (case h0 => walk_at "sd"); (case h1 => walk_at "sd"))
  | ((with_reducible refine' lc_ ?_))
  | ((with_reducible refine' tyes_ ?_))
  | ((with_reducible refine' zput_t ?_))
  | ((with_reducible refine' ifE_ ?_))
  | ((with_reducible refine' andV_ ?_))
  | ((with_reducible refine' zandv_t ?_))
  | ((with_reducible refine' zandv_f ?_))
  | ((with_reducible refine' zorv_t ?_))
  | ((with_reducible refine' zorv_f ?_))
  | ((with_reducible refine' zand_t ?_))
  | ((with_reducible refine' zand_f ?_))
  | ((with_reducible refine' zor_t ?_))
  | ((with_reducible refine' zor_f ?_))
  | ((with_reducible refine' orV_ ?_))
  | ((with_reducible refine' next_ ?_))
  | ((with_reducible refine' nx_ ?h0 ?_); (case h0 => (dsimp only <;> exact rfl)))
  | ((with_reducible refine' rt_ ?h0 ?_); (case h0 => (dsimp only <;> exact rfl)))
  | ((with_reducible refine' brk_ ?_))
  | ((with_reducible refine' cont_ ?_))
  | ((with_reducible refine' bk_ ?h0 ?_); (case h0 => (dsimp only <;> exact rfl)))
  | ((with_reducible refine' ct_ ?h0 ?_); (case h0 => (dsimp only <;> exact rfl)))
  | ((with_reducible refine' seq_ ?_)))
local macro_rules | `(tactic| walk_at "go") => `(tactic| repeat (walk_at "s"))
set_option maxHeartbeats 4000000 in
theorem ok_law_urn {f : Addr} {fd : FuncData} {dV kV : Value} (g : G mg)
    (F : Txt K "_law_urn" "_law_urn" (defArgs st_law_urn) (defBody st_law_urn) (defScope st_law_urn) dV kV f fd) :
    FnG P w K mg base 1 f fd ["_law_script", "_law_spot"] (sp_law_urn K) := by
  refine z_fn F sc_law_urn (fun vs H Q E h => by
    obtain ⟨a, ns, i, rfl, h1, h2, h3, h4, k⟩ := h
    rfl) (fun cd A outer s H vs Q E hr ng h => ?_)
  obtain ⟨a, ns, i, rfl, h1, h2, h3, h4, k⟩ := h
  refine ⟨_, [_, _, none, none], rfl, (pss_cons (ps_set (i := 2) sc_law_urn.nd rfl (Or.inl rfl) pe_int)
      (Evl.pss_cut (ps_if (pt_cmpR z_lt (pv 1) (pe_callB z_len (by rfl) g.b_len (by decide +kernel) (pa_cons (pv 0) pa_nil)) (nomark _)) (pss_one (ps_set (i := 2) sc_law_urn.nd rfl (Or.inl rfl) (pe_ix z_ix (pv 0) (pv 1) (fun _ _ => rfl)))) pss_nil)
      (pss_cons (ps_set (i := 3) sc_law_urn.nd rfl (Or.inl rfl) (pe_callB z_abs (by rfl) g.b_abs (by decide +kernel) (pa_cons (pv 2) pa_nil)))
      (Evl.pss_cut (ps_if (pt_cmpR z_lt (pv 3) (pe_op z_pow pe_int pe_int) (nomark _)) (pss_one (ps_set (i := 3) sc_law_urn.nd rfl (Or.inl rfl) pe_int)) pss_nil)
      (pss_one (ps_ret (pe_lst (pa_cons (pv 3) (pa_cons (pe_op z_add (pe_op z_add (pe_op z_add (pe_op z_mod (pv 2) pe_int) (pe_op z_mul (pe_op z_mul pe_int (pv 1)) (pv 1))) (pe_op z_mul pe_int (pv 1))) pe_int) (pa_cons pe_int pa_nil)))))))))), ?_⟩
  have hmul : 97 * i * i < 1000000 ∧ 0 ≤ 97 * i * i := by
    have h5 : i * i ≤ 63 * 63 := Int.mul_le_mul (by omega) (by omega) h3 (by omega)
    have h6 : 0 ≤ i * i := Int.mul_nonneg h3 h3
    have e : 97 * i * i = 97 * (i * i) := Int.mul_assoc _ _ _
    omega
  walk_at "go"
  refine cut_ (fun σ H' => ∃ c : Int, σ = [some (.ref a), some (.int i), some (.int c), none] ∧ H' = H) ?_ ?_
  · walk_at "go"
    rw [List.length_map]
    refine zif_d (fun hq => ?_) (fun hq => ?_)
    · have ha : atI (ns.map V.int) i = some (V.int (ns.getD i.toNat 0)) := by
        have e : i = ((i.toNat : Nat) : Int) := by omega
        rw [e]
        refine atI_nat ?_
        rw [List.getElem?_map, List.getD_eq_getElem?_getD, Int.toNat_natCast, List.getElem?_eq_getElem (by omega)]
        rfl
      walk_at "go"
      exact ⟨_, rfl, rfl⟩
    · walk_at "go"
      exact ⟨_, rfl, rfl⟩
  · rintro σ H' ⟨c, rfl, rfl⟩
    have hc1 : 0 ≤ c % 1000000000000000003 := Int.emod_nonneg _ (by omega)
    have hc2 : c % 1000000000000000003 < 1000000000000000003 := Int.emod_lt_of_pos _ (by omega)
    have hg : (0 : Int) ≤ (if c < 0 then -c else c) := by split <;> omega
    walk_at "go"
    refine cut_ (fun σ H'' => ∃ g : Int, σ = [some (.ref a), some (.int i), some (.int c), some (.int g)] ∧ 0 ≤ g ∧ H'' = H') ?_ ?_
    · walk_at "go"
      refine zif_d (fun hq => ?_) (fun hq => ?_)
      · walk_at "go"
        exact ⟨0, rfl, by omega, rfl⟩
      · walk_at "go"
        exact ⟨_, rfl, hg, rfl⟩
    · rintro σ H'' ⟨g1, rfl, hg1, rfl⟩
      walk_at "go"
      rename_i p H1 hn he hp
      exact k _ _ hn he ⟨_, _, _, hp, by omega, by omega, by omega, by omega, by omega⟩
end
end My
namespace My
open PySem PySem.Spec PyProof.Rows L2 Z
section
variable {P : Program} {w : World} {K : PySem.W.Frag} {mg : Str → Option Value} {base : Heap}
/-! the steps by name -/
local macro_rules | `(tactic| walk_at "sd") => `(tactic| first
  | with_reducible assumption
  | omega
  | (simp only [List.length_append, List.length_cons, List.length_nil, List.length_replicate, rep_len, List.length_map, List.length_set]; omega)
  | decide)
local macro_rules | `(tactic| walk_at "lk") => `(tactic| first
  | with_reducible assumption
  | exact Ex.at_ (by with_reducible assumption) (by walk_at "lk")
  | exact But.at_ (by with_reducible assumption) (by walk_at "ne") (by walk_at "lk"))
local macro_rules | `(tactic| walk_at "ne") => `(tactic| first
  | with_reducible assumption
  | exact Ne.symm (by with_reducible assumption)
  | exact ne_new (by with_reducible assumption) (by walk_at "lk")
  | exact Ne.symm (ne_new (by with_reducible assumption) (by walk_at "lk"))
  | exact Urn.ne_new (by with_reducible assumption) (by walk_at "ur")
  | exact Ne.symm (Urn.ne_new (by with_reducible assumption) (by walk_at "ur")))
local macro_rules | `(tactic| walk_at "ur") => `(tactic| first
  | with_reducible assumption
  | exact Urn.ex (by with_reducible assumption) (by walk_at "ur")
  | exact Urn.but (by with_reducible assumption) (by walk_at "ne") (by walk_at "ur"))
local macro_rules | `(tactic| walk_at "dp") => `(tactic| first
  | with_reducible exact Dp.str _
  | with_reducible exact Dp.int _
  | with_reducible exact Dp.bl _
  | with_reducible exact Dp.non
  | with_reducible assumption
  | ((with_reducible refine' Dp.lst (SqL.of ?h0) ?h1); (case h0 => walk_at "lk"); (case h1 => walk_at "da"))
  | ((with_reducible refine' Dp.tup (SqT.of ?h0) ?h1); (case h0 => walk_at "lk"); (case h1 => walk_at "da"))
  | exact Dp.int _
  | exact Dp.str _)
local macro_rules | `(tactic| walk_at "da") => `(tactic| first
  | exact DpAll.nil
  | ((with_reducible refine' DpAll.cons ?h0 ?h1); (case h0 => walk_at "dp"); (case h1 => walk_at "da"))
  | with_reducible assumption)
local macro_rules | `(tactic| walk_at "ex") => `(tactic| first
  | with_reducible assumption
  | exact Ex.refl _
  | (refine Ex.trans ?_ (by with_reducible assumption); walk_at "ex"))
local macro_rules | `(tactic| walk_at "at") => `(tactic| first
  | with_reducible assumption
  | exact rfl
  | exact atI_nat (by with_reducible assumption)
  | exact atI_last _ _)
local macro_rules | `(tactic| walk_at "s") => `(tactic| first
  | ((with_reducible refine' norm ?h0 ?_); (case h0 => (dsimp only [List.set_cons_zero, List.set_cons_succ] <;> exact rfl)))
  | ((with_reducible refine' var_ ?h0 ?_); (case h0 => exact rfl))
  | ((with_reducible refine' c_ ?_))
  | ((with_reducible refine' op_ ?_))
  | ((with_reducible refine' cons_ ?_))
  | ((with_reducible refine' nil_ ?_))
  | ((with_reducible refine' seq_asg ?_))
  | ((with_reducible refine' asg_ ?_))
  | ((with_reducible refine' ret_ ?_))
  | ((with_reducible refine' cb_ ?_))
  | ((with_reducible refine' c1_ ?_))
  | ((with_reducible refine' addI ?_))
  | ((with_reducible refine' subI ?_))
  | ((with_reducible refine' addS ?h0 ?_); (case h0 => walk_at "sd"))
  | ((with_reducible refine' lenS ?h0 ?_); (case h0 => walk_at "sd"))
  | ((with_reducible refine' ixS ?h0 ?h1 ?_); (case h0 => walk_at "sd"); (case h1 => walk_at "at"))
  | ((with_reducible refine' ixL ?h0 ?h1 ?_); (case h0 => walk_at "lk"); (case h1 => walk_at "at"))
  | ((with_reducible refine' ixU ?h0 ?h1 ?_); (case h0 => walk_at "lk"); (case h1 => walk_at "at"))
  | ((with_reducible refine' ixSq ?h0 ?h1 ?_); (case h0 => assumption); (case h1 => walk_at "at"))
  | ((with_reducible refine' lenL ?h0 ?_); (case h0 => walk_at "lk"))
  | ((with_reducible refine' lenU ?h0 ?_); (case h0 => walk_at "lk"))
  | ((with_reducible refine' lenSq ?h0 ?_); (case h0 => assumption))
  | ((with_reducible refine' mulI ?h0 ?_); (case h0 => first | exact mul_ok1 (by omega) (by omega) | exact mul_ok2 (by omega) (by omega) | with_reducible assumption))
  | ((with_reducible refine' mulS ?h0 ?h1 ?h2 ?_); (case h0 => walk_at "sd"); (case h1 => walk_at "sd"); (case h2 => walk_at "sd"))
  | ((with_reducible refine' divI ?h0 ?h1 ?_); (case h0 => walk_at "sd"); (case h1 => walk_at "sd"))
  | ((with_reducible refine' modI ?h0 ?_); (case h0 => walk_at "sd"))
  | ((with_reducible refine' powI ?h0 ?_); (case h0 => first | with_reducible assumption | exact pow_ok (by decide)))
  | ((with_reducible refine' test_ ?_))
  | ((with_reducible refine' zb_ ?_))
  | ((with_reducible refine' tb_ ?_))
  | ((with_reducible refine' ltI ?_))
  | ((with_reducible refine' leI ?_))
  | ((with_reducible refine' gtI ?_))
  | ((with_reducible refine' geI ?_))
  | ((with_reducible refine' eqII ?_))
  | ((with_reducible refine' eqSS ?_))
  | ((with_reducible refine' neSS ?_))
  | ((with_reducible refine' eqI ?_))
  | ((with_reducible refine' eqS ?_))
  | ((with_reducible refine' neI ?_))
  | ((with_reducible refine' neS ?_))
  | ((with_reducible refine' orT_ ?_))
  | ((with_reducible refine' truth_ ?_))
  | ((with_reducible refine' ztru_b ?_))
  | ((with_reducible refine' ztru_S ?h0 ?_); (case h0 => walk_at "sd"))
  | ((with_reducible refine' inS ?_))
  | ((with_reducible refine' niS ?_))
  | ((with_reducible refine' seq_if ?_))
  | ((with_reducible refine' if_ ?_))
  | ((with_reducible refine' zif_t ?_))
  | ((with_reducible refine' zif_f ?_))
  | ((with_reducible refine' zif_nT ?_))
  | ((with_reducible refine' zif_nF ?_))
  | ((with_reducible refine' zif_dt ?h0 ?_); (case h0 => walk_at "sd"))
  | ((with_reducible refine' zif_df ?h0 ?_); (case h0 => walk_at "sd"))
  | ((with_reducible refine' zif_nt ?h0 ?_); (case h0 => walk_at "sd"))
  | ((with_reducible refine' zif_nf ?h0 ?_); (case h0 => walk_at "sd"))
  | ((with_reducible refine' not_ ?_))
  | ((with_reducible refine' and_ ?_))
  | ((with_reducible refine' or_ ?_))
  | ((with_reducible refine' tup_ ?_))
  | ((with_reducible refine' lst_ ?_))
  | ((with_reducible refine' ztup_ ?h0 (fun p H' hn he hp => ?_)); (case h0 => walk_at "sd"))
  | ((with_reducible refine' zlst_ ?h0 (fun p H' hn he hp => ?_)); (case h0 => walk_at "sd"))
  | ((with_reducible refine' addL ?h0 ?h1 ?h2 (fun p H' hn he hp => ?_)); (case h0 => walk_at "lk"); (case h1 => walk_at "lk"); (case h2 => walk_at "sd"))
  | ((with_reducible refine' un_ ?_))
  | ((with_reducible refine' negI ?_))
  | ((with_reducible refine' sl_ ?_))
  | ((with_reducible refine' nopart_ ?_))
  | ((with_reducible refine' part_ ?_))
  | ((with_reducible refine' zpart_ ?_))
  | ((with_reducible refine' slS ?h0 ?_); (case h0 => walk_at "sd"))
  | ((with_reducible refine' slL ?h0 (fun p H' hn he hp => ?_)); (case h0 => walk_at "lk"))
  | ((with_reducible refine' seq_asgG ?_))
  | ((with_reducible refine' asgG_ ?_))
  | ((with_reducible refine' gtup_ ?h0 ?h1 ?_); (case h0 => walk_at "lk"); (case h1 => rfl))
  | ((with_reducible refine' gcons_ ?_))
  | ((with_reducible refine' gname_ ?_))
  | ((with_reducible refine' gnil_ ?_))
  | ((with_reducible refine' gsub_ ?_))
  | ((with_reducible refine' setL_ ?h0 ?h1 (fun H' hp hb => ?_)); (case h0 => walk_at "lk"); (case h1 => first | rfl | assumption))
  | ((with_reducible refine' seq_par ?_))
  | ((with_reducible refine' par_ ?_))
  | ((with_reducible refine' zpar_ ?_))
  | ((with_reducible refine' seq_aug ?h0 ?_); (case h0 => exact rfl))
  | ((with_reducible refine' aug_ ?h0 ?_); (case h0 => exact rfl))
  | ((with_reducible refine' augS_ ?_))
  | ((with_reducible refine' getL_ ?h0 ?h1 ?_); (case h0 => walk_at "lk"); (case h1 => walk_at "at"))
  | ((with_reducible refine' iaddI ?_))
  | ((with_reducible refine' iaddS ?h0 ?_); (case h0 => walk_at "sd"))
  | ((with_reducible refine' isubI ?_))
  | ((with_reducible refine' imulI ?h0 ?h1 ?_); (case h0 => walk_at "sd"); (case h1 => walk_at "sd"))
  | ((with_reducible refine' idivI ?h0 ?h1 ?_); (case h0 => walk_at "sd"); (case h1 => walk_at "sd"))
  | ((with_reducible refine' seq_drop ?_))
  | ((with_reducible refine' drop_ ?_))
  | ((with_reducible refine' bm_ ?_))
  | ((with_reducible refine' zbmL_ ?h0 ?_); (case h0 => walk_at "lk"))
  | ((with_reducible refine' append_ ?h0 ?h1 (fun H' hp hb => ?_)); (case h0 => walk_at "lk"); (case h1 => walk_at "sd"))
  | ((with_reducible refine' fld_ ?_))
  | ((with_reducible refine' zfld_ ?h0 ?h1 ?h2 ?h3 ?_); (case h0 => walk_at "lk"); (case h1 => assumption); (case h2 => assumption); (case h3 => exact rfl))
  | ((with_reducible refine' seq_fld ?_))
  | ((with_reducible refine' fldS_ ?_))
  | ((with_reducible refine' zset_ ?h0 ?h1 ?h2 ?h3 ?h4 (fun H' hp hb => ?_)); (case h0 => walk_at "lk"); (case h1 => assumption); (case h2 => assumption); (case h3 => decide); (case h4 => exact rfl))
  | ((with_reducible refine' ck_ ?_))
  | ((with_reducible refine' zck_ ?h0 ?h1 ?h2 ?_); (case h0 => rfl); (case h1 => rfl); (case h2 => (dsimp only [List.cons_append, List.nil_append, List.append_nil] <;> exact rfl)))
  | ((with_reducible refine' mk_ ?_))
  | ((with_reducible refine' zmeth_ ?h0 ?h1 ?_); (case h0 => walk_at "lk"); (case h1 => exact rfl))
  | ((with_reducible refine' kk_ ?_))
  | ((with_reducible refine' zkk_ ?h0 ?h1 (fun x dx H' nx ndx ne he hx => ?_)); (case h0 => rfl); (case h1 => rfl))
  | ((with_reducible refine' zsp_ ?h0 ?_); (case h0 => (dsimp only [List.cons_append, List.nil_append, List.append_nil] <;> exact rfl)))
  | ((with_reducible refine' extend_ ?h0 ?h1 ?h2 (fun H' hp hb => ?_)); (case h0 => walk_at "lk"); (case h1 => walk_at "lk"); (case h2 => walk_at "sd"))
  | ((with_reducible refine' m1_ ?_))
  | ((with_reducible refine' zm1_ ?_))
  | ((with_reducible refine' count_ ?_))
  | ((with_reducible refine' strI_ ?h0 ?h1 ?_); (case h0 => walk_at "sd"); (case h1 => walk_at "sd"))
  | ((with_reducible refine' divmod_ ?h0 ?h1 (fun p H' hn he hp => ?_)); (case h0 => walk_at "sd"); (case h1 => walk_at "sd"))
  | ((with_reducible refine' abs_ ?_))
  | ((with_reducible refine' min2_ ?_))
  | ((with_reducible refine' max2_ ?_))
  | ((with_reducible refine' seq_for ?_))
  | ((with_reducible refine' for_ ?_))
  | ((with_reducible refine' ilist_ ?_))
  | ((with_reducible refine' zlist_ ?h0 ?_); (case h0 => walk_at "lk"))
  | ((with_reducible refine' zlistQ_ ?h0 ?_); (case h0 => assumption))
  | ((with_reducible refine' istr_ ?_))
  | ((with_reducible refine' zstr_ ?_))
  | ((with_reducible refine' irng1_ ?_))
  | ((with_reducible refine' irng2_ ?_))
  | ((with_reducible refine' zrng1_ ?h0 ?h1 ?_); (case h0 => walk_at "sd"); (case h1 => walk_at "sd"))
  | ((with_reducible refine' zrng2_ ?h0 ?h1 ?h2 ?h3 ?_); (case h0 => walk_at "sd"); (case h1 => walk_at "sd"); (case h2 => walk_at "sd"); (case h3 => walk_at "sd"))
  | ((with_reducible refine' ient_ ?_))
  | ((with_reducible refine' zent_ ?_))
  | ((with_reducible refine' revS_ ?_))
  | ((with_reducible refine' zrevS_ ?h0 ?_); (case h0 => walk_at "sd"))
  | ((with_reducible refine' intI_ ?_))
  | ((with_reducible refine' intB_ ?_))
  | ((with_reducible refine' intS_ ?h0 ?_); (case h0 => assumption))
  | ((with_reducible refine' seq_par3 ?_))
  | ((with_reducible refine' par3_ ?_))
  | ((with_reducible refine' zpar3_ ?_))
  | ((with_reducible refine' isSS_ ?_))
  | ((with_reducible refine' ientK_ ?_))
  | ((with_reducible refine' zenK_ ?h0 ?h1 ?_); (case h0 => walk_at "sd"); (case h1 => walk_at "sd"))
  | ((with_reducible refine' lc_ ?_))
  | ((with_reducible refine' tyes_ ?_))
  | ((with_reducible refine' zput_t ?_))
  | ((with_reducible refine' ifE_ ?_))
  | ((with_reducible refine' andV_ ?_))
  | ((with_reducible refine' zandv_t ?_))
  | ((with_reducible refine' zandv_f ?_))
  | ((with_reducible refine' zorv_t ?_))
  | ((with_reducible refine' zorv_f ?_))
  | ((with_reducible refine' zand_t ?_))
  | ((with_reducible refine' zand_f ?_))
  | ((with_reducible refine' zor_t ?_))
  | ((with_reducible refine' zor_f ?_))
  | ((with_reducible refine' orV_ ?_))
  | ((with_reducible refine' next_ ?_))
  | ((with_reducible refine' nx_ ?h0 ?_); (case h0 => (dsimp only <;> exact rfl)))
  | ((with_reducible refine' rt_ ?h0 ?_); (case h0 => (dsimp only <;> exact rfl)))
  | ((with_reducible refine' brk_ ?_))
  | ((with_reducible refine' cont_ ?_))
  | ((with_reducible refine' bk_ ?h0 ?_); (case h0 => (dsimp only <;> exact rfl)))
  | ((with_reducible refine' ct_ ?h0 ?_); (case h0 => (dsimp only <;> exact rfl)))
  | ((with_reducible refine' seq_ ?_)))
local macro_rules | `(tactic| walk_at "go") => `(tactic| repeat (walk_at "s"))
set_option maxHeartbeats 4000000 in
theorem ok_code_plain {f : Addr} {fd : FuncData} {dV kV : Value} (g : G mg)
    (F : Txt K "code_plain" "code_plain" (defArgs st_code_plain) (defBody st_code_plain) (defScope st_code_plain) dV kV f fd) :
    FnG P w K mg base 1 f fd ["bits"] (sp_code_plain) := by
  refine z_fn F sc_code_plain (fun vs H Q E h => by
    obtain ⟨l, rfl, h1, k⟩ := h
    rfl) (fun cd A outer s H vs Q E hr ng h => ?_)
  obtain ⟨l, rfl, h1, k⟩ := h
  refine ⟨_, [_], rfl, (pss_one (ps_ret (pe_op z_add (z_str lit_2) (pv 0)))), ?_⟩
  walk_at "go"
  exact k _ (Ex.refl _)
end
end My
namespace My
open PySem PySem.Spec PyProof.Rows L2 Z
section
variable {P : Program} {w : World} {K : PySem.W.Frag} {mg : Str → Option Value} {base : Heap}
/-! the steps by name -/
local macro_rules | `(tactic| walk_at "sd") => `(tactic| first
  | with_reducible assumption
  | omega
  | (simp only [List.length_append, List.length_cons, List.length_nil, List.length_replicate, rep_len, List.length_map, List.length_set]; omega)
  | decide)
local macro_rules | `(tactic| walk_at "lk") => `(tactic| first
  | with_reducible assumption
  | exact Ex.at_ (by with_reducible assumption) (by walk_at "lk")
  | exact But.at_ (by with_reducible assumption) (by walk_at "ne") (by walk_at "lk"))
local macro_rules | `(tactic| walk_at "ne") => `(tactic| first
  | with_reducible assumption
  | exact Ne.symm (by with_reducible assumption)
  | exact ne_new (by with_reducible assumption) (by walk_at "lk")
  | exact Ne.symm (ne_new (by with_reducible assumption) (by walk_at "lk"))
  | exact Urn.ne_new (by with_reducible assumption) (by walk_at "ur")
  | exact Ne.symm (Urn.ne_new (by with_reducible assumption) (by walk_at "ur")))
local macro_rules | `(tactic| walk_at "ur") => `(tactic| first
  | with_reducible assumption
  | exact Urn.ex (by with_reducible assumption) (by walk_at "ur")
  | exact Urn.but (by with_reducible assumption) (by walk_at "ne") (by walk_at "ur"))
local macro_rules | `(tactic| walk_at "dp") => `(tactic| first
  | with_reducible exact Dp.str _
  | with_reducible exact Dp.int _
  | with_reducible exact Dp.bl _
  | with_reducible exact Dp.non
  | with_reducible assumption
  | ((with_reducible refine' Dp.lst (SqL.of ?h0) ?h1); (case h0 => walk_at "lk"); (case h1 => walk_at "da"))
  | ((with_reducible refine' Dp.tup (SqT.of ?h0) ?h1); (case h0 => walk_at "lk"); (case h1 => walk_at "da"))
  | exact Dp.int _
  | exact Dp.str _)
local macro_rules | `(tactic| walk_at "da") => `(tactic| first
  | exact DpAll.nil
  | ((with_reducible refine' DpAll.cons ?h0 ?h1); (case h0 => walk_at "dp"); (case h1 => walk_at "da"))
  | with_reducible assumption)
local macro_rules | `(tactic| walk_at "ex") => `(tactic| first
  | with_reducible assumption
  | exact Ex.refl _
  | (refine Ex.trans ?_ (by with_reducible assumption); walk_at "ex"))
local macro_rules | `(tactic| walk_at "at") => `(tactic| first
  | with_reducible assumption
  | exact rfl
  | exact atI_nat (by with_reducible assumption)
  | exact atI_last _ _)
local macro_rules | `(tactic| walk_at "s") => `(tactic| first
  | ((with_reducible refine' norm ?h0 ?_); (case h0 => (dsimp only [List.set_cons_zero, List.set_cons_succ] <;> exact rfl)))
  | ((with_reducible refine' var_ ?h0 ?_); (case h0 => exact rfl))
  | ((with_reducible refine' c_ ?_))
  | ((with_reducible refine' op_ ?_))
  | ((with_reducible refine' cons_ ?_))
  | ((with_reducible refine' nil_ ?_))
  | ((with_reducible refine' seq_asg ?_))
  | ((with_reducible refine' asg_ ?_))
  | ((with_reducible refine' ret_ ?_))
  | ((with_reducible refine' cb_ ?_))
  | ((with_reducible refine' c1_ ?_))
  | ((with_reducible refine' addI ?_))
  | ((with_reducible refine' subI ?_))
  | ((with_reducible refine' addS ?h0 ?_); (case h0 => walk_at "sd"))
  | ((with_reducible refine' lenS ?h0 ?_); (case h0 => walk_at "sd"))
  | ((with_reducible refine' ixS ?h0 ?h1 ?_); (case h0 => walk_at "sd"); (case h1 => walk_at "at"))
  | ((with_reducible refine' ixL ?h0 ?h1 ?_); (case h0 => walk_at "lk"); (case h1 => walk_at "at"))
  | ((with_reducible refine' ixU ?h0 ?h1 ?_); (case h0 => walk_at "lk"); (case h1 => walk_at "at"))
  | ((with_reducible refine' ixSq ?h0 ?h1 ?_); (case h0 => assumption); (case h1 => walk_at "at"))
  | ((with_reducible refine' lenL ?h0 ?_); (case h0 => walk_at "lk"))
  | ((with_reducible refine' lenU ?h0 ?_); (case h0 => walk_at "lk"))
  | ((with_reducible refine' lenSq ?h0 ?_); (case h0 => assumption))
  | ((with_reducible refine' mulI ?h0 ?_); (case h0 => first | exact mul_ok1 (by omega) (by omega) | exact mul_ok2 (by omega) (by omega) | with_reducible assumption))
  | ((with_reducible refine' mulS ?h0 ?h1 ?h2 ?_); (case h0 => walk_at "sd"); (case h1 => walk_at "sd"); (case h2 => walk_at "sd"))
  | ((with_reducible refine' divI ?h0 ?h1 ?_); (case h0 => walk_at "sd"); (case h1 => walk_at "sd"))
  | ((with_reducible refine' modI ?h0 ?_); (case h0 => walk_at "sd"))
  | ((with_reducible refine' powI ?h0 ?_); (case h0 => first | with_reducible assumption | exact pow_ok (by decide)))
  | ((with_reducible refine' test_ ?_))
  | ((with_reducible refine' zb_ ?_))
  | ((with_reducible refine' tb_ ?_))
  | ((with_reducible refine' ltI ?_))
  | ((with_reducible refine' leI ?_))
  | ((with_reducible refine' gtI ?_))
  | ((with_reducible refine' geI ?_))
  | ((with_reducible refine' eqII ?_))
  | ((with_reducible refine' eqSS ?_))
  | ((with_reducible refine' neSS ?_))
  | ((with_reducible refine' eqI ?_))
  | ((with_reducible refine' eqS ?_))
  | ((with_reducible refine' neI ?_))
  | ((with_reducible refine' neS ?_))
  | ((with_reducible refine' orT_ ?_))
  | ((with_reducible refine' truth_ ?_))
  | ((with_reducible refine' ztru_b ?_))
  | ((with_reducible refine' ztru_S ?h0 ?_); (case h0 => walk_at "sd"))
  | ((with_reducible refine' inS ?_))
  | ((with_reducible refine' niS ?_))
  | ((with_reducible refine' seq_if ?_))
  | ((with_reducible refine' if_ ?_))
  | ((with_reducible refine' zif_t ?_))
  | ((with_reducible refine' zif_f ?_))
  | ((with_reducible refine' zif_nT ?_))
  | ((with_reducible refine' zif_nF ?_))
  | ((with_reducible refine' zif_dt ?h0 ?_); (case h0 => walk_at "sd"))
  | ((with_reducible refine' zif_df ?h0 ?_); (case h0 => walk_at "sd"))
  | ((with_reducible refine' zif_nt ?h0 ?_); (case h0 => walk_at "sd"))
  | ((with_reducible refine' zif_nf ?h0 ?_); (case h0 => walk_at "sd"))
  | ((with_reducible refine' not_ ?_))
  | ((with_reducible refine' and_ ?_))
  | ((with_reducible refine' or_ ?_))
  | ((with_reducible refine' tup_ ?_))
  | ((with_reducible refine' lst_ ?_))
  | ((with_reducible refine' ztup_ ?h0 (fun p H' hn he hp => ?_)); (case h0 => walk_at "sd"))
  | ((with_reducible refine' zlst_ ?h0 (fun p H' hn he hp => ?_)); (case h0 => walk_at "sd"))
  | ((with_reducible refine' addL ?h0 ?h1 ?h2 (fun p H' hn he hp => ?_)); (case h0 => walk_at "lk"); (case h1 => walk_at "lk"); (case h2 => walk_at "sd"))
  | ((with_reducible refine' un_ ?_))
  | ((with_reducible refine' negI ?_))
  | ((with_reducible refine' sl_ ?_))
  | ((with_reducible refine' nopart_ ?_))
  | ((with_reducible refine' part_ ?_))
  | ((with_reducible refine' zpart_ ?_))
  | ((with_reducible refine' slS ?h0 ?_); (case h0 => walk_at "sd"))
  | ((with_reducible refine' slL ?h0 (fun p H' hn he hp => ?_)); (case h0 => walk_at "lk"))
  | ((with_reducible refine' seq_asgG ?_))
  | ((with_reducible refine' asgG_ ?_))
  | ((with_reducible refine' gtup_ ?h0 ?h1 ?_); (case h0 => walk_at "lk"); (case h1 => rfl))
  | ((with_reducible refine' gcons_ ?_))
  | ((with_reducible refine' gname_ ?_))
  | ((with_reducible refine' gnil_ ?_))
  | ((with_reducible refine' gsub_ ?_))
  | ((with_reducible refine' setL_ ?h0 ?h1 (fun H' hp hb => ?_)); (case h0 => walk_at "lk"); (case h1 => first | rfl | assumption))
  | ((with_reducible refine' seq_par ?_))
  | ((with_reducible refine' par_ ?_))
  | ((with_reducible refine' zpar_ ?_))
  | ((with_reducible refine' seq_aug ?h0 ?_); (case h0 => exact rfl))
  | ((with_reducible refine' aug_ ?h0 ?_); (case h0 => exact rfl))
  | ((with_reducible refine' augS_ ?_))
  | ((with_reducible refine' getL_ ?h0 ?h1 ?_); (case h0 => walk_at "lk"); (case h1 => walk_at "at"))
  | ((with_reducible refine' iaddI ?_))
  | ((with_reducible refine' iaddS ?h0 ?_); (case h0 => walk_at "sd"))
  | ((with_reducible refine' isubI ?_))
  | ((with_reducible refine' imulI ?h0 ?h1 ?_); (case h0 => walk_at "sd"); (case h1 => walk_at "sd"))
  | ((with_reducible refine' idivI ?h0 ?h1 ?_); (case h0 => walk_at "sd"); (case h1 => walk_at "sd"))
  | ((with_reducible refine' seq_drop ?_))
  | ((with_reducible refine' drop_ ?_))
  | ((with_reducible refine' bm_ ?_))
  | ((with_reducible refine' zbmL_ ?h0 ?_); (case h0 => walk_at "lk"))
  | ((with_reducible refine' append_ ?h0 ?h1 (fun H' hp hb => ?_)); (case h0 => walk_at "lk"); (case h1 => walk_at "sd"))
  | ((with_reducible refine' fld_ ?_))
  | ((with_reducible refine' zfld_ ?h0 ?h1 ?h2 ?h3 ?_); (case h0 => walk_at "lk"); (case h1 => assumption); (case h2 => assumption); (case h3 => exact rfl))
  | ((with_reducible refine' seq_fld ?_))
  | ((with_reducible refine' fldS_ ?_))
  | ((with_reducible refine' zset_ ?h0 ?h1 ?h2 ?h3 ?h4 (fun H' hp hb => ?_)); (case h0 => walk_at "lk"); (case h1 => assumption); (case h2 => assumption); (case h3 => decide); (case h4 => exact rfl))
  | ((with_reducible refine' ck_ ?_))
  | ((with_reducible refine' zck_ ?h0 ?h1 ?h2 ?_); (case h0 => rfl); (case h1 => rfl); (case h2 => (dsimp only [List.cons_append, List.nil_append, List.append_nil] <;> exact rfl)))
  | ((with_reducible refine' mk_ ?_))
  | ((with_reducible refine' zmeth_ ?h0 ?h1 ?_); (case h0 => walk_at "lk"); (case h1 => exact rfl))
  | ((with_reducible refine' kk_ ?_))
  | ((with_reducible refine' zkk_ ?h0 ?h1 (fun x dx H' nx ndx ne he hx => ?_)); (case h0 => rfl); (case h1 => rfl))
  | ((with_reducible refine' zsp_ ?h0 ?_); (case h0 => (dsimp only [List.cons_append, List.nil_append, List.append_nil] <;> exact rfl)))
  | ((with_reducible refine' extend_ ?h0 ?h1 ?h2 (fun H' hp hb => ?_)); (case h0 => walk_at "lk"); (case h1 => walk_at "lk"); (case h2 => walk_at "sd"))
  | ((with_reducible refine' m1_ ?_))
  | ((with_reducible refine' zm1_ ?_))
  | ((with_reducible refine' count_ ?_))
  | ((with_reducible refine' strI_ ?h0 ?h1 ?_); (case h0 => walk_at "sd"); (case h1 => walk_at "sd"))
  | ((with_reducible refine' divmod_ ?h0 ?h1 (fun p H' hn he hp => ?_)); (case h0 => walk_at "sd"); (case h1 => walk_at "sd"))
  | ((with_reducible refine' abs_ ?_))
  | ((with_reducible refine' min2_ ?_))
  | ((with_reducible refine' max2_ ?_))
  | ((with_reducible refine' seq_for ?_))
  | ((with_reducible refine' for_ ?_))
  | ((with_reducible refine' ilist_ ?_))
  | ((with_reducible refine' zlist_ ?h0 ?_); (case h0 => walk_at "lk"))
  | ((with_reducible refine' zlistQ_ ?h0 ?_); (case h0 => assumption))
  | ((with_reducible refine' istr_ ?_))
  | ((with_reducible refine' zstr_ ?_))
  | ((with_reducible refine' irng1_ ?_))
  | ((with_reducible refine' irng2_ ?_))
  | ((with_reducible refine' zrng1_ ?h0 ?h1 ?_); (case h0 => walk_at "sd"); (case h1 => walk_at "sd"))
  | ((with_reducible refine' zrng2_ ?h0 ?h1 ?h2 ?h3 ?_); (case h0 => walk_at "sd"); (case h1 => walk_at "sd"); (case h2 => walk_at "sd"); (case h3 => walk_at "sd"))
  | ((with_reducible refine' ient_ ?_))
  | ((with_reducible refine' zent_ ?_))
  | ((with_reducible refine' revS_ ?_))
  | ((with_reducible refine' zrevS_ ?h0 ?_); (case h0 => walk_at "sd"))
  | ((with_reducible refine' intI_ ?_))
  | ((with_reducible refine' intB_ ?_))
  | ((with_reducible refine' intS_ ?h0 ?_); (case h0 => assumption))
  | ((with_reducible refine' seq_par3 ?_))
  | ((with_reducible refine' par3_ ?_))
  | ((with_reducible refine' zpar3_ ?_))
  | ((with_reducible refine' isSS_ ?_))
  | ((with_reducible refine' ientK_ ?_))
  | ((with_reducible refine' zenK_ ?h0 ?h1 ?_); (case h0 => walk_at "sd"); (case h1 => walk_at "sd"))
  | ((with_reducible refine' lc_ ?_))
  | ((with_reducible refine' tyes_ ?_))
  | ((with_reducible refine' zput_t ?_))
  | ((with_reducible refine' ifE_ ?_))
  | ((with_reducible refine' andV_ ?_))
  | ((with_reducible refine' zandv_t ?_))
  | ((with_reducible refine' zandv_f ?_))
  | ((with_reducible refine' zorv_t ?_))
  | ((with_reducible refine' zorv_f ?_))
  | ((with_reducible refine' zand_t ?_))
  | ((with_reducible refine' zand_f ?_))
  | ((with_reducible refine' zor_t ?_))
  | ((with_reducible refine' zor_f ?_))
  | ((with_reducible refine' orV_ ?_))
  | ((with_reducible refine' next_ ?_))
  | ((with_reducible refine' nx_ ?h0 ?_); (case h0 => (dsimp only <;> exact rfl)))
  | ((with_reducible refine' rt_ ?h0 ?_); (case h0 => (dsimp only <;> exact rfl)))
  | ((with_reducible refine' brk_ ?_))
  | ((with_reducible refine' cont_ ?_))
  | ((with_reducible refine' bk_ ?h0 ?_); (case h0 => (dsimp only <;> exact rfl)))
  | ((with_reducible refine' ct_ ?h0 ?_); (case h0 => (dsimp only <;> exact rfl)))
  | ((with_reducible refine' seq_ ?_)))
local macro_rules | `(tactic| walk_at "go") => `(tactic| repeat (walk_at "s"))
set_option maxHeartbeats 4000000 in
theorem ok_figures_of {f : Addr} {fd : FuncData} {dV kV : Value} (g : G mg)
    (F : Txt K "figures_of" "figures_of" (defArgs st_figures_of) (defBody st_figures_of) (defScope st_figures_of) dV kV f fd) :
    FnG P w K mg base 1 f fd ["number"] (sp_figures_of) := by
  refine z_fn F sc_figures_of (fun vs H Q E h => by
    obtain ⟨i, rfl, h1, h2, k⟩ := h
    rfl) (fun cd A outer s H vs Q E hr ng h => ?_)
  obtain ⟨i, rfl, h1, h2, k⟩ := h
  obtain ⟨_, c_BITS⟩ := g.c_BITS
  refine ⟨_, [_, none, none], rfl, (pss_cons (ps_set (i := 1) sc_figures_of.nd rfl (Or.inl rfl) (z_str lit_0))
      (pss_cons (ps_while (passes_of rfl) (pt_cmpR z_gt (pv 0) pe_int (nomark _)) (pss_cons (ps_asg (pe_callB z_divmod (by rfl) g.b_divmod (by decide +kernel) (pa_cons (pv 0) (pa_cons pe_int pa_nil))) (pg_tup (by rfl) (pgs_cons (pg_name (i := 0) sc_figures_of.nd rfl (Or.inl rfl)) (pgs_cons (pg_name (i := 2) sc_figures_of.nd rfl (Or.inl rfl)) pgs_nil))))
      (pss_one (ps_set (i := 1) sc_figures_of.nd rfl (Or.inl rfl) (pe_op z_add (pe_ix z_ix (pe_glob (v := T [48, 49]) (by rfl) c_BITS ⟨_, rfl⟩) (pv 2) (fun _ _ => rfl)) (pv 1))))))
      (pss_one (ps_ret (pv 1))))), ?_⟩
  walk_at "go"
  refine seq_while (fun n σ H' => ∃ (t : List Nat) (v : Option V), σ = [some (.int (n : Int)), some (T t), v] ∧ figs i.toNat = figs n ++ t ∧ n < 1048576 ∧ Ex H H') i.toNat ⟨[], none, by rw [Int.toNat_of_nonneg h1], by simp, by omega, Ex.refl H⟩ ?_
  rintro n σ H1 ⟨t, v, rfl, e, hn, ex⟩
  have hl : t.length ≤ 20 := by
    have := figs_len (k := 20) (n := i.toNat) (by omega)
    rw [e, List.length_append] at this
    omega
  walk_at "go"
  refine zwh_d (fun hp => ?_) (fun hp => ?_)
  · have ha : atI [48, 49] ((n : Int) % 2) = some (48 + n % 2) := by
      rcases Nat.mod_two_eq_zero_or_one n with z | z
      · have : ((n : Int) % 2) = ((0 : Nat) : Int) := by omega
        rw [this, z]; rfl
      · have : ((n : Int) % 2) = ((1 : Nat) : Int) := by omega
        rw [this, z]; rfl
    walk_at "go"
    refine less_ (n / 2) (by omega) ⟨[48 + n % 2] ++ t, _, rfl, ?_, by omega, ex.trans (by assumption)⟩
    rw [e, figs_step (by omega : 0 < n), List.append_assoc]
  · have z : n = 0 := by omega
    subst z
    rw [figs_zero, List.nil_append] at e
    walk_at "go"
    rw [← e]
    exact k _ ex
end
end My
namespace My
open PySem PySem.Spec PyProof.Rows L2 Z
section
variable {P : Program} {w : World} {K : PySem.W.Frag} {mg : Str → Option Value} {base : Heap}
/-! the steps by name -/
local macro_rules | `(tactic| walk_at "sd") => `(tactic| first
  | with_reducible assumption
  | omega
  | (simp only [List.length_append, List.length_cons, List.length_nil, List.length_replicate, rep_len, List.length_map, List.length_set]; omega)
  | decide)
local macro_rules | `(tactic| walk_at "lk") => `(tactic| first
  | with_reducible assumption
  | exact Ex.at_ (by with_reducible assumption) (by walk_at "lk")
  | exact But.at_ (by with_reducible assumption) (by walk_at "ne") (by walk_at "lk"))
local macro_rules | `(tactic| walk_at "ne") => `(tactic| first
  | with_reducible assumption
  | exact Ne.symm (by with_reducible assumption)
  | exact ne_new (by with_reducible assumption) (by walk_at "lk")
  | exact Ne.symm (ne_new (by with_reducible assumption) (by walk_at "lk"))
  | exact Urn.ne_new (by with_reducible assumption) (by walk_at "ur")
  | exact Ne.symm (Urn.ne_new (by with_reducible assumption) (by walk_at "ur")))
local macro_rules | `(tactic| walk_at "ur") => `(tactic| first
  | with_reducible assumption
  | exact Urn.ex (by with_reducible assumption) (by walk_at "ur")
  | exact Urn.but (by with_reducible assumption) (by walk_at "ne") (by walk_at "ur"))
local macro_rules | `(tactic| walk_at "dp") => `(tactic| first
  | with_reducible exact Dp.str _
  | with_reducible exact Dp.int _
  | with_reducible exact Dp.bl _
  | with_reducible exact Dp.non
  | with_reducible assumption
  | ((with_reducible refine' Dp.lst (SqL.of ?h0) ?h1); (case h0 => walk_at "lk"); (case h1 => walk_at "da"))
  | ((with_reducible refine' Dp.tup (SqT.of ?h0) ?h1); (case h0 => walk_at "lk"); (case h1 => walk_at "da"))
  | exact Dp.int _
  | exact Dp.str _)
local macro_rules | `(tactic| walk_at "da") => `(tactic| first
  | exact DpAll.nil
  | ((with_reducible refine' DpAll.cons ?h0 ?h1); (case h0 => walk_at "dp"); (case h1 => walk_at "da"))
  | with_reducible assumption)
local macro_rules | `(tactic| walk_at "ex") => `(tactic| first
  | with_reducible assumption
  | exact Ex.refl _
  | (refine Ex.trans ?_ (by with_reducible assumption); walk_at "ex"))
local macro_rules | `(tactic| walk_at "at") => `(tactic| first
  | with_reducible assumption
  | exact rfl
  | exact atI_nat (by with_reducible assumption)
  | exact atI_last _ _)
local macro_rules | `(tactic| walk_at "s") => `(tactic| first
  | ((with_reducible refine' call_figures_of ?h0 ?h1 (fun H' he => ?_)); (case h0 => walk_at "sd"); (case h1 => walk_at "sd"))
  | ((with_reducible refine' norm ?h0 ?_); (case h0 => (dsimp only [List.set_cons_zero, List.set_cons_succ] <;> exact rfl)))
  | ((with_reducible refine' var_ ?h0 ?_); (case h0 => exact rfl))
  | ((with_reducible refine' c_ ?_))
  | ((with_reducible refine' op_ ?_))
  | ((with_reducible refine' cons_ ?_))
  | ((with_reducible refine' nil_ ?_))
  | ((with_reducible refine' seq_asg ?_))
  | ((with_reducible refine' asg_ ?_))
  | ((with_reducible refine' ret_ ?_))
  | ((with_reducible refine' cb_ ?_))
  | ((with_reducible refine' c1_ ?_))
  | ((with_reducible refine' addI ?_))
  | ((with_reducible refine' subI ?_))
  | ((with_reducible refine' addS ?h0 ?_); (case h0 => walk_at "sd"))
  | ((with_reducible refine' lenS ?h0 ?_); (case h0 => walk_at "sd"))
  | ((with_reducible refine' ixS ?h0 ?h1 ?_); (case h0 => walk_at "sd"); (case h1 => walk_at "at"))
  | ((with_reducible refine' ixL ?h0 ?h1 ?_); (case h0 => walk_at "lk"); (case h1 => walk_at "at"))
  | ((with_reducible refine' ixU ?h0 ?h1 ?_); (case h0 => walk_at "lk"); (case h1 => walk_at "at"))
  | ((with_reducible refine' ixSq ?h0 ?h1 ?_); (case h0 => assumption); (case h1 => walk_at "at"))
  | ((with_reducible refine' lenL ?h0 ?_); (case h0 => walk_at "lk"))
  | ((with_reducible refine' lenU ?h0 ?_); (case h0 => walk_at "lk"))
  | ((with_reducible refine' lenSq ?h0 ?_); (case h0 => assumption))
  | ((with_reducible refine' mulI ?h0 ?_); (case h0 => first | exact mul_ok1 (by omega) (by omega) | exact mul_ok2 (by omega) (by omega) | with_reducible assumption))
  | ((with_reducible refine' mulS ?h0 ?h1 ?h2 ?_); (case h0 => walk_at "sd"); (case h1 => walk_at "sd"); (case h2 => walk_at "sd"))
  | ((with_reducible refine' divI ?h0 ?h1 ?_); (case h0 => walk_at "sd"); (case h1 => walk_at "sd"))
  | ((with_reducible refine' modI ?h0 ?_); (case h0 => walk_at "sd"))
  | ((with_reducible refine' powI ?h0 ?_); (case h0 => first | with_reducible assumption | exact pow_ok (by decide)))
  | ((with_reducible refine' test_ ?_))
  | ((with_reducible refine' zb_ ?_))
  | ((with_reducible refine' tb_ ?_))
  | ((with_reducible refine' ltI ?_))
  | ((with_reducible refine' leI ?_))
  | ((with_reducible refine' gtI ?_))
  | ((with_reducible refine' geI ?_))
  | ((with_reducible refine' eqII ?_))
  | ((with_reducible refine' eqSS ?_))
  | ((with_reducible refine' neSS ?_))
  | ((with_reducible refine' eqI ?_))
  | ((with_reducible refine' eqS ?_))
  | ((with_reducible refine' neI ?_))
  | ((with_reducible refine' neS ?_))
  | ((with_reducible refine' orT_ ?_))
  | ((with_reducible refine' truth_ ?_))
  | ((with_reducible refine' ztru_b ?_))
  | ((with_reducible refine' ztru_S ?h0 ?_); (case h0 => walk_at "sd"))
  | ((with_reducible refine' inS ?_))
  | ((with_reducible refine' niS ?_))
  | ((with_reducible refine' seq_if ?_))
  | ((with_reducible refine' if_ ?_))
  | ((with_reducible refine' zif_t ?_))
  | ((with_reducible refine' zif_f ?_))
  | ((with_reducible refine' zif_nT ?_))
  | ((with_reducible refine' zif_nF ?_))
  | ((with_reducible refine' zif_dt ?h0 ?_); (case h0 => walk_at "sd"))
  | ((with_reducible refine' zif_df ?h0 ?_); (case h0 => walk_at "sd"))
  | ((with_reducible refine' zif_nt ?h0 ?_); (case h0 => walk_at "sd"))
  | ((with_reducible refine' zif_nf ?h0 ?_); (case h0 => walk_at "sd"))
  | ((with_reducible refine' not_ ?_))
  | ((with_reducible refine' and_ ?_))
  | ((with_reducible refine' or_ ?_))
  | ((with_reducible refine' tup_ ?_))
  | ((with_reducible refine' lst_ ?_))
  | ((with_reducible refine' ztup_ ?h0 (fun p H' hn he hp => ?_)); (case h0 => walk_at "sd"))
  | ((with_reducible refine' zlst_ ?h0 (fun p H' hn he hp => ?_)); (case h0 => walk_at "sd"))
  | ((with_reducible refine' addL ?h0 ?h1 ?h2 (fun p H' hn he hp => ?_)); (case h0 => walk_at "lk"); (case h1 => walk_at "lk"); (case h2 => walk_at "sd"))
  | ((with_reducible refine' un_ ?_))
  | ((with_reducible refine' negI ?_))
  | ((with_reducible refine' sl_ ?_))
  | ((with_reducible refine' nopart_ ?_))
  | ((with_reducible refine' part_ ?_))
  | ((with_reducible refine' zpart_ ?_))
  | ((with_reducible refine' slS ?h0 ?_); (case h0 => walk_at "sd"))
  | ((with_reducible refine' slL ?h0 (fun p H' hn he hp => ?_)); (case h0 => walk_at "lk"))
  | ((with_reducible refine' seq_asgG ?_))
  | ((with_reducible refine' asgG_ ?_))
  | ((with_reducible refine' gtup_ ?h0 ?h1 ?_); (case h0 => walk_at "lk"); (case h1 => rfl))
  | ((with_reducible refine' gcons_ ?_))
  | ((with_reducible refine' gname_ ?_))
  | ((with_reducible refine' gnil_ ?_))
  | ((with_reducible refine' gsub_ ?_))
  | ((with_reducible refine' setL_ ?h0 ?h1 (fun H' hp hb => ?_)); (case h0 => walk_at "lk"); (case h1 => first | rfl | assumption))
  | ((with_reducible refine' seq_par ?_))
  | ((with_reducible refine' par_ ?_))
  | ((with_reducible refine' zpar_ ?_))
  | ((with_reducible refine' seq_aug ?h0 ?_); (case h0 => exact rfl))
  | ((with_reducible refine' aug_ ?h0 ?_); (case h0 => exact rfl))
  | ((with_reducible refine' augS_ ?_))
  | ((with_reducible refine' getL_ ?h0 ?h1 ?_); (case h0 => walk_at "lk"); (case h1 => walk_at "at"))
  | ((with_reducible refine' iaddI ?_))
  | ((with_reducible refine' iaddS ?h0 ?_); (case h0 => walk_at "sd"))
  | ((with_reducible refine' isubI ?_))
  | ((with_reducible refine' imulI ?h0 ?h1 ?_); (case h0 => walk_at "sd"); (case h1 => walk_at "sd"))
  | ((with_reducible refine' idivI ?h0 ?h1 ?_); (case h0 => walk_at "sd"); (case h1 => walk_at "sd"))
  | ((with_reducible refine' seq_drop ?_))
  | ((with_reducible refine' drop_ ?_))
  | ((with_reducible refine' bm_ ?_))
  | ((with_reducible refine' zbmL_ ?h0 ?_); (case h0 => walk_at "lk"))
  | ((with_reducible refine' append_ ?h0 ?h1 (fun H' hp hb => ?_)); (case h0 => walk_at "lk"); (case h1 => walk_at "sd"))
  | ((with_reducible refine' fld_ ?_))
  | ((with_reducible refine' zfld_ ?h0 ?h1 ?h2 ?h3 ?_); (case h0 => walk_at "lk"); (case h1 => assumption); (case h2 => assumption); (case h3 => exact rfl))
  | ((with_reducible refine' seq_fld ?_))
  | ((with_reducible refine' fldS_ ?_))
  | ((with_reducible refine' zset_ ?h0 ?h1 ?h2 ?h3 ?h4 (fun H' hp hb => ?_)); (case h0 => walk_at "lk"); (case h1 => assumption); (case h2 => assumption); (case h3 => decide); (case h4 => exact rfl))
  | ((with_reducible refine' ck_ ?_))
  | ((with_reducible refine' zck_ ?h0 ?h1 ?h2 ?_); (case h0 => rfl); (case h1 => rfl); (case h2 => (dsimp only [List.cons_append, List.nil_append, List.append_nil] <;> exact rfl)))
  | ((with_reducible refine' mk_ ?_))
  | ((with_reducible refine' zmeth_ ?h0 ?h1 ?_); (case h0 => walk_at "lk"); (case h1 => exact rfl))
  | ((with_reducible refine' kk_ ?_))
  | ((with_reducible refine' zkk_ ?h0 ?h1 (fun x dx H' nx ndx ne he hx => ?_)); (case h0 => rfl); (case h1 => rfl))
  | ((with_reducible refine' zsp_ ?h0 ?_); (case h0 => (dsimp only [List.cons_append, List.nil_append, List.append_nil] <;> exact rfl)))
  | ((with_reducible refine' extend_ ?h0 ?h1 ?h2 (fun H' hp hb => ?_)); (case h0 => walk_at "lk"); (case h1 => walk_at "lk"); (case h2 => walk_at "sd"))
  | ((with_reducible refine' m1_ ?_))
  | ((with_reducible refine' zm1_ ?_))
  | ((with_reducible refine' count_ ?_))
  | ((with_reducible refine' strI_ ?h0 ?h1 ?_); (case h0 => walk_at "sd"); (case h1 => walk_at "sd"))
  | ((with_reducible refine' divmod_ ?h0 ?h1 (fun p H' hn he hp => ?_)); (case h0 => walk_at "sd"); (case h1 => walk_at "sd"))
  | ((with_reducible refine' abs_ ?_))
  | ((with_reducible refine' min2_ ?_))
  | ((with_reducible refine' max2_ ?_))
  | ((with_reducible refine' seq_for ?_))
  | ((with_reducible refine' for_ ?_))
  | ((with_reducible refine' ilist_ ?_))
  | ((with_reducible refine' zlist_ ?h0 ?_); (case h0 => walk_at "lk"))
  | ((with_reducible refine' zlistQ_ ?h0 ?_); (case h0 => assumption))
  | ((with_reducible refine' istr_ ?_))
  | ((with_reducible refine' zstr_ ?_))
  | ((with_reducible refine' irng1_ ?_))
  | ((with_reducible refine' irng2_ ?_))
  | ((with_reducible refine' zrng1_ ?h0 ?h1 ?_); (case h0 => walk_at "sd"); (case h1 => walk_at "sd"))
  | ((with_reducible refine' zrng2_ ?h0 ?h1 ?h2 ?h3 ?_); (case h0 => walk_at "sd"); (case h1 => walk_at "sd"); (case h2 => walk_at "sd"); (case h3 => walk_at "sd"))
  | ((with_reducible refine' ient_ ?_))
  | ((with_reducible refine' zent_ ?_))
  | ((with_reducible refine' revS_ ?_))
  | ((with_reducible refine' zrevS_ ?h0 ?_); (case h0 => walk_at "sd"))
  | ((with_reducible refine' intI_ ?_))
  | ((with_reducible refine' intB_ ?_))
  | ((with_reducible refine' intS_ ?h0 ?_); (case h0 => assumption))
  | ((with_reducible refine' seq_par3 ?_))
  | ((with_reducible refine' par3_ ?_))
  | ((with_reducible refine' zpar3_ ?_))
  | ((with_reducible refine' isSS_ ?_))
  | ((with_reducible refine' ientK_ ?_))
  | ((with_reducible refine' zenK_ ?h0 ?h1 ?_); (case h0 => walk_at "sd"); (case h1 => walk_at "sd"))
  | ((with_reducible refine' lc_ ?_))
  | ((with_reducible refine' tyes_ ?_))
  | ((with_reducible refine' zput_t ?_))
  | ((with_reducible refine' ifE_ ?_))
  | ((with_reducible refine' andV_ ?_))
  | ((with_reducible refine' zandv_t ?_))
  | ((with_reducible refine' zandv_f ?_))
  | ((with_reducible refine' zorv_t ?_))
  | ((with_reducible refine' zorv_f ?_))
  | ((with_reducible refine' zand_t ?_))
  | ((with_reducible refine' zand_f ?_))
  | ((with_reducible refine' zor_t ?_))
  | ((with_reducible refine' zor_f ?_))
  | ((with_reducible refine' orV_ ?_))
  | ((with_reducible refine' next_ ?_))
  | ((with_reducible refine' nx_ ?h0 ?_); (case h0 => (dsimp only <;> exact rfl)))
  | ((with_reducible refine' rt_ ?h0 ?_); (case h0 => (dsimp only <;> exact rfl)))
  | ((with_reducible refine' brk_ ?_))
  | ((with_reducible refine' cont_ ?_))
  | ((with_reducible refine' bk_ ?h0 ?_); (case h0 => (dsimp only <;> exact rfl)))
  | ((with_reducible refine' ct_ ?h0 ?_); (case h0 => (dsimp only <;> exact rfl)))
  | ((with_reducible refine' seq_ ?_)))
local macro_rules | `(tactic| walk_at "go") => `(tactic| repeat (walk_at "s"))
set_option maxHeartbeats 4000000 in
theorem ok_number_code {f : Addr} {fd : FuncData} {dV kV : Value} (g : G mg)
    (F : Txt K "number_code" "number_code" (defArgs st_number_code) (defBody st_number_code) (defScope st_number_code) dV kV f fd)
    (D_figures_of : Def P w K mg base 1 "figures_of" [] (sp_figures_of)) :
    FnG P w K mg base 2 f fd ["number"] (sp_number_code) := by
  refine z_fn F sc_number_code (fun vs H Q E h => by
    obtain ⟨i, rfl, h1, h2, k⟩ := h
    rfl) (fun cd A outer s H vs Q E hr ng h => ?_)
  obtain ⟨i, rfl, h1, h2, k⟩ := h
  refine ⟨_, [_, none], rfl, (pss_cons (ps_set (i := 1) sc_number_code.nd rfl (Or.inl rfl) (pe_f D_figures_of (hr.mono (by decide)) ng (by rfl) tk0 (pa_cons (pv 0) pa_nil)))
      (pss_one (ps_ret (pe_op z_add (pe_op z_mul (z_str lit_1) (pe_op z_sub (pe_callB z_len (by rfl) g.b_len (by decide +kernel) (pa_cons (pv 1) pa_nil)) pe_int)) (pv 1))))), ?_⟩
  have hl := figs_len (k := 20) (n := i.toNat) (by omega)
  have hp := figs_pos (n := i.toNat) (by omega)
  walk_at "go"
  have e : (((figs i.toNat).length : Nat) : Int) - 1 = (((figs i.toNat).length - 1 : Nat) : Int) := by omega
  rw [e, Int.toNat_natCast]
  exact k _ (by assumption)
end
end My
namespace My
open PySem PySem.Spec PyProof.Rows L2 Z
section
variable {P : Program} {w : World} {K : PySem.W.Frag} {mg : Str → Option Value} {base : Heap}
/-! the steps by name -/
local macro_rules | `(tactic| walk_at "sd") => `(tactic| first
  | with_reducible assumption
  | omega
  | (simp only [List.length_append, List.length_cons, List.length_nil, List.length_replicate, rep_len, List.length_map, List.length_set]; omega)
  | decide)
local macro_rules | `(tactic| walk_at "lk") => `(tactic| first
  | with_reducible assumption
  | exact Ex.at_ (by with_reducible assumption) (by walk_at "lk")
  | exact But.at_ (by with_reducible assumption) (by walk_at "ne") (by walk_at "lk"))
local macro_rules | `(tactic| walk_at "ne") => `(tactic| first
  | with_reducible assumption
  | exact Ne.symm (by with_reducible assumption)
  | exact ne_new (by with_reducible assumption) (by walk_at "lk")
  | exact Ne.symm (ne_new (by with_reducible assumption) (by walk_at "lk"))
  | exact Urn.ne_new (by with_reducible assumption) (by walk_at "ur")
  | exact Ne.symm (Urn.ne_new (by with_reducible assumption) (by walk_at "ur")))
local macro_rules | `(tactic| walk_at "ur") => `(tactic| first
  | with_reducible assumption
  | exact Urn.ex (by with_reducible assumption) (by walk_at "ur")
  | exact Urn.but (by with_reducible assumption) (by walk_at "ne") (by walk_at "ur"))
local macro_rules | `(tactic| walk_at "dp") => `(tactic| first
  | with_reducible exact Dp.str _
  | with_reducible exact Dp.int _
  | with_reducible exact Dp.bl _
  | with_reducible exact Dp.non
  | with_reducible assumption
  | ((with_reducible refine' Dp.lst (SqL.of ?h0) ?h1); (case h0 => walk_at "lk"); (case h1 => walk_at "da"))
  | ((with_reducible refine' Dp.tup (SqT.of ?h0) ?h1); (case h0 => walk_at "lk"); (case h1 => walk_at "da"))
  | exact Dp.int _
  | exact Dp.str _)
local macro_rules | `(tactic| walk_at "da") => `(tactic| first
  | exact DpAll.nil
  | ((with_reducible refine' DpAll.cons ?h0 ?h1); (case h0 => walk_at "dp"); (case h1 => walk_at "da"))
  | with_reducible assumption)
local macro_rules | `(tactic| walk_at "ex") => `(tactic| first
  | with_reducible assumption
  | exact Ex.refl _
  | (refine Ex.trans ?_ (by with_reducible assumption); walk_at "ex"))
local macro_rules | `(tactic| walk_at "at") => `(tactic| first
  | with_reducible assumption
  | exact rfl
  | exact atI_nat (by with_reducible assumption)
  | exact atI_last _ _)
local macro_rules | `(tactic| walk_at "s") => `(tactic| first
  | ((with_reducible refine' norm ?h0 ?_); (case h0 => (dsimp only [List.set_cons_zero, List.set_cons_succ] <;> exact rfl)))
  | ((with_reducible refine' var_ ?h0 ?_); (case h0 => exact rfl))
  | ((with_reducible refine' c_ ?_))
  | ((with_reducible refine' op_ ?_))
  | ((with_reducible refine' cons_ ?_))
  | ((with_reducible refine' nil_ ?_))
  | ((with_reducible refine' seq_asg ?_))
  | ((with_reducible refine' asg_ ?_))
  | ((with_reducible refine' ret_ ?_))
  | ((with_reducible refine' cb_ ?_))
  | ((with_reducible refine' c1_ ?_))
  | ((with_reducible refine' addI ?_))
  | ((with_reducible refine' subI ?_))
  | ((with_reducible refine' addS ?h0 ?_); (case h0 => walk_at "sd"))
  | ((with_reducible refine' lenS ?h0 ?_); (case h0 => walk_at "sd"))
  | ((with_reducible refine' ixS ?h0 ?h1 ?_); (case h0 => walk_at "sd"); (case h1 => walk_at "at"))
  | ((with_reducible refine' ixL ?h0 ?h1 ?_); (case h0 => walk_at "lk"); (case h1 => walk_at "at"))
  | ((with_reducible refine' ixU ?h0 ?h1 ?_); (case h0 => walk_at "lk"); (case h1 => walk_at "at"))
  | ((with_reducible refine' ixSq ?h0 ?h1 ?_); (case h0 => assumption); (case h1 => walk_at "at"))
  | ((with_reducible refine' lenL ?h0 ?_); (case h0 => walk_at "lk"))
  | ((with_reducible refine' lenU ?h0 ?_); (case h0 => walk_at "lk"))
  | ((with_reducible refine' lenSq ?h0 ?_); (case h0 => assumption))
  | ((with_reducible refine' mulI ?h0 ?_); (case h0 => first | exact mul_ok1 (by omega) (by omega) | exact mul_ok2 (by omega) (by omega) | with_reducible assumption))
  | ((with_reducible refine' mulS ?h0 ?h1 ?h2 ?_); (case h0 => walk_at "sd"); (case h1 => walk_at "sd"); (case h2 => walk_at "sd"))
  | ((with_reducible refine' divI ?h0 ?h1 ?_); (case h0 => walk_at "sd"); (case h1 => walk_at "sd"))
  | ((with_reducible refine' modI ?h0 ?_); (case h0 => walk_at "sd"))
  | ((with_reducible refine' powI ?h0 ?_); (case h0 => first | with_reducible assumption | exact pow_ok (by decide)))
  | ((with_reducible refine' test_ ?_))
  | ((with_reducible refine' zb_ ?_))
  | ((with_reducible refine' tb_ ?_))
  | ((with_reducible refine' ltI ?_))
  | ((with_reducible refine' leI ?_))
  | ((with_reducible refine' gtI ?_))
  | ((with_reducible refine' geI ?_))
  | ((with_reducible refine' eqII ?_))
  | ((with_reducible refine' eqSS ?_))
  | ((with_reducible refine' neSS ?_))
  | ((with_reducible refine' eqI ?_))
  | ((with_reducible refine' eqS ?_))
  | ((with_reducible refine' neI ?_))
  | ((with_reducible refine' neS ?_))
  | ((with_reducible refine' orT_ ?_))
  | ((with_reducible refine' truth_ ?_))
  | ((with_reducible refine' ztru_b ?_))
  | ((with_reducible refine' ztru_S ?h0 ?_); (case h0 => walk_at "sd"))
  | ((with_reducible refine' inS ?_))
  | ((with_reducible refine' niS ?_))
  | ((with_reducible refine' seq_if ?_))
  | ((with_reducible refine' if_ ?_))
  | ((with_reducible refine' zif_t ?_))
  | ((with_reducible refine' zif_f ?_))
  | ((with_reducible refine' zif_nT ?_))
  | ((with_reducible refine' zif_nF ?_))
  | ((with_reducible refine' zif_dt ?h0 ?_); (case h0 => walk_at "sd"))
  | ((with_reducible refine' zif_df ?h0 ?_); (case h0 => walk_at "sd"))
  | ((with_reducible refine' zif_nt ?h0 ?_); (case h0 => walk_at "sd"))
  | ((with_reducible refine' zif_nf ?h0 ?_); (case h0 => walk_at "sd"))
  | ((with_reducible refine' not_ ?_))
  | ((with_reducible refine' and_ ?_))
  | ((with_reducible refine' or_ ?_))
  | ((with_reducible refine' tup_ ?_))
  | ((with_reducible refine' lst_ ?_))
  | ((with_reducible refine' ztup_ ?h0 (fun p H' hn he hp => ?_)); (case h0 => walk_at "sd"))
  | ((with_reducible refine' zlst_ ?h0 (fun p H' hn he hp => ?_)); (case h0 => walk_at "sd"))
  | ((with_reducible refine' addL ?h0 ?h1 ?h2 (fun p H' hn he hp => ?_)); (case h0 => walk_at "lk"); (case h1 => walk_at "lk"); (case h2 => walk_at "sd"))
  | ((with_reducible refine' un_ ?_))
  | ((with_reducible refine' negI ?_))
  | ((with_reducible refine' sl_ ?_))
  | ((with_reducible refine' nopart_ ?_))
  | ((with_reducible refine' part_ ?_))
  | ((with_reducible refine' zpart_ ?_))
  | ((with_reducible refine' slS ?h0 ?_); (case h0 => walk_at "sd"))
  | ((with_reducible refine' slL ?h0 (fun p H' hn he hp => ?_)); (case h0 => walk_at "lk"))
  | ((with_reducible refine' seq_asgG ?_))
  | ((with_reducible refine' asgG_ ?_))
  | ((with_reducible refine' gtup_ ?h0 ?h1 ?_); (case h0 => walk_at "lk"); (case h1 => rfl))
  | ((with_reducible refine' gcons_ ?_))
  | ((with_reducible refine' gname_ ?_))
  | ((with_reducible refine' gnil_ ?_))
  | ((with_reducible refine' gsub_ ?_))
  | ((with_reducible refine' setL_ ?h0 ?h1 (fun H' hp hb => ?_)); (case h0 => walk_at "lk"); (case h1 => first | rfl | assumption))
  | ((with_reducible refine' seq_par ?_))
  | ((with_reducible refine' par_ ?_))
  | ((with_reducible refine' zpar_ ?_))
  | ((with_reducible refine' seq_aug ?h0 ?_); (case h0 => exact rfl))
  | ((with_reducible refine' aug_ ?h0 ?_); (case h0 => exact rfl))
  | ((with_reducible refine' augS_ ?_))
  | ((with_reducible refine' getL_ ?h0 ?h1 ?_); (case h0 => walk_at "lk"); (case h1 => walk_at "at"))
  | ((with_reducible refine' iaddI ?_))
  | ((with_reducible refine' iaddS ?h0 ?_); (case h0 => walk_at "sd"))
  | ((with_reducible refine' isubI ?_))
  | ((with_reducible refine' imulI ?h0 ?h1 ?_); (case h0 => walk_at "sd"); (case h1 => walk_at "sd"))
  | ((with_reducible refine' idivI ?h0 ?h1 ?_); (case h0 => walk_at "sd"); (case h1 => walk_at "sd"))
  | ((with_reducible refine' seq_drop ?_))
  | ((with_reducible refine' drop_ ?_))
  | ((with_reducible refine' bm_ ?_))
  | ((with_reducible refine' zbmL_ ?h0 ?_); (case h0 => walk_at "lk"))
  | ((with_reducible refine' append_ ?h0 ?h1 (fun H' hp hb => ?_)); (case h0 => walk_at "lk"); (case h1 => walk_at "sd"))
  | ((with_reducible refine' fld_ ?_))
  | ((with_reducible refine' zfld_ ?h0 ?h1 ?h2 ?h3 ?_); (case h0 => walk_at "lk"); (case h1 => assumption); (case h2 => assumption); (case h3 => exact rfl))
  | ((with_reducible refine' seq_fld ?_))
  | ((with_reducible refine' fldS_ ?_))
  | ((with_reducible refine' zset_ ?h0 ?h1 ?h2 ?h3 ?h4 (fun H' hp hb => ?_)); (case h0 => walk_at "lk"); (case h1 => assumption); (case h2 => assumption); (case h3 => decide); (case h4 => exact rfl))
  | ((with_reducible refine' ck_ ?_))
  | ((with_reducible refine' zck_ ?h0 ?h1 ?h2 ?_); (case h0 => rfl); (case h1 => rfl); (case h2 => (dsimp only [List.cons_append, List.nil_append, List.append_nil] <;> exact rfl)))
  | ((with_reducible refine' mk_ ?_))
  | ((with_reducible refine' zmeth_ ?h0 ?h1 ?_); (case h0 => walk_at "lk"); (case h1 => exact rfl))
  | ((with_reducible refine' kk_ ?_))
  | ((with_reducible refine' zkk_ ?h0 ?h1 (fun x dx H' nx ndx ne he hx => ?_)); (case h0 => rfl); (case h1 => rfl))
  | ((with_reducible refine' zsp_ ?h0 ?_); (case h0 => (dsimp only [List.cons_append, List.nil_append, List.append_nil] <;> exact rfl)))
  | ((with_reducible refine' extend_ ?h0 ?h1 ?h2 (fun H' hp hb => ?_)); (case h0 => walk_at "lk"); (case h1 => walk_at "lk"); (case h2 => walk_at "sd"))
  | ((with_reducible refine' m1_ ?_))
  | ((with_reducible refine' zm1_ ?_))
  | ((with_reducible refine' count_ ?_))
  | ((with_reducible refine' strI_ ?h0 ?h1 ?_); (case h0 => walk_at "sd"); (case h1 => walk_at "sd"))
  | ((with_reducible refine' divmod_ ?h0 ?h1 (fun p H' hn he hp => ?_)); (case h0 => walk_at "sd"); (case h1 => walk_at "sd"))
  | ((with_reducible refine' abs_ ?_))
  | ((with_reducible refine' min2_ ?_))
  | ((with_reducible refine' max2_ ?_))
  | ((with_reducible refine' seq_for ?_))
  | ((with_reducible refine' for_ ?_))
  | ((with_reducible refine' ilist_ ?_))
  | ((with_reducible refine' zlist_ ?h0 ?_); (case h0 => walk_at "lk"))
  | ((with_reducible refine' zlistQ_ ?h0 ?_); (case h0 => assumption))
  | ((with_reducible refine' istr_ ?_))
  | ((with_reducible refine' zstr_ ?_))
  | ((with_reducible refine' irng1_ ?_))
  | ((with_reducible refine' irng2_ ?_))
  | ((with_reducible refine' zrng1_ ?h0 ?h1 ?_); (case h0 => walk_at "sd"); (case h1 => walk_at "sd"))
  | ((with_reducible refine' zrng2_ ?h0 ?h1 ?h2 ?h3 ?_); (case h0 => walk_at "sd"); (case h1 => walk_at "sd"); (case h2 => walk_at "sd"); (case h3 => walk_at "sd"))
  | ((with_reducible refine' ient_ ?_))
  | ((with_reducible refine' zent_ ?_))
  | ((with_reducible refine' revS_ ?_))
  | ((with_reducible refine' zrevS_ ?h0 ?_); (case h0 => walk_at "sd"))
  | ((with_reducible refine' intI_ ?_))
  | ((with_reducible refine' intB_ ?_))
  | ((with_reducible refine' intS_ ?h0 ?_); (case h0 => assumption))
  | ((with_reducible refine' seq_par3 ?_))
  | ((with_reducible refine' par3_ ?_))
  | ((with_reducible refine' zpar3_ ?_))
  | ((with_reducible refine' isSS_ ?_))
  | ((with_reducible refine' ientK_ ?_))
  | ((with_reducible refine' zenK_ ?h0 ?h1 ?_); (case h0 => walk_at "sd"); (case h1 => walk_at "sd"))
  | ((with_reducible refine' lc_ ?_))
  | ((with_reducible refine' tyes_ ?_))
  | ((with_reducible refine' zput_t ?_))
  | ((with_reducible refine' ifE_ ?_))
  | ((with_reducible refine' andV_ ?_))
  | ((with_reducible refine' zandv_t ?_))
  | ((with_reducible refine' zandv_f ?_))
  | ((with_reducible refine' zorv_t ?_))
  | ((with_reducible refine' zorv_f ?_))
  | ((with_reducible refine' zand_t ?_))
  | ((with_reducible refine' zand_f ?_))
  | ((with_reducible refine' zor_t ?_))
  | ((with_reducible refine' zor_f ?_))
  | ((with_reducible refine' orV_ ?_))
  | ((with_reducible refine' next_ ?_))
  | ((with_reducible refine' nx_ ?h0 ?_); (case h0 => (dsimp only <;> exact rfl)))
  | ((with_reducible refine' rt_ ?h0 ?_); (case h0 => (dsimp only <;> exact rfl)))
  | ((with_reducible refine' brk_ ?_))
  | ((with_reducible refine' cont_ ?_))
  | ((with_reducible refine' bk_ ?h0 ?_); (case h0 => (dsimp only <;> exact rfl)))
  | ((with_reducible refine' ct_ ?h0 ?_); (case h0 => (dsimp only <;> exact rfl)))
  | ((with_reducible refine' seq_ ?_)))
local macro_rules | `(tactic| walk_at "go") => `(tactic| repeat (walk_at "s"))
set_option maxHeartbeats 4000000 in
theorem ok_runs_of {f : Addr} {fd : FuncData} {dV kV : Value} (g : G mg)
    (F : Txt K "runs_of" "runs_of" (defArgs st_runs_of) (defBody st_runs_of) (defScope st_runs_of) dV kV f fd) :
    FnG P w K mg base 1 f fd ["bits"] (sp_runs_of) := by
  refine z_fn F sc_runs_of (fun vs H Q E h => by
    obtain ⟨l, rfl, h1, k⟩ := h
    rfl) (fun cd A outer s H vs Q E hr ng h => ?_)
  obtain ⟨l, rfl, h1, k⟩ := h
  refine ⟨_, [_, none, none, none], rfl, (pss_cons (ps_set (i := 1) sc_runs_of.nd rfl (Or.inl rfl) (pe_lst pa_nil))
      (pss_cons (ps_set (i := 2) sc_runs_of.nd rfl (Or.inl rfl) (z_str lit_0))
      (pss_cons (ps_for (passes_of rfl) rfl (pi_str (pv 0)) (pg_name (i := 3) sc_runs_of.nd rfl (Or.inl rfl)) (pss_cons (ps_if (pt_cmpR (z_eq hr.units) (pv 3) (pv 2) (nomark _)) (pss_one (ps_augS (pv 1) (pe_un un_neg pe_int) get_list pe_int z_iadd set_list)) (pss_one (ps_expr (pe_bm PySem.F.plainAttrs_list PySem.F.slot_list_append PySem.F.type_list_append mt_append (pv 1) (pa_cons pe_int pa_nil)))))
      (pss_one (ps_set (i := 2) sc_runs_of.nd rfl (Or.inl rfl) (pv 3)))))
      (pss_one (ps_ret (pv 1)))))), ?_⟩
  walk_at "go"
  rename_i p H1 hn he hp
  refine forT (fun i σ H' => ∃ v : Option V, σ = [some (T l), some (.ref p), some (T (rsAll (l.take i)).2), v] ∧ Ex H H' ∧ H' p = some (.lst ((rsAll (l.take i)).1.map fun n => V.int (n : Nat)))) ⟨none, rfl, he, hp⟩ ?_ ?_
  · rintro i c σ H2 hc ⟨v, rfl, ex, hp2⟩
    have hi : i < l.length := (List.getElem?_eq_some_iff.mp hc).1
    have hl := rsAll_len l i (by omega)
    walk_at "go"
    refine zif_d (fun hq => ?_) (fun hq => ?_)
    · have hi0 : 0 < i := by
        rcases Nat.eq_zero_or_pos i with z | z
        · subst z; simp [rsAll] at hq
        · exact z
      have hlen := hl.2 hi0
      generalize ea : rsAll (l.take i) = s at *
      have hat : atI (s.1.map fun n => V.int (n : Nat)) (-1) = some (V.int ((s.1.getD (s.1.length - 1) 0 : Nat) : Int)) := by
        unfold atI ixN
        simp only [List.length_map]
        rw [if_neg (by omega), if_pos (by omega)]
        have e : ((-1 : Int) + (s.1.length : Int)).toNat = s.1.length - 1 := by omega
        rw [e]
        show (s.1.map fun n => V.int (n : Nat))[s.1.length - 1]? = _
        rw [List.getElem?_map, List.getD_eq_getElem?_getD, List.getElem?_eq_getElem (by omega)]
        rfl
      have hix : ixN (s.1.map fun n => V.int (n : Nat)).length (-1) = some (s.1.length - 1) := by
        unfold ixN
        simp only [List.length_map]
        rw [if_neg (by omega), if_pos (by omega)]
        congr 1
        omega
      walk_at "go"
      rename_i H3 hp3 hb
      have er : rsAll (l.take (i + 1)) = (bump s.1, [c]) := by rw [rsAll_take hc, ea]; unfold rs; rw [if_pos hq]
      refine ⟨_, by rw [er], But.ex hb ex hn, ?_⟩
      rw [hp3, er]
      unfold bump
      rw [List.map_set]
      rfl
    · walk_at "go"
      rename_i H3 hp3 hb
      have er : rsAll (l.take (i + 1)) = ((rsAll (l.take i)).1 ++ [1], [c]) := by rw [rsAll_take hc]; unfold rs; rw [if_neg hq]
      refine ⟨_, by rw [er], But.ex hb ex hn, ?_⟩
      rw [hp3, er, List.map_append]
      rfl
  · rintro σ H2 ⟨v, rfl, ex, hp2⟩
    walk_at "go"
    rw [List.take_length] at hp2
    exact k _ _ hn ex hp2
end
end My
namespace My
open PySem PySem.Spec PyProof.Rows L2 Z
section
variable {P : Program} {w : World} {K : PySem.W.Frag} {mg : Str → Option Value} {base : Heap}
/-! the steps by name -/
local macro_rules | `(tactic| walk_at "sd") => `(tactic| first
  | with_reducible assumption
  | omega
  | (simp only [List.length_append, List.length_cons, List.length_nil, List.length_replicate, rep_len, List.length_map, List.length_set]; omega)
  | decide)
local macro_rules | `(tactic| walk_at "lk") => `(tactic| first
  | with_reducible assumption
  | exact Ex.at_ (by with_reducible assumption) (by walk_at "lk")
  | exact But.at_ (by with_reducible assumption) (by walk_at "ne") (by walk_at "lk"))
local macro_rules | `(tactic| walk_at "ne") => `(tactic| first
  | with_reducible assumption
  | exact Ne.symm (by with_reducible assumption)
  | exact ne_new (by with_reducible assumption) (by walk_at "lk")
  | exact Ne.symm (ne_new (by with_reducible assumption) (by walk_at "lk"))
  | exact Urn.ne_new (by with_reducible assumption) (by walk_at "ur")
  | exact Ne.symm (Urn.ne_new (by with_reducible assumption) (by walk_at "ur")))
local macro_rules | `(tactic| walk_at "ur") => `(tactic| first
  | with_reducible assumption
  | exact Urn.ex (by with_reducible assumption) (by walk_at "ur")
  | exact Urn.but (by with_reducible assumption) (by walk_at "ne") (by walk_at "ur"))
local macro_rules | `(tactic| walk_at "dp") => `(tactic| first
  | with_reducible exact Dp.str _
  | with_reducible exact Dp.int _
  | with_reducible exact Dp.bl _
  | with_reducible exact Dp.non
  | with_reducible assumption
  | ((with_reducible refine' Dp.lst (SqL.of ?h0) ?h1); (case h0 => walk_at "lk"); (case h1 => walk_at "da"))
  | ((with_reducible refine' Dp.tup (SqT.of ?h0) ?h1); (case h0 => walk_at "lk"); (case h1 => walk_at "da"))
  | exact Dp.int _
  | exact Dp.str _)
local macro_rules | `(tactic| walk_at "da") => `(tactic| first
  | exact DpAll.nil
  | ((with_reducible refine' DpAll.cons ?h0 ?h1); (case h0 => walk_at "dp"); (case h1 => walk_at "da"))
  | with_reducible assumption)
local macro_rules | `(tactic| walk_at "ex") => `(tactic| first
  | with_reducible assumption
  | exact Ex.refl _
  | (refine Ex.trans ?_ (by with_reducible assumption); walk_at "ex"))
local macro_rules | `(tactic| walk_at "at") => `(tactic| first
  | with_reducible assumption
  | exact rfl
  | exact atI_nat (by with_reducible assumption)
  | exact atI_last _ _)
local macro_rules | `(tactic| walk_at "s") => `(tactic| first
  | ((with_reducible refine' call_number_code ?h0 ?h1 (fun H' he => ?_)); (case h0 => walk_at "sd"); (case h1 => walk_at "sd"))
  | ((with_reducible refine' call_runs_of ?h0 (fun p H' hn he hp => ?_)); (case h0 => walk_at "sd"))
  | ((with_reducible refine' norm ?h0 ?_); (case h0 => (dsimp only [List.set_cons_zero, List.set_cons_succ] <;> exact rfl)))
  | ((with_reducible refine' var_ ?h0 ?_); (case h0 => exact rfl))
  | ((with_reducible refine' c_ ?_))
  | ((with_reducible refine' op_ ?_))
  | ((with_reducible refine' cons_ ?_))
  | ((with_reducible refine' nil_ ?_))
  | ((with_reducible refine' seq_asg ?_))
  | ((with_reducible refine' asg_ ?_))
  | ((with_reducible refine' ret_ ?_))
  | ((with_reducible refine' cb_ ?_))
  | ((with_reducible refine' c1_ ?_))
  | ((with_reducible refine' addI ?_))
  | ((with_reducible refine' subI ?_))
  | ((with_reducible refine' addS ?h0 ?_); (case h0 => walk_at "sd"))
  | ((with_reducible refine' lenS ?h0 ?_); (case h0 => walk_at "sd"))
  | ((with_reducible refine' ixS ?h0 ?h1 ?_); (case h0 => walk_at "sd"); (case h1 => walk_at "at"))
  | ((with_reducible refine' ixL ?h0 ?h1 ?_); (case h0 => walk_at "lk"); (case h1 => walk_at "at"))
  | ((with_reducible refine' ixU ?h0 ?h1 ?_); (case h0 => walk_at "lk"); (case h1 => walk_at "at"))
  | ((with_reducible refine' ixSq ?h0 ?h1 ?_); (case h0 => assumption); (case h1 => walk_at "at"))
  | ((with_reducible refine' lenL ?h0 ?_); (case h0 => walk_at "lk"))
  | ((with_reducible refine' lenU ?h0 ?_); (case h0 => walk_at "lk"))
  | ((with_reducible refine' lenSq ?h0 ?_); (case h0 => assumption))
  | ((with_reducible refine' mulI ?h0 ?_); (case h0 => first | exact mul_ok1 (by omega) (by omega) | exact mul_ok2 (by omega) (by omega) | with_reducible assumption))
  | ((with_reducible refine' mulS ?h0 ?h1 ?h2 ?_); (case h0 => walk_at "sd"); (case h1 => walk_at "sd"); (case h2 => walk_at "sd"))
  | ((with_reducible refine' divI ?h0 ?h1 ?_); (case h0 => walk_at "sd"); (case h1 => walk_at "sd"))
  | ((with_reducible refine' modI ?h0 ?_); (case h0 => walk_at "sd"))
  | ((with_reducible refine' powI ?h0 ?_); (case h0 => first | with_reducible assumption | exact pow_ok (by decide)))
  | ((with_reducible refine' test_ ?_))
  | ((with_reducible refine' zb_ ?_))
  | ((with_reducible refine' tb_ ?_))
  | ((with_reducible refine' ltI ?_))
  | ((with_reducible refine' leI ?_))
  | ((with_reducible refine' gtI ?_))
  | ((with_reducible refine' geI ?_))
  | ((with_reducible refine' eqII ?_))
  | ((with_reducible refine' eqSS ?_))
  | ((with_reducible refine' neSS ?_))
  | ((with_reducible refine' eqI ?_))
  | ((with_reducible refine' eqS ?_))
  | ((with_reducible refine' neI ?_))
  | ((with_reducible refine' neS ?_))
  | ((with_reducible refine' orT_ ?_))
  | ((with_reducible refine' truth_ ?_))
  | ((with_reducible refine' ztru_b ?_))
  | ((with_reducible refine' ztru_S ?h0 ?_); (case h0 => walk_at "sd"))
  | ((with_reducible refine' inS ?_))
  | ((with_reducible refine' niS ?_))
  | ((with_reducible refine' seq_if ?_))
  | ((with_reducible refine' if_ ?_))
  | ((with_reducible refine' zif_t ?_))
  | ((with_reducible refine' zif_f ?_))
  | ((with_reducible refine' zif_nT ?_))
  | ((with_reducible refine' zif_nF ?_))
  | ((with_reducible refine' zif_dt ?h0 ?_); (case h0 => walk_at "sd"))
  | ((with_reducible refine' zif_df ?h0 ?_); (case h0 => walk_at "sd"))
  | ((with_reducible refine' zif_nt ?h0 ?_); (case h0 => walk_at "sd"))
  | ((with_reducible refine' zif_nf ?h0 ?_); (case h0 => walk_at "sd"))
  | ((with_reducible refine' not_ ?_))
  | ((with_reducible refine' and_ ?_))
  | ((with_reducible refine' or_ ?_))
  | ((with_reducible refine' tup_ ?_))
  | ((with_reducible refine' lst_ ?_))
  | ((with_reducible refine' ztup_ ?h0 (fun p H' hn he hp => ?_)); (case h0 => walk_at "sd"))
  | ((with_reducible refine' zlst_ ?h0 (fun p H' hn he hp => ?_)); (case h0 => walk_at "sd"))
  | ((with_reducible refine' addL ?h0 ?h1 ?h2 (fun p H' hn he hp => ?_)); (case h0 => walk_at "lk"); (case h1 => walk_at "lk"); (case h2 => walk_at "sd"))
  | ((with_reducible refine' un_ ?_))
  | ((with_reducible refine' negI ?_))
  | ((with_reducible refine' sl_ ?_))
  | ((with_reducible refine' nopart_ ?_))
  | ((with_reducible refine' part_ ?_))
  | ((with_reducible refine' zpart_ ?_))
  | ((with_reducible refine' slS ?h0 ?_); (case h0 => walk_at "sd"))
  | ((with_reducible refine' slL ?h0 (fun p H' hn he hp => ?_)); (case h0 => walk_at "lk"))
  | ((with_reducible refine' seq_asgG ?_))
  | ((with_reducible refine' asgG_ ?_))
  | ((with_reducible refine' gtup_ ?h0 ?h1 ?_); (case h0 => walk_at "lk"); (case h1 => rfl))
  | ((with_reducible refine' gcons_ ?_))
  | ((with_reducible refine' gname_ ?_))
  | ((with_reducible refine' gnil_ ?_))
  | ((with_reducible refine' gsub_ ?_))
  | ((with_reducible refine' setL_ ?h0 ?h1 (fun H' hp hb => ?_)); (case h0 => walk_at "lk"); (case h1 => first | rfl | assumption))
  | ((with_reducible refine' seq_par ?_))
  | ((with_reducible refine' par_ ?_))
  | ((with_reducible refine' zpar_ ?_))
  | ((with_reducible refine' seq_aug ?h0 ?_); (case h0 => exact rfl))
  | ((with_reducible refine' aug_ ?h0 ?_); (case h0 => exact rfl))
  | ((with_reducible refine' augS_ ?_))
  | ((with_reducible refine' getL_ ?h0 ?h1 ?_); (case h0 => walk_at "lk"); (case h1 => walk_at "at"))
  | ((with_reducible refine' iaddI ?_))
  | ((with_reducible refine' iaddS ?h0 ?_); (case h0 => walk_at "sd"))
  | ((with_reducible refine' isubI ?_))
  | ((with_reducible refine' imulI ?h0 ?h1 ?_); (case h0 => walk_at "sd"); (case h1 => walk_at "sd"))
  | ((with_reducible refine' idivI ?h0 ?h1 ?_); (case h0 => walk_at "sd"); (case h1 => walk_at "sd"))
  | ((with_reducible refine' seq_drop ?_))
  | ((with_reducible refine' drop_ ?_))
  | ((with_reducible refine' bm_ ?_))
  | ((with_reducible refine' zbmL_ ?h0 ?_); (case h0 => walk_at "lk"))
  | ((with_reducible refine' append_ ?h0 ?h1 (fun H' hp hb => ?_)); (case h0 => walk_at "lk"); (case h1 => walk_at "sd"))
  | ((with_reducible refine' fld_ ?_))
  | ((with_reducible refine' zfld_ ?h0 ?h1 ?h2 ?h3 ?_); (case h0 => walk_at "lk"); (case h1 => assumption); (case h2 => assumption); (case h3 => exact rfl))
  | ((with_reducible refine' seq_fld ?_))
  | ((with_reducible refine' fldS_ ?_))
  | ((with_reducible refine' zset_ ?h0 ?h1 ?h2 ?h3 ?h4 (fun H' hp hb => ?_)); (case h0 => walk_at "lk"); (case h1 => assumption); (case h2 => assumption); (case h3 => decide); (case h4 => exact rfl))
  | ((with_reducible refine' ck_ ?_))
  | ((with_reducible refine' zck_ ?h0 ?h1 ?h2 ?_); (case h0 => rfl); (case h1 => rfl); (case h2 => (dsimp only [List.cons_append, List.nil_append, List.append_nil] <;> exact rfl)))
  | ((with_reducible refine' mk_ ?_))
  | ((with_reducible refine' zmeth_ ?h0 ?h1 ?_); (case h0 => walk_at "lk"); (case h1 => exact rfl))
  | ((with_reducible refine' kk_ ?_))
  | ((with_reducible refine' zkk_ ?h0 ?h1 (fun x dx H' nx ndx ne he hx => ?_)); (case h0 => rfl); (case h1 => rfl))
  | ((with_reducible refine' zsp_ ?h0 ?_); (case h0 => (dsimp only [List.cons_append, List.nil_append, List.append_nil] <;> exact rfl)))
  | ((with_reducible refine' extend_ ?h0 ?h1 ?h2 (fun H' hp hb => ?_)); (case h0 => walk_at "lk"); (case h1 => walk_at "lk"); (case h2 => walk_at "sd"))
  | ((with_reducible refine' m1_ ?_))
  | ((with_reducible refine' zm1_ ?_))
  | ((with_reducible refine' count_ ?_))
  | ((with_reducible refine' strI_ ?h0 ?h1 ?_); (case h0 => walk_at "sd"); (case h1 => walk_at "sd"))
  | ((with_reducible refine' divmod_ ?h0 ?h1 (fun p H' hn he hp => ?_)); (case h0 => walk_at "sd"); (case h1 => walk_at "sd"))
  | ((with_reducible refine' abs_ ?_))
  | ((with_reducible refine' min2_ ?_))
  | ((with_reducible refine' max2_ ?_))
  | ((with_reducible refine' seq_for ?_))
  | ((with_reducible refine' for_ ?_))
  | ((with_reducible refine' ilist_ ?_))
  | ((with_reducible refine' zlist_ ?h0 ?_); (case h0 => walk_at "lk"))
  | ((with_reducible refine' zlistQ_ ?h0 ?_); (case h0 => assumption))
  | ((with_reducible refine' istr_ ?_))
  | ((with_reducible refine' zstr_ ?_))
  | ((with_reducible refine' irng1_ ?_))
  | ((with_reducible refine' irng2_ ?_))
  | ((with_reducible refine' zrng1_ ?h0 ?h1 ?_); (case h0 => walk_at "sd"); (case h1 => walk_at "sd"))
  | ((with_reducible refine' zrng2_ ?h0 ?h1 ?h2 ?h3 ?_); (case h0 => walk_at "sd"); (case h1 => walk_at "sd"); (case h2 => walk_at "sd"); (case h3 => walk_at "sd"))
  | ((with_reducible refine' ient_ ?_))
  | ((with_reducible refine' zent_ ?_))
  | ((with_reducible refine' revS_ ?_))
  | ((with_reducible refine' zrevS_ ?h0 ?_); (case h0 => walk_at "sd"))
  | ((with_reducible refine' intI_ ?_))
  | ((with_reducible refine' intB_ ?_))
  | ((with_reducible refine' intS_ ?h0 ?_); (case h0 => assumption))
  | ((with_reducible refine' seq_par3 ?_))
  | ((with_reducible refine' par3_ ?_))
  | ((with_reducible refine' zpar3_ ?_))
  | ((with_reducible refine' isSS_ ?_))
  | ((with_reducible refine' ientK_ ?_))
  | ((with_reducible refine' zenK_ ?h0 ?h1 ?_); (case h0 => walk_at "sd"); (case h1 => walk_at "sd"))
  | ((with_reducible refine' lc_ ?_))
  | ((with_reducible refine' tyes_ ?_))
  | ((with_reducible refine' zput_t ?_))
  | ((with_reducible refine' ifE_ ?_))
  | ((with_reducible refine' andV_ ?_))
  | ((with_reducible refine' zandv_t ?_))
  | ((with_reducible refine' zandv_f ?_))
  | ((with_reducible refine' zorv_t ?_))
  | ((with_reducible refine' zorv_f ?_))
  | ((with_reducible refine' zand_t ?_))
  | ((with_reducible refine' zand_f ?_))
  | ((with_reducible refine' zor_t ?_))
  | ((with_reducible refine' zor_f ?_))
  | ((with_reducible refine' orV_ ?_))
  | ((with_reducible refine' next_ ?_))
  | ((with_reducible refine' nx_ ?h0 ?_); (case h0 => (dsimp only <;> exact rfl)))
  | ((with_reducible refine' rt_ ?h0 ?_); (case h0 => (dsimp only <;> exact rfl)))
  | ((with_reducible refine' brk_ ?_))
  | ((with_reducible refine' cont_ ?_))
  | ((with_reducible refine' bk_ ?h0 ?_); (case h0 => (dsimp only <;> exact rfl)))
  | ((with_reducible refine' ct_ ?h0 ?_); (case h0 => (dsimp only <;> exact rfl)))
  | ((with_reducible refine' seq_ ?_)))
local macro_rules | `(tactic| walk_at "go") => `(tactic| repeat (walk_at "s"))
set_option maxHeartbeats 4000000 in
theorem ok_code_runs {f : Addr} {fd : FuncData} {dV kV : Value} (g : G mg)
    (F : Txt K "code_runs" "code_runs" (defArgs st_code_runs) (defBody st_code_runs) (defScope st_code_runs) dV kV f fd)
    (D_number_code : Def P w K mg base 2 "number_code" [] (sp_number_code))
    (D_runs_of : Def P w K mg base 1 "runs_of" [] (sp_runs_of)) :
    FnG P w K mg base 3 f fd ["bits"] (sp_code_runs) := by
  refine z_fn F sc_code_runs (fun vs H Q E h => by
    obtain ⟨l, rfl, h0, h1, k⟩ := h
    rfl) (fun cd A outer s H vs Q E hr ng h => ?_)
  obtain ⟨l, rfl, h0, h1, k⟩ := h
  refine ⟨_, [_, none, none], rfl, (pss_cons (ps_set (i := 1) sc_code_runs.nd rfl (Or.inl rfl) (pe_ix z_ix (pv 0) pe_int (fun _ _ => rfl)))
      (pss_one (ps_ret (pe_op z_add (pe_op z_add (z_str lit_3) (pv 1)) (z_join (z_str lit_0) (pe_lc (own := [("many", 2)]) (by rfl) sc_code_runs.nd (pi_list (pe_f D_runs_of (hr.mono (by decide)) ng (by rfl) tk0 (pa_cons (pv 0) pa_nil))) (blkOk_by (own := [("many", 2)]) (N := nm_code_runs) (sc := defScope st_code_runs) (by decide +kernel)) (fun _ _ _ _ _ => (pg_name (i := 2) sc_code_runs.nd rfl (Or.inl rfl))) (fun _ _ _ _ _ => pts_nil) (fun _ _ _ _ _ => (pe_f D_number_code (hr.mono (by decide)) ng (by rfl) tk0 (pa_cons (pv 2) pa_nil))))))))), ?_⟩
  have hat : atI l 0 = some (l.getD 0 48) := by
    refine atI_nat (j := 0) ?_
    rw [List.getD_eq_getElem?_getD, List.getElem?_eq_getElem h0]
    rfl
  have hr := runs_len l
  have hz : ∀ n ∈ runs l, (ncode n).length ≤ 20 := fun n hn => ncode_len (k := 10) (by have := runs_le l n hn; omega)
  have hf := flat_len hz
  walk_at "go"
  refine lcL (ys := (runs l).map fun n => T (ncode n)) (SqL.of (by assumption)) (by simp) (by simp; omega) (fun _ => rfl) ?_ ?_
  · intro D i x H1 hD hx m
    rw [List.getElem?_map] at hx
    obtain ⟨n, hn, rfl⟩ := Option.map_eq_some_iff.mp hx
    have hm : n ∈ runs l := List.mem_of_getElem? hn
    have h2 := runs_pos l n hm
    have h3 := runs_le l n hm
    walk_at "go"
    refine lm_put hD m (by assumption) ?_ (by simp; omega)
    rw [List.getElem?_map, hn, Int.toNat_natCast]
    rfl
  · intro D H1 hD ex hd
    have e : ((runs l).map fun n => T (ncode n)) = ((runs l).map ncode).map T := by rw [List.map_map]; rfl
    rw [e] at hd
    refine join_ hd (by rw [hf.2, List.length_nil]; omega) ?_
    rw [joinT_nil]
    walk_at "go"
    exact k _ (Ex.trans (by assumption) ex)
end
end My
namespace My
open PySem PySem.Spec PyProof.Rows L2 Z
section
variable {P : Program} {w : World} {K : PySem.W.Frag} {mg : Str → Option Value} {base : Heap}
/-! the steps by name -/
local macro_rules | `(tactic| walk_at "sd") => `(tactic| first
  | with_reducible assumption
  | omega
  | (simp only [List.length_append, List.length_cons, List.length_nil, List.length_replicate, rep_len, List.length_map, List.length_set]; omega)
  | decide)
local macro_rules | `(tactic| walk_at "lk") => `(tactic| first
  | with_reducible assumption
  | exact Ex.at_ (by with_reducible assumption) (by walk_at "lk")
  | exact But.at_ (by with_reducible assumption) (by walk_at "ne") (by walk_at "lk"))
local macro_rules | `(tactic| walk_at "ne") => `(tactic| first
  | with_reducible assumption
  | exact Ne.symm (by with_reducible assumption)
  | exact ne_new (by with_reducible assumption) (by walk_at "lk")
  | exact Ne.symm (ne_new (by with_reducible assumption) (by walk_at "lk"))
  | exact Urn.ne_new (by with_reducible assumption) (by walk_at "ur")
  | exact Ne.symm (Urn.ne_new (by with_reducible assumption) (by walk_at "ur")))
local macro_rules | `(tactic| walk_at "ur") => `(tactic| first
  | with_reducible assumption
  | exact Urn.ex (by with_reducible assumption) (by walk_at "ur")
  | exact Urn.but (by with_reducible assumption) (by walk_at "ne") (by walk_at "ur"))
local macro_rules | `(tactic| walk_at "dp") => `(tactic| first
  | with_reducible exact Dp.str _
  | with_reducible exact Dp.int _
  | with_reducible exact Dp.bl _
  | with_reducible exact Dp.non
  | with_reducible assumption
  | ((with_reducible refine' Dp.lst (SqL.of ?h0) ?h1); (case h0 => walk_at "lk"); (case h1 => walk_at "da"))
  | ((with_reducible refine' Dp.tup (SqT.of ?h0) ?h1); (case h0 => walk_at "lk"); (case h1 => walk_at "da"))
  | exact Dp.int _
  | exact Dp.str _)
local macro_rules | `(tactic| walk_at "da") => `(tactic| first
  | exact DpAll.nil
  | ((with_reducible refine' DpAll.cons ?h0 ?h1); (case h0 => walk_at "dp"); (case h1 => walk_at "da"))
  | with_reducible assumption)
local macro_rules | `(tactic| walk_at "ex") => `(tactic| first
  | with_reducible assumption
  | exact Ex.refl _
  | (refine Ex.trans ?_ (by with_reducible assumption); walk_at "ex"))
local macro_rules | `(tactic| walk_at "at") => `(tactic| first
  | with_reducible assumption
  | exact rfl
  | exact atI_nat (by with_reducible assumption)
  | exact atI_last _ _)
local macro_rules | `(tactic| walk_at "s") => `(tactic| first
  | ((with_reducible refine' call_code_plain ?h0 (fun H' he => ?_)); (case h0 => walk_at "sd"))
  | ((with_reducible refine' call_code_runs ?h0 ?h1 (fun H' he => ?_)); (case h0 => walk_at "sd"); (case h1 => walk_at "sd"))
  | ((with_reducible refine' norm ?h0 ?_); (case h0 => (dsimp only [List.set_cons_zero, List.set_cons_succ] <;> exact rfl)))
  | ((with_reducible refine' var_ ?h0 ?_); (case h0 => exact rfl))
  | ((with_reducible refine' c_ ?_))
  | ((with_reducible refine' op_ ?_))
  | ((with_reducible refine' cons_ ?_))
  | ((with_reducible refine' nil_ ?_))
  | ((with_reducible refine' seq_asg ?_))
  | ((with_reducible refine' asg_ ?_))
  | ((with_reducible refine' ret_ ?_))
  | ((with_reducible refine' cb_ ?_))
  | ((with_reducible refine' c1_ ?_))
  | ((with_reducible refine' addI ?_))
  | ((with_reducible refine' subI ?_))
  | ((with_reducible refine' addS ?h0 ?_); (case h0 => walk_at "sd"))
  | ((with_reducible refine' lenS ?h0 ?_); (case h0 => walk_at "sd"))
  | ((with_reducible refine' ixS ?h0 ?h1 ?_); (case h0 => walk_at "sd"); (case h1 => walk_at "at"))
  | ((with_reducible refine' ixL ?h0 ?h1 ?_); (case h0 => walk_at "lk"); (case h1 => walk_at "at"))
  | ((with_reducible refine' ixU ?h0 ?h1 ?_); (case h0 => walk_at "lk"); (case h1 => walk_at "at"))
  | ((with_reducible refine' ixSq ?h0 ?h1 ?_); (case h0 => assumption); (case h1 => walk_at "at"))
  | ((with_reducible refine' lenL ?h0 ?_); (case h0 => walk_at "lk"))
  | ((with_reducible refine' lenU ?h0 ?_); (case h0 => walk_at "lk"))
  | ((with_reducible refine' lenSq ?h0 ?_); (case h0 => assumption))
  | ((with_reducible refine' mulI ?h0 ?_); (case h0 => first | exact mul_ok1 (by omega) (by omega) | exact mul_ok2 (by omega) (by omega) | with_reducible assumption))
  | ((with_reducible refine' mulS ?h0 ?h1 ?h2 ?_); (case h0 => walk_at "sd"); (case h1 => walk_at "sd"); (case h2 => walk_at "sd"))
  | ((with_reducible refine' divI ?h0 ?h1 ?_); (case h0 => walk_at "sd"); (case h1 => walk_at "sd"))
  | ((with_reducible refine' modI ?h0 ?_); (case h0 => walk_at "sd"))
  | ((with_reducible refine' powI ?h0 ?_); (case h0 => first | with_reducible assumption | exact pow_ok (by decide)))
  | ((with_reducible refine' test_ ?_))
  | ((with_reducible refine' zb_ ?_))
  | ((with_reducible refine' tb_ ?_))
  | ((with_reducible refine' ltI ?_))
  | ((with_reducible refine' leI ?_))
  | ((with_reducible refine' gtI ?_))
  | ((with_reducible refine' geI ?_))
  | ((with_reducible refine' eqII ?_))
  | ((with_reducible refine' eqSS ?_))
  | ((with_reducible refine' neSS ?_))
  | ((with_reducible refine' eqI ?_))
  | ((with_reducible refine' eqS ?_))
  | ((with_reducible refine' neI ?_))
  | ((with_reducible refine' neS ?_))
  | ((with_reducible refine' orT_ ?_))
  | ((with_reducible refine' truth_ ?_))
  | ((with_reducible refine' ztru_b ?_))
  | ((with_reducible refine' ztru_S ?h0 ?_); (case h0 => walk_at "sd"))
  | ((with_reducible refine' inS ?_))
  | ((with_reducible refine' niS ?_))
  | ((with_reducible refine' seq_if ?_))
  | ((with_reducible refine' if_ ?_))
  | ((with_reducible refine' zif_t ?_))
  | ((with_reducible refine' zif_f ?_))
  | ((with_reducible refine' zif_nT ?_))
  | ((with_reducible refine' zif_nF ?_))
  | ((with_reducible refine' zif_dt ?h0 ?_); (case h0 => walk_at "sd"))
  | ((with_reducible refine' zif_df ?h0 ?_); (case h0 => walk_at "sd"))
  | ((with_reducible refine' zif_nt ?h0 ?_); (case h0 => walk_at "sd"))
  | ((with_reducible refine' zif_nf ?h0 ?_); (case h0 => walk_at "sd"))
  | ((with_reducible refine' not_ ?_))
  | ((with_reducible refine' and_ ?_))
  | ((with_reducible refine' or_ ?_))
  | ((with_reducible refine' tup_ ?_))
  | ((with_reducible refine' lst_ ?_))
  | ((with_reducible refine' ztup_ ?h0 (fun p H' hn he hp => ?_)); (case h0 => walk_at "sd"))
  | ((with_reducible refine' zlst_ ?h0 (fun p H' hn he hp => ?_)); (case h0 => walk_at "sd"))
  | ((with_reducible refine' addL ?h0 ?h1 ?h2 (fun p H' hn he hp => ?_)); (case h0 => walk_at "lk"); (case h1 => walk_at "lk"); (case h2 => walk_at "sd"))
  | ((with_reducible refine' un_ ?_))
  | ((with_reducible refine' negI ?_))
  | ((with_reducible refine' sl_ ?_))
  | ((with_reducible refine' nopart_ ?_))
  | ((with_reducible refine' part_ ?_))
  | ((with_reducible refine' zpart_ ?_))
  | ((with_reducible refine' slS ?h0 ?_); (case h0 => walk_at "sd"))
  | ((with_reducible refine' slL ?h0 (fun p H' hn he hp => ?_)); (case h0 => walk_at "lk"))
  | ((with_reducible refine' seq_asgG ?_))
  | ((with_reducible refine' asgG_ ?_))
  | ((with_reducible refine' gtup_ ?h0 ?h1 ?_); (case h0 => walk_at "lk"); (case h1 => rfl))
  | ((with_reducible refine' gcons_ ?_))
  | ((with_reducible refine' gname_ ?_))
  | ((with_reducible refine' gnil_ ?_))
  | ((with_reducible refine' gsub_ ?_))
  | ((with_reducible refine' setL_ ?h0 ?h1 (fun H' hp hb => ?_)); (case h0 => walk_at "lk"); (case h1 => first | rfl | assumption))
  | ((with_reducible refine' seq_par ?_))
  | ((with_reducible refine' par_ ?_))
  | ((with_reducible refine' zpar_ ?_))
  | ((with_reducible refine' seq_aug ?h0 ?_); (case h0 => exact rfl))
  | ((with_reducible refine' aug_ ?h0 ?_); (case h0 => exact rfl))
  | ((with_reducible refine' augS_ ?_))
  | ((with_reducible refine' getL_ ?h0 ?h1 ?_); (case h0 => walk_at "lk"); (case h1 => walk_at "at"))
  | ((with_reducible refine' iaddI ?_))
  | ((with_reducible refine' iaddS ?h0 ?_); (case h0 => walk_at "sd"))
  | ((with_reducible refine' isubI ?_))
  | ((with_reducible refine' imulI ?h0 ?h1 ?_); (case h0 => walk_at "sd"); (case h1 => walk_at "sd"))
  | ((with_reducible refine' idivI ?h0 ?h1 ?_); (case h0 => walk_at "sd"); (case h1 => walk_at "sd"))
  | ((with_reducible refine' seq_drop ?_))
  | ((with_reducible refine' drop_ ?_))
  | ((with_reducible refine' bm_ ?_))
  | ((with_reducible refine' zbmL_ ?h0 ?_); (case h0 => walk_at "lk"))
  | ((with_reducible refine' append_ ?h0 ?h1 (fun H' hp hb => ?_)); (case h0 => walk_at "lk"); (case h1 => walk_at "sd"))
  | ((with_reducible refine' fld_ ?_))
  | ((with_reducible refine' zfld_ ?h0 ?h1 ?h2 ?h3 ?_); (case h0 => walk_at "lk"); (case h1 => assumption); (case h2 => assumption); (case h3 => exact rfl))
  | ((with_reducible refine' seq_fld ?_))
  | ((with_reducible refine' fldS_ ?_))
  | ((with_reducible refine' zset_ ?h0 ?h1 ?h2 ?h3 ?h4 (fun H' hp hb => ?_)); (case h0 => walk_at "lk"); (case h1 => assumption); (case h2 => assumption); (case h3 => decide); (case h4 => exact rfl))
  | ((with_reducible refine' ck_ ?_))
  | ((with_reducible refine' zck_ ?h0 ?h1 ?h2 ?_); (case h0 => rfl); (case h1 => rfl); (case h2 => (dsimp only [List.cons_append, List.nil_append, List.append_nil] <;> exact rfl)))
  | ((with_reducible refine' mk_ ?_))
  | ((with_reducible refine' zmeth_ ?h0 ?h1 ?_); (case h0 => walk_at "lk"); (case h1 => exact rfl))
  | ((with_reducible refine' kk_ ?_))
  | ((with_reducible refine' zkk_ ?h0 ?h1 (fun x dx H' nx ndx ne he hx => ?_)); (case h0 => rfl); (case h1 => rfl))
  | ((with_reducible refine' zsp_ ?h0 ?_); (case h0 => (dsimp only [List.cons_append, List.nil_append, List.append_nil] <;> exact rfl)))
  | ((with_reducible refine' extend_ ?h0 ?h1 ?h2 (fun H' hp hb => ?_)); (case h0 => walk_at "lk"); (case h1 => walk_at "lk"); (case h2 => walk_at "sd"))
  | ((with_reducible refine' m1_ ?_))
  | ((with_reducible refine' zm1_ ?_))
  | ((with_reducible refine' count_ ?_))
  | ((with_reducible refine' strI_ ?h0 ?h1 ?_); (case h0 => walk_at "sd"); (case h1 => walk_at "sd"))
  | ((with_reducible refine' divmod_ ?h0 ?h1 (fun p H' hn he hp => ?_)); (case h0 => walk_at "sd"); (case h1 => walk_at "sd"))
  | ((with_reducible refine' abs_ ?_))
  | ((with_reducible refine' min2_ ?_))
  | ((with_reducible refine' max2_ ?_))
  | ((with_reducible refine' seq_for ?_))
  | ((with_reducible refine' for_ ?_))
  | ((with_reducible refine' ilist_ ?_))
  | ((with_reducible refine' zlist_ ?h0 ?_); (case h0 => walk_at "lk"))
  | ((with_reducible refine' zlistQ_ ?h0 ?_); (case h0 => assumption))
  | ((with_reducible refine' istr_ ?_))
  | ((with_reducible refine' zstr_ ?_))
  | ((with_reducible refine' irng1_ ?_))
  | ((with_reducible refine' irng2_ ?_))
  | ((with_reducible refine' zrng1_ ?h0 ?h1 ?_); (case h0 => walk_at "sd"); (case h1 => walk_at "sd"))
  | ((with_reducible refine' zrng2_ ?h0 ?h1 ?h2 ?h3 ?_); (case h0 => walk_at "sd"); (case h1 => walk_at "sd"); (case h2 => walk_at "sd"); (case h3 => walk_at "sd"))
  | ((with_reducible refine' ient_ ?_))
  | ((with_reducible refine' zent_ ?_))
  | ((with_reducible refine' revS_ ?_))
  | ((with_reducible refine' zrevS_ ?h0 ?_); (case h0 => walk_at "sd"))
  | ((with_reducible refine' intI_ ?_))
  | ((with_reducible refine' intB_ ?_))
  | ((with_reducible refine' intS_ ?h0 ?_); (case h0 => assumption))
  | ((with_reducible refine' seq_par3 ?_))
  | ((with_reducible refine' par3_ ?_))
  | ((with_reducible refine' zpar3_ ?_))
  | ((with_reducible refine' isSS_ ?_))
  | ((with_reducible refine' ientK_ ?_))
  | ((with_reducible refine' zenK_ ?h0 ?h1 ?_); (case h0 => walk_at "sd"); (case h1 => walk_at "sd"))
  | ((with_reducible refine' lc_ ?_))
  | ((with_reducible refine' tyes_ ?_))
  | ((with_reducible refine' zput_t ?_))
  | ((with_reducible refine' ifE_ ?_))
  | ((with_reducible refine' andV_ ?_))
  | ((with_reducible refine' zandv_t ?_))
  | ((with_reducible refine' zandv_f ?_))
  | ((with_reducible refine' zorv_t ?_))
  | ((with_reducible refine' zorv_f ?_))
  | ((with_reducible refine' zand_t ?_))
  | ((with_reducible refine' zand_f ?_))
  | ((with_reducible refine' zor_t ?_))
  | ((with_reducible refine' zor_f ?_))
  | ((with_reducible refine' orV_ ?_))
  | ((with_reducible refine' next_ ?_))
  | ((with_reducible refine' nx_ ?h0 ?_); (case h0 => (dsimp only <;> exact rfl)))
  | ((with_reducible refine' rt_ ?h0 ?_); (case h0 => (dsimp only <;> exact rfl)))
  | ((with_reducible refine' brk_ ?_))
  | ((with_reducible refine' cont_ ?_))
  | ((with_reducible refine' bk_ ?h0 ?_); (case h0 => (dsimp only <;> exact rfl)))
  | ((with_reducible refine' ct_ ?h0 ?_); (case h0 => (dsimp only <;> exact rfl)))
  | ((with_reducible refine' seq_ ?_)))
local macro_rules | `(tactic| walk_at "go") => `(tactic| repeat (walk_at "s"))
set_option maxHeartbeats 4000000 in
theorem ok_code_of {f : Addr} {fd : FuncData} {dV kV : Value} (g : G mg)
    (F : Txt K "code_of" "code_of" (defArgs st_code_of) (defBody st_code_of) (defScope st_code_of) dV kV f fd)
    (D_code_plain : Def P w K mg base 1 "code_plain" [] (sp_code_plain))
    (D_code_runs : Def P w K mg base 3 "code_runs" [] (sp_code_runs)) :
    FnG P w K mg base 4 f fd ["bits"] (sp_code_of) := by
  refine z_fn F sc_code_of (fun vs H Q E h => by
    obtain ⟨l, rfl, h0, h1, k⟩ := h
    rfl) (fun cd A outer s H vs Q E hr ng h => ?_)
  obtain ⟨l, rfl, h0, h1, k⟩ := h
  refine ⟨_, [_, none, none], rfl, (pss_cons (ps_par (i := 1) (j := 2) (by rfl) sc_code_of.nd rfl rfl (by decide) rfl rfl (pa_cons (pe_f D_code_plain (hr.mono (by decide)) ng (by rfl) tk0 (pa_cons (pv 0) pa_nil)) (pa_cons (pe_f D_code_runs (hr.mono (by decide)) ng (by rfl) tk0 (pa_cons (pv 0) pa_nil)) pa_nil)) (by rfl))
      (pss_one (ps_ret (pe_ifExp (pt_cmpR z_le (pe_callB z_len (by rfl) g.b_len (by decide +kernel) (pa_cons (pv 1) pa_nil)) (pe_callB z_len (by rfl) g.b_len (by decide +kernel) (pa_cons (pv 2) pa_nil)) (nomark _)) (pv 1) (pv 2))))), ?_⟩
  have hr := rcode_len h1
  walk_at "go"
  rename_i H1 e1 H2 e2
  refine zife_d (fun hq => ?_) (fun hq => ?_)
  · have e : scode l = 112 :: l := if_pos (by omega)
    rw [e] at k
    walk_at "go"
    exact k _ (e1.trans e2)
  · have e : scode l = rcode l := if_neg (by omega)
    rw [e] at k
    walk_at "go"
    exact k _ (e1.trans e2)
end
end My
namespace My
open PySem PySem.Spec PyProof.Rows L2 Z
section
variable {P : Program} {w : World} {K : PySem.W.Frag} {mg : Str → Option Value} {base : Heap}
/-! the steps by name -/
local macro_rules | `(tactic| walk_at "sd") => `(tactic| first
  | with_reducible assumption
  | omega
  | (simp only [List.length_append, List.length_cons, List.length_nil, List.length_replicate, rep_len, List.length_map, List.length_set]; omega)
  | decide)
local macro_rules | `(tactic| walk_at "lk") => `(tactic| first
  | with_reducible assumption
  | exact Ex.at_ (by with_reducible assumption) (by walk_at "lk")
  | exact But.at_ (by with_reducible assumption) (by walk_at "ne") (by walk_at "lk"))
local macro_rules | `(tactic| walk_at "ne") => `(tactic| first
  | with_reducible assumption
  | exact Ne.symm (by with_reducible assumption)
  | exact ne_new (by with_reducible assumption) (by walk_at "lk")
  | exact Ne.symm (ne_new (by with_reducible assumption) (by walk_at "lk"))
  | exact Urn.ne_new (by with_reducible assumption) (by walk_at "ur")
  | exact Ne.symm (Urn.ne_new (by with_reducible assumption) (by walk_at "ur")))
local macro_rules | `(tactic| walk_at "ur") => `(tactic| first
  | with_reducible assumption
  | exact Urn.ex (by with_reducible assumption) (by walk_at "ur")
  | exact Urn.but (by with_reducible assumption) (by walk_at "ne") (by walk_at "ur"))
local macro_rules | `(tactic| walk_at "dp") => `(tactic| first
  | with_reducible exact Dp.str _
  | with_reducible exact Dp.int _
  | with_reducible exact Dp.bl _
  | with_reducible exact Dp.non
  | with_reducible assumption
  | ((with_reducible refine' Dp.lst (SqL.of ?h0) ?h1); (case h0 => walk_at "lk"); (case h1 => walk_at "da"))
  | ((with_reducible refine' Dp.tup (SqT.of ?h0) ?h1); (case h0 => walk_at "lk"); (case h1 => walk_at "da"))
  | exact Dp.int _
  | exact Dp.str _)
local macro_rules | `(tactic| walk_at "da") => `(tactic| first
  | exact DpAll.nil
  | ((with_reducible refine' DpAll.cons ?h0 ?h1); (case h0 => walk_at "dp"); (case h1 => walk_at "da"))
  | with_reducible assumption)
local macro_rules | `(tactic| walk_at "ex") => `(tactic| first
  | with_reducible assumption
  | exact Ex.refl _
  | (refine Ex.trans ?_ (by with_reducible assumption); walk_at "ex"))
local macro_rules | `(tactic| walk_at "at") => `(tactic| first
  | with_reducible assumption
  | exact rfl
  | exact atI_nat (by with_reducible assumption)
  | exact atI_last _ _)
local macro_rules | `(tactic| walk_at "s") => `(tactic| first
  | ((with_reducible refine' norm ?h0 ?_); (case h0 => (dsimp only [List.set_cons_zero, List.set_cons_succ] <;> exact rfl)))
  | ((with_reducible refine' var_ ?h0 ?_); (case h0 => exact rfl))
  | ((with_reducible refine' c_ ?_))
  | ((with_reducible refine' op_ ?_))
  | ((with_reducible refine' cons_ ?_))
  | ((with_reducible refine' nil_ ?_))
  | ((with_reducible refine' seq_asg ?_))
  | ((with_reducible refine' asg_ ?_))
  | ((with_reducible refine' ret_ ?_))
  | ((with_reducible refine' cb_ ?_))
  | ((with_reducible refine' c1_ ?_))
  | ((with_reducible refine' addI ?_))
  | ((with_reducible refine' subI ?_))
  | ((with_reducible refine' addS ?h0 ?_); (case h0 => walk_at "sd"))
  | ((with_reducible refine' lenS ?h0 ?_); (case h0 => walk_at "sd"))
  | ((with_reducible refine' ixS ?h0 ?h1 ?_); (case h0 => walk_at "sd"); (case h1 => walk_at "at"))
  | ((with_reducible refine' ixL ?h0 ?h1 ?_); (case h0 => walk_at "lk"); (case h1 => walk_at "at"))
  | ((with_reducible refine' ixU ?h0 ?h1 ?_); (case h0 => walk_at "lk"); (case h1 => walk_at "at"))
  | ((with_reducible refine' ixSq ?h0 ?h1 ?_); (case h0 => assumption); (case h1 => walk_at "at"))
  | ((with_reducible refine' lenL ?h0 ?_); (case h0 => walk_at "lk"))
  | ((with_reducible refine' lenU ?h0 ?_); (case h0 => walk_at "lk"))
  | ((with_reducible refine' lenSq ?h0 ?_); (case h0 => assumption))
  | ((with_reducible refine' mulI ?h0 ?_); (case h0 => first | exact mul_ok1 (by omega) (by omega) | exact mul_ok2 (by omega) (by omega) | with_reducible assumption))
  | ((with_reducible refine' mulS ?h0 ?h1 ?h2 ?_); (case h0 => walk_at "sd"); (case h1 => walk_at "sd"); (case h2 => walk_at "sd"))
  | ((with_reducible refine' divI ?h0 ?h1 ?_); (case h0 => walk_at "sd"); (case h1 => walk_at "sd"))
  | ((with_reducible refine' modI ?h0 ?_); (case h0 => walk_at "sd"))
  | ((with_reducible refine' powI ?h0 ?_); (case h0 => first | with_reducible assumption | exact pow_ok (by decide)))
  | ((with_reducible refine' test_ ?_))
  | ((with_reducible refine' zb_ ?_))
  | ((with_reducible refine' tb_ ?_))
  | ((with_reducible refine' ltI ?_))
  | ((with_reducible refine' leI ?_))
  | ((with_reducible refine' gtI ?_))
  | ((with_reducible refine' geI ?_))
  | ((with_reducible refine' eqII ?_))
  | ((with_reducible refine' eqSS ?_))
  | ((with_reducible refine' neSS ?_))
  | ((with_reducible refine' eqI ?_))
  | ((with_reducible refine' eqS ?_))
  | ((with_reducible refine' neI ?_))
  | ((with_reducible refine' neS ?_))
  | ((with_reducible refine' orT_ ?_))
  | ((with_reducible refine' truth_ ?_))
  | ((with_reducible refine' ztru_b ?_))
  | ((with_reducible refine' ztru_S ?h0 ?_); (case h0 => walk_at "sd"))
  | ((with_reducible refine' inS ?_))
  | ((with_reducible refine' niS ?_))
  | ((with_reducible refine' seq_if ?_))
  | ((with_reducible refine' if_ ?_))
  | ((with_reducible refine' zif_t ?_))
  | ((with_reducible refine' zif_f ?_))
  | ((with_reducible refine' zif_nT ?_))
  | ((with_reducible refine' zif_nF ?_))
  | ((with_reducible refine' zif_dt ?h0 ?_); (case h0 => walk_at "sd"))
  | ((with_reducible refine' zif_df ?h0 ?_); (case h0 => walk_at "sd"))
  | ((with_reducible refine' zif_nt ?h0 ?_); (case h0 => walk_at "sd"))
  | ((with_reducible refine' zif_nf ?h0 ?_); (case h0 => walk_at "sd"))
  | ((with_reducible refine' not_ ?_))
  | ((with_reducible refine' and_ ?_))
  | ((with_reducible refine' or_ ?_))
  | ((with_reducible refine' tup_ ?_))
  | ((with_reducible refine' lst_ ?_))
  | ((with_reducible refine' ztup_ ?h0 (fun p H' hn he hp => ?_)); (case h0 => walk_at "sd"))
  | ((with_reducible refine' zlst_ ?h0 (fun p H' hn he hp => ?_)); (case h0 => walk_at "sd"))
  | ((with_reducible refine' addL ?h0 ?h1 ?h2 (fun p H' hn he hp => ?_)); (case h0 => walk_at "lk"); (case h1 => walk_at "lk"); (case h2 => walk_at "sd"))
  | ((with_reducible refine' un_ ?_))
  | ((with_reducible refine' negI ?_))
  | ((with_reducible refine' sl_ ?_))
  | ((with_reducible refine' nopart_ ?_))
  | ((with_reducible refine' part_ ?_))
  | ((with_reducible refine' zpart_ ?_))
  | ((with_reducible refine' slS ?h0 ?_); (case h0 => walk_at "sd"))
  | ((with_reducible refine' slL ?h0 (fun p H' hn he hp => ?_)); (case h0 => walk_at "lk"))
  | ((with_reducible refine' seq_asgG ?_))
  | ((with_reducible refine' asgG_ ?_))
  | ((with_reducible refine' gtup_ ?h0 ?h1 ?_); (case h0 => walk_at "lk"); (case h1 => rfl))
  | ((with_reducible refine' gcons_ ?_))
  | ((with_reducible refine' gname_ ?_))
  | ((with_reducible refine' gnil_ ?_))
  | ((with_reducible refine' gsub_ ?_))
  | ((with_reducible refine' setL_ ?h0 ?h1 (fun H' hp hb => ?_)); (case h0 => walk_at "lk"); (case h1 => first | rfl | assumption))
  | ((with_reducible refine' seq_par ?_))
  | ((with_reducible refine' par_ ?_))
  | ((with_reducible refine' zpar_ ?_))
  | ((with_reducible refine' seq_aug ?h0 ?_); (case h0 => exact rfl))
  | ((with_reducible refine' aug_ ?h0 ?_); (case h0 => exact rfl))
  | ((with_reducible refine' augS_ ?_))
  | ((with_reducible refine' getL_ ?h0 ?h1 ?_); (case h0 => walk_at "lk"); (case h1 => walk_at "at"))
  | ((with_reducible refine' iaddI ?_))
  | ((with_reducible refine' iaddS ?h0 ?_); (case h0 => walk_at "sd"))
  | ((with_reducible refine' isubI ?_))
  | ((with_reducible refine' imulI ?h0 ?h1 ?_); (case h0 => walk_at "sd"); (case h1 => walk_at "sd"))
  | ((with_reducible refine' idivI ?h0 ?h1 ?_); (case h0 => walk_at "sd"); (case h1 => walk_at "sd"))
  | ((with_reducible refine' seq_drop ?_))
  | ((with_reducible refine' drop_ ?_))
  | ((with_reducible refine' bm_ ?_))
  | ((with_reducible refine' zbmL_ ?h0 ?_); (case h0 => walk_at "lk"))
  | ((with_reducible refine' append_ ?h0 ?h1 (fun H' hp hb => ?_)); (case h0 => walk_at "lk"); (case h1 => walk_at "sd"))
  | ((with_reducible refine' fld_ ?_))
  | ((with_reducible refine' zfld_ ?h0 ?h1 ?h2 ?h3 ?_); (case h0 => walk_at "lk"); (case h1 => assumption); (case h2 => assumption); (case h3 => exact rfl))
  | ((with_reducible refine' seq_fld ?_))
  | ((with_reducible refine' fldS_ ?_))
  | ((with_reducible refine' zset_ ?h0 ?h1 ?h2 ?h3 ?h4 (fun H' hp hb => ?_)); (case h0 => walk_at "lk"); (case h1 => assumption); (case h2 => assumption); (case h3 => decide); (case h4 => exact rfl))
  | ((with_reducible refine' ck_ ?_))
  | ((with_reducible refine' zck_ ?h0 ?h1 ?h2 ?_); (case h0 => rfl); (case h1 => rfl); (case h2 => (dsimp only [List.cons_append, List.nil_append, List.append_nil] <;> exact rfl)))
  | ((with_reducible refine' mk_ ?_))
  | ((with_reducible refine' zmeth_ ?h0 ?h1 ?_); (case h0 => walk_at "lk"); (case h1 => exact rfl))
  | ((with_reducible refine' kk_ ?_))
  | ((with_reducible refine' zkk_ ?h0 ?h1 (fun x dx H' nx ndx ne he hx => ?_)); (case h0 => rfl); (case h1 => rfl))
  | ((with_reducible refine' zsp_ ?h0 ?_); (case h0 => (dsimp only [List.cons_append, List.nil_append, List.append_nil] <;> exact rfl)))
  | ((with_reducible refine' extend_ ?h0 ?h1 ?h2 (fun H' hp hb => ?_)); (case h0 => walk_at "lk"); (case h1 => walk_at "lk"); (case h2 => walk_at "sd"))
  | ((with_reducible refine' m1_ ?_))
  | ((with_reducible refine' zm1_ ?_))
  | ((with_reducible refine' count_ ?_))
  | ((with_reducible refine' strI_ ?h0 ?h1 ?_); (case h0 => walk_at "sd"); (case h1 => walk_at "sd"))
  | ((with_reducible refine' divmod_ ?h0 ?h1 (fun p H' hn he hp => ?_)); (case h0 => walk_at "sd"); (case h1 => walk_at "sd"))
  | ((with_reducible refine' abs_ ?_))
  | ((with_reducible refine' min2_ ?_))
  | ((with_reducible refine' max2_ ?_))
  | ((with_reducible refine' seq_for ?_))
  | ((with_reducible refine' for_ ?_))
  | ((with_reducible refine' ilist_ ?_))
  | ((with_reducible refine' zlist_ ?h0 ?_); (case h0 => walk_at "lk"))
  | ((with_reducible refine' zlistQ_ ?h0 ?_); (case h0 => assumption))
  | ((with_reducible refine' istr_ ?_))
  | ((with_reducible refine' zstr_ ?_))
  | ((with_reducible refine' irng1_ ?_))
  | ((with_reducible refine' irng2_ ?_))
  | ((with_reducible refine' zrng1_ ?h0 ?h1 ?_); (case h0 => walk_at "sd"); (case h1 => walk_at "sd"))
  | ((with_reducible refine' zrng2_ ?h0 ?h1 ?h2 ?h3 ?_); (case h0 => walk_at "sd"); (case h1 => walk_at "sd"); (case h2 => walk_at "sd"); (case h3 => walk_at "sd"))
  | ((with_reducible refine' ient_ ?_))
  | ((with_reducible refine' zent_ ?_))
  | ((with_reducible refine' revS_ ?_))
  | ((with_reducible refine' zrevS_ ?h0 ?_); (case h0 => walk_at "sd"))
  | ((with_reducible refine' intI_ ?_))
  | ((with_reducible refine' intB_ ?_))
  | ((with_reducible refine' intS_ ?h0 ?_); (case h0 => assumption))
  | ((with_reducible refine' seq_par3 ?_))
  | ((with_reducible refine' par3_ ?_))
  | ((with_reducible refine' zpar3_ ?_))
  | ((with_reducible refine' isSS_ ?_))
  | ((with_reducible refine' ientK_ ?_))
  | ((with_reducible refine' zenK_ ?h0 ?h1 ?_); (case h0 => walk_at "sd"); (case h1 => walk_at "sd"))
  | ((with_reducible refine' lc_ ?_))
  | ((with_reducible refine' tyes_ ?_))
  | ((with_reducible refine' zput_t ?_))
  | ((with_reducible refine' ifE_ ?_))
  | ((with_reducible refine' andV_ ?_))
  | ((with_reducible refine' zandv_t ?_))
  | ((with_reducible refine' zandv_f ?_))
  | ((with_reducible refine' zorv_t ?_))
  | ((with_reducible refine' zorv_f ?_))
  | ((with_reducible refine' zand_t ?_))
  | ((with_reducible refine' zand_f ?_))
  | ((with_reducible refine' zor_t ?_))
  | ((with_reducible refine' zor_f ?_))
  | ((with_reducible refine' orV_ ?_))
  | ((with_reducible refine' next_ ?_))
  | ((with_reducible refine' nx_ ?h0 ?_); (case h0 => (dsimp only <;> exact rfl)))
  | ((with_reducible refine' rt_ ?h0 ?_); (case h0 => (dsimp only <;> exact rfl)))
  | ((with_reducible refine' brk_ ?_))
  | ((with_reducible refine' cont_ ?_))
  | ((with_reducible refine' bk_ ?h0 ?_); (case h0 => (dsimp only <;> exact rfl)))
  | ((with_reducible refine' ct_ ?h0 ?_); (case h0 => (dsimp only <;> exact rfl)))
  | ((with_reducible refine' seq_ ?_)))
local macro_rules | `(tactic| walk_at "go") => `(tactic| repeat (walk_at "s"))
set_option maxHeartbeats 4000000 in
theorem ok_law_draw {f : Addr} {fd : FuncData} {dV kV : Value} (g : G mg)
    (F : Txt K "_law_draw" "_law_draw" (defArgs st_law_draw) (defBody st_law_draw) (defScope st_law_draw) dV kV f fd) :
    FnG P w K mg base 1 f fd ["_law_urn_here", "_law_wide"] (sp_law_draw) := by
  refine z_fn F sc_law_draw (fun vs H Q E h => by
    obtain ⟨u, n, m, rfl, ⟨g0, c, k0, hu, g1, c1, c2, k1, k2⟩, hn, m1, m2, k⟩ := h
    rfl) (fun cd A outer s H vs Q E hr ng h => ?_)
  obtain ⟨u, n, m, rfl, ⟨g0, c, k0, hu, g1, c1, c2, k1, k2⟩, hn, m1, m2, k⟩ := h
  refine ⟨_, [_, _, none, none, none, none, none], rfl, (pss_cons (ps_if (pt_cmpR z_gt (pe_ix z_ix (pv 0) pe_int (fun _ _ => rfl)) pe_int (nomark _)) (pss_cons (ps_set (i := 2) sc_law_draw.nd rfl (Or.inl rfl) (pe_op z_mod (pe_ix z_ix (pv 0) pe_int (fun _ _ => rfl)) (pv 1)))
      (pss_cons (ps_asg (pe_op z_fdiv (pe_ix z_ix (pv 0) pe_int (fun _ _ => rfl)) (pv 1)) (pg_sub (pv 0) pe_int set_list))
      (pss_one (ps_ret (pv 2))))) pss_nil)
      (pss_cons (ps_set (i := 3) sc_law_draw.nd rfl (Or.inl rfl) (pe_tup (pa_cons pe_int (pa_cons pe_int (pa_cons pe_int (pa_cons pe_int (pa_cons pe_int (pa_cons pe_int (pa_cons pe_int pa_nil)))))))))
      (pss_cons (ps_asg (pe_op z_add (pe_ix z_ix (pv 0) pe_int (fun _ _ => rfl)) pe_int) (pg_sub (pv 0) pe_int set_list))
      (pss_cons (ps_set (i := 4) sc_law_draw.nd rfl (Or.inl rfl) (pe_ix z_ix (pv 0) pe_int (fun _ _ => rfl)))
      (pss_cons (ps_set (i := 5) sc_law_draw.nd rfl (Or.inl rfl) (pe_op z_add (pe_op z_add (pe_op z_mul (pe_ix z_ix (pv 0) pe_int (fun _ _ => rfl)) (pe_op z_add (pe_op z_mul pe_int (pv 4)) pe_int)) (pe_op z_mul (pe_op z_mul pe_int (pv 4)) (pv 4))) pe_int))
      (pss_cons (ps_set (i := 6) sc_law_draw.nd rfl (Or.inl rfl) (pe_op z_mod (pe_op z_pow (pv 5) pe_int) (pe_ix z_ix (pv 3) (pe_op z_mod (pv 4) pe_int) (fun _ _ => rfl))))
      (pss_one (ps_ret (pe_op z_mod (pe_op z_fdiv (pe_op z_mod (pe_op z_mul (pv 6) (pe_op z_add (pe_op z_fdiv (pv 6) pe_int) (pv 4))) (pe_ix z_ix (pv 3) (pe_op z_mod (pe_op z_add (pv 4) pe_int) pe_int) (fun _ _ => rfl))) pe_int) (pv 1)))))))))), ?_⟩
  have hk : (k0 + 1) * (k0 + 1) ≤ 1000000001 * 1000000001 := Int.mul_le_mul (by omega) (by omega) (by omega) (by omega)
  have hk0 : 0 ≤ (k0 + 1) * (k0 + 1) := Int.mul_nonneg (by omega) (by omega)
  have hc : c * (2 * (k0 + 1) + 1) ≤ 1152921504606846976 * 3000000003 := Int.mul_le_mul (by omega) (by omega) (by omega) (by omega)
  have hc0 : 0 ≤ c * (2 * (k0 + 1) + 1) := Int.mul_nonneg (by omega) (by omega)
  have e6 : 6007 * (k0 + 1) * (k0 + 1) = 6007 * ((k0 + 1) * (k0 + 1)) := Int.mul_assoc _ _ _
  have hpow : CPowW (c * (2 * (k0 + 1) + 1) + 6007 * (k0 + 1) * (k0 + 1) + 53) 3 := by
    have hb : (c * (2 * (k0 + 1) + 1) + 6007 * (k0 + 1) * (k0 + 1) + 53).natAbs < 2 ^ 200 := by
      have : (2 : Nat) ^ 200 = 1606938044258990275541962092341162602522202993782792835301376 := by decide
      omega
    have := intBits_le hb
    refine ⟨by omega, ?_⟩
    have e : (2 : Int) ^ 27 = 134217728 := by decide
    omega
  have hpr : ∀ i : Int, 0 ≤ i → i < 7 → ∃ p : Int, atI [V.int 2147483647, V.int 2147483629, V.int 2147483587, V.int 2147483579, V.int 2147483563, V.int 2147483549, V.int 2147483543] i = some (V.int p) ∧ 0 < p ∧ p < 2147483648 := by
    intro i h0 h7
    have : i = 0 ∨ i = 1 ∨ i = 2 ∨ i = 3 ∨ i = 4 ∨ i = 5 ∨ i = 6 := by omega
    rcases this with rfl | rfl | rfl | rfl | rfl | rfl | rfl
    all_goals exact ⟨_, rfl, by omega, by omega⟩
  obtain ⟨p1, hp1, p1a, p1b⟩ := hpr ((k0 + 1) % 7) (by omega) (by omega)
  obtain ⟨p2, hp2, p2a, p2b⟩ := hpr ((k0 + 1 + 3) % 7) (by omega) (by omega)
  have hmod : ∀ z : Int, 0 ≤ z % p1 ∧ z % p1 < p1 := fun z => ⟨Int.emod_nonneg _ (by omega), Int.emod_lt_of_pos _ p1a⟩
  walk_at "go"
  refine zif_d (fun hq => ?_) (fun hq => ?_)
  · walk_at "go"
    rename_i H1 hp hb
    exact k _ _ (Int.emod_nonneg _ (by omega)) (Int.emod_lt_of_pos _ m1) ⟨_, _, _, hp, Int.ediv_nonneg g1 (by omega), c1, c2, k1, by omega⟩ hb
  · walk_at "go"
    have hm := hmod ((c * (2 * (k0 + 1) + 1) + 6007 * (k0 + 1) * (k0 + 1) + 53) ^ (3 : Int).toNat)
    walk_at "go"
    rename_i q H1 hn1 he1 hp1' H2 hp2' hb2
    refine k _ _ (Int.emod_nonneg _ (by omega)) (Int.emod_lt_of_pos _ m1) ⟨_, _, _, hp2', g1, c1, c2, by omega, by omega⟩ ?_
    intro b o nb hbo
    exact hb2 b o nb (he1 b o hbo)
end
end My
namespace My
open PySem PySem.Spec PyProof.Rows L2 Z
section
variable {P : Program} {w : World} {K : PySem.W.Frag} {mg : Str → Option Value} {base : Heap}
/-! the steps by name -/
local macro_rules | `(tactic| walk_at "sd") => `(tactic| first
  | with_reducible assumption
  | omega
  | (simp only [List.length_append, List.length_cons, List.length_nil, List.length_replicate, rep_len, List.length_map, List.length_set]; omega)
  | decide)
local macro_rules | `(tactic| walk_at "lk") => `(tactic| first
  | with_reducible assumption
  | exact Ex.at_ (by with_reducible assumption) (by walk_at "lk")
  | exact But.at_ (by with_reducible assumption) (by walk_at "ne") (by walk_at "lk"))
local macro_rules | `(tactic| walk_at "ne") => `(tactic| first
  | with_reducible assumption
  | exact Ne.symm (by with_reducible assumption)
  | exact ne_new (by with_reducible assumption) (by walk_at "lk")
  | exact Ne.symm (ne_new (by with_reducible assumption) (by walk_at "lk"))
  | exact Urn.ne_new (by with_reducible assumption) (by walk_at "ur")
  | exact Ne.symm (Urn.ne_new (by with_reducible assumption) (by walk_at "ur")))
local macro_rules | `(tactic| walk_at "ur") => `(tactic| first
  | with_reducible assumption
  | exact Urn.ex (by with_reducible assumption) (by walk_at "ur")
  | exact Urn.but (by with_reducible assumption) (by walk_at "ne") (by walk_at "ur"))
local macro_rules | `(tactic| walk_at "dp") => `(tactic| first
  | with_reducible exact Dp.str _
  | with_reducible exact Dp.int _
  | with_reducible exact Dp.bl _
  | with_reducible exact Dp.non
  | with_reducible assumption
  | ((with_reducible refine' Dp.lst (SqL.of ?h0) ?h1); (case h0 => walk_at "lk"); (case h1 => walk_at "da"))
  | ((with_reducible refine' Dp.tup (SqT.of ?h0) ?h1); (case h0 => walk_at "lk"); (case h1 => walk_at "da"))
  | exact Dp.int _
  | exact Dp.str _)
local macro_rules | `(tactic| walk_at "da") => `(tactic| first
  | exact DpAll.nil
  | ((with_reducible refine' DpAll.cons ?h0 ?h1); (case h0 => walk_at "dp"); (case h1 => walk_at "da"))
  | with_reducible assumption)
local macro_rules | `(tactic| walk_at "ex") => `(tactic| first
  | with_reducible assumption
  | exact Ex.refl _
  | (refine Ex.trans ?_ (by with_reducible assumption); walk_at "ex"))
local macro_rules | `(tactic| walk_at "at") => `(tactic| first
  | with_reducible assumption
  | exact rfl
  | exact atI_nat (by with_reducible assumption)
  | exact atI_last _ _)
local macro_rules | `(tactic| walk_at "s") => `(tactic| first
  | ((with_reducible refine' call_law_draw ?h0 ?h1 ?h2 ?h3 (fun d H' h0 h1 hu hb => ?_)); (case h0 => walk_at "ur"); (case h1 => walk_at "sd"); (case h2 => walk_at "sd"); (case h3 => walk_at "sd"))
  | ((with_reducible refine' norm ?h0 ?_); (case h0 => (dsimp only [List.set_cons_zero, List.set_cons_succ] <;> exact rfl)))
  | ((with_reducible refine' var_ ?h0 ?_); (case h0 => exact rfl))
  | ((with_reducible refine' c_ ?_))
  | ((with_reducible refine' op_ ?_))
  | ((with_reducible refine' cons_ ?_))
  | ((with_reducible refine' nil_ ?_))
  | ((with_reducible refine' seq_asg ?_))
  | ((with_reducible refine' asg_ ?_))
  | ((with_reducible refine' ret_ ?_))
  | ((with_reducible refine' cb_ ?_))
  | ((with_reducible refine' c1_ ?_))
  | ((with_reducible refine' addI ?_))
  | ((with_reducible refine' subI ?_))
  | ((with_reducible refine' addS ?h0 ?_); (case h0 => walk_at "sd"))
  | ((with_reducible refine' lenS ?h0 ?_); (case h0 => walk_at "sd"))
  | ((with_reducible refine' ixS ?h0 ?h1 ?_); (case h0 => walk_at "sd"); (case h1 => walk_at "at"))
  | ((with_reducible refine' ixL ?h0 ?h1 ?_); (case h0 => walk_at "lk"); (case h1 => walk_at "at"))
  | ((with_reducible refine' ixU ?h0 ?h1 ?_); (case h0 => walk_at "lk"); (case h1 => walk_at "at"))
  | ((with_reducible refine' ixSq ?h0 ?h1 ?_); (case h0 => assumption); (case h1 => walk_at "at"))
  | ((with_reducible refine' lenL ?h0 ?_); (case h0 => walk_at "lk"))
  | ((with_reducible refine' lenU ?h0 ?_); (case h0 => walk_at "lk"))
  | ((with_reducible refine' lenSq ?h0 ?_); (case h0 => assumption))
  | ((with_reducible refine' mulI ?h0 ?_); (case h0 => first | exact mul_ok1 (by omega) (by omega) | exact mul_ok2 (by omega) (by omega) | with_reducible assumption))
  | ((with_reducible refine' mulS ?h0 ?h1 ?h2 ?_); (case h0 => walk_at "sd"); (case h1 => walk_at "sd"); (case h2 => walk_at "sd"))
  | ((with_reducible refine' divI ?h0 ?h1 ?_); (case h0 => walk_at "sd"); (case h1 => walk_at "sd"))
  | ((with_reducible refine' modI ?h0 ?_); (case h0 => walk_at "sd"))
  | ((with_reducible refine' powI ?h0 ?_); (case h0 => first | with_reducible assumption | exact pow_ok (by decide)))
  | ((with_reducible refine' test_ ?_))
  | ((with_reducible refine' zb_ ?_))
  | ((with_reducible refine' tb_ ?_))
  | ((with_reducible refine' ltI ?_))
  | ((with_reducible refine' leI ?_))
  | ((with_reducible refine' gtI ?_))
  | ((with_reducible refine' geI ?_))
  | ((with_reducible refine' eqII ?_))
  | ((with_reducible refine' eqSS ?_))
  | ((with_reducible refine' neSS ?_))
  | ((with_reducible refine' eqI ?_))
  | ((with_reducible refine' eqS ?_))
  | ((with_reducible refine' neI ?_))
  | ((with_reducible refine' neS ?_))
  | ((with_reducible refine' orT_ ?_))
  | ((with_reducible refine' truth_ ?_))
  | ((with_reducible refine' ztru_b ?_))
  | ((with_reducible refine' ztru_S ?h0 ?_); (case h0 => walk_at "sd"))
  | ((with_reducible refine' inS ?_))
  | ((with_reducible refine' niS ?_))
  | ((with_reducible refine' seq_if ?_))
  | ((with_reducible refine' if_ ?_))
  | ((with_reducible refine' zif_t ?_))
  | ((with_reducible refine' zif_f ?_))
  | ((with_reducible refine' zif_nT ?_))
  | ((with_reducible refine' zif_nF ?_))
  | ((with_reducible refine' zif_dt ?h0 ?_); (case h0 => walk_at "sd"))
  | ((with_reducible refine' zif_df ?h0 ?_); (case h0 => walk_at "sd"))
  | ((with_reducible refine' zif_nt ?h0 ?_); (case h0 => walk_at "sd"))
  | ((with_reducible refine' zif_nf ?h0 ?_); (case h0 => walk_at "sd"))
  | ((with_reducible refine' not_ ?_))
  | ((with_reducible refine' and_ ?_))
  | ((with_reducible refine' or_ ?_))
  | ((with_reducible refine' tup_ ?_))
  | ((with_reducible refine' lst_ ?_))
  | ((with_reducible refine' ztup_ ?h0 (fun p H' hn he hp => ?_)); (case h0 => walk_at "sd"))
  | ((with_reducible refine' zlst_ ?h0 (fun p H' hn he hp => ?_)); (case h0 => walk_at "sd"))
  | ((with_reducible refine' addL ?h0 ?h1 ?h2 (fun p H' hn he hp => ?_)); (case h0 => walk_at "lk"); (case h1 => walk_at "lk"); (case h2 => walk_at "sd"))
  | ((with_reducible refine' un_ ?_))
  | ((with_reducible refine' negI ?_))
  | ((with_reducible refine' sl_ ?_))
  | ((with_reducible refine' nopart_ ?_))
  | ((with_reducible refine' part_ ?_))
  | ((with_reducible refine' zpart_ ?_))
  | ((with_reducible refine' slS ?h0 ?_); (case h0 => walk_at "sd"))
  | ((with_reducible refine' slL ?h0 (fun p H' hn he hp => ?_)); (case h0 => walk_at "lk"))
  | ((with_reducible refine' seq_asgG ?_))
  | ((with_reducible refine' asgG_ ?_))
  | ((with_reducible refine' gtup_ ?h0 ?h1 ?_); (case h0 => walk_at "lk"); (case h1 => rfl))
  | ((with_reducible refine' gcons_ ?_))
  | ((with_reducible refine' gname_ ?_))
  | ((with_reducible refine' gnil_ ?_))
  | ((with_reducible refine' gsub_ ?_))
  | ((with_reducible refine' setL_ ?h0 ?h1 (fun H' hp hb => ?_)); (case h0 => walk_at "lk"); (case h1 => first | rfl | assumption))
  | ((with_reducible refine' seq_par ?_))
  | ((with_reducible refine' par_ ?_))
  | ((with_reducible refine' zpar_ ?_))
  | ((with_reducible refine' seq_aug ?h0 ?_); (case h0 => exact rfl))
  | ((with_reducible refine' aug_ ?h0 ?_); (case h0 => exact rfl))
  | ((with_reducible refine' augS_ ?_))
  | ((with_reducible refine' getL_ ?h0 ?h1 ?_); (case h0 => walk_at "lk"); (case h1 => walk_at "at"))
  | ((with_reducible refine' iaddI ?_))
  | ((with_reducible refine' iaddS ?h0 ?_); (case h0 => walk_at "sd"))
  | ((with_reducible refine' isubI ?_))
  | ((with_reducible refine' imulI ?h0 ?h1 ?_); (case h0 => walk_at "sd"); (case h1 => walk_at "sd"))
  | ((with_reducible refine' idivI ?h0 ?h1 ?_); (case h0 => walk_at "sd"); (case h1 => walk_at "sd"))
  | ((with_reducible refine' seq_drop ?_))
  | ((with_reducible refine' drop_ ?_))
  | ((with_reducible refine' bm_ ?_))
  | ((with_reducible refine' zbmL_ ?h0 ?_); (case h0 => walk_at "lk"))
  | ((with_reducible refine' append_ ?h0 ?h1 (fun H' hp hb => ?_)); (case h0 => walk_at "lk"); (case h1 => walk_at "sd"))
  | ((with_reducible refine' fld_ ?_))
  | ((with_reducible refine' zfld_ ?h0 ?h1 ?h2 ?h3 ?_); (case h0 => walk_at "lk"); (case h1 => assumption); (case h2 => assumption); (case h3 => exact rfl))
  | ((with_reducible refine' seq_fld ?_))
  | ((with_reducible refine' fldS_ ?_))
  | ((with_reducible refine' zset_ ?h0 ?h1 ?h2 ?h3 ?h4 (fun H' hp hb => ?_)); (case h0 => walk_at "lk"); (case h1 => assumption); (case h2 => assumption); (case h3 => decide); (case h4 => exact rfl))
  | ((with_reducible refine' ck_ ?_))
  | ((with_reducible refine' zck_ ?h0 ?h1 ?h2 ?_); (case h0 => rfl); (case h1 => rfl); (case h2 => (dsimp only [List.cons_append, List.nil_append, List.append_nil] <;> exact rfl)))
  | ((with_reducible refine' mk_ ?_))
  | ((with_reducible refine' zmeth_ ?h0 ?h1 ?_); (case h0 => walk_at "lk"); (case h1 => exact rfl))
  | ((with_reducible refine' kk_ ?_))
  | ((with_reducible refine' zkk_ ?h0 ?h1 (fun x dx H' nx ndx ne he hx => ?_)); (case h0 => rfl); (case h1 => rfl))
  | ((with_reducible refine' zsp_ ?h0 ?_); (case h0 => (dsimp only [List.cons_append, List.nil_append, List.append_nil] <;> exact rfl)))
  | ((with_reducible refine' extend_ ?h0 ?h1 ?h2 (fun H' hp hb => ?_)); (case h0 => walk_at "lk"); (case h1 => walk_at "lk"); (case h2 => walk_at "sd"))
  | ((with_reducible refine' m1_ ?_))
  | ((with_reducible refine' zm1_ ?_))
  | ((with_reducible refine' count_ ?_))
  | ((with_reducible refine' strI_ ?h0 ?h1 ?_); (case h0 => walk_at "sd"); (case h1 => walk_at "sd"))
  | ((with_reducible refine' divmod_ ?h0 ?h1 (fun p H' hn he hp => ?_)); (case h0 => walk_at "sd"); (case h1 => walk_at "sd"))
  | ((with_reducible refine' abs_ ?_))
  | ((with_reducible refine' min2_ ?_))
  | ((with_reducible refine' max2_ ?_))
  | ((with_reducible refine' seq_for ?_))
  | ((with_reducible refine' for_ ?_))
  | ((with_reducible refine' ilist_ ?_))
  | ((with_reducible refine' zlist_ ?h0 ?_); (case h0 => walk_at "lk"))
  | ((with_reducible refine' zlistQ_ ?h0 ?_); (case h0 => assumption))
  | ((with_reducible refine' istr_ ?_))
  | ((with_reducible refine' zstr_ ?_))
  | ((with_reducible refine' irng1_ ?_))
  | ((with_reducible refine' irng2_ ?_))
  | ((with_reducible refine' zrng1_ ?h0 ?h1 ?_); (case h0 => walk_at "sd"); (case h1 => walk_at "sd"))
  | ((with_reducible refine' zrng2_ ?h0 ?h1 ?h2 ?h3 ?_); (case h0 => walk_at "sd"); (case h1 => walk_at "sd"); (case h2 => walk_at "sd"); (case h3 => walk_at "sd"))
  | ((with_reducible refine' ient_ ?_))
  | ((with_reducible refine' zent_ ?_))
  | ((with_reducible refine' revS_ ?_))
  | ((with_reducible refine' zrevS_ ?h0 ?_); (case h0 => walk_at "sd"))
  | ((with_reducible refine' intI_ ?_))
  | ((with_reducible refine' intB_ ?_))
  | ((with_reducible refine' intS_ ?h0 ?_); (case h0 => assumption))
  | ((with_reducible refine' seq_par3 ?_))
  | ((with_reducible refine' par3_ ?_))
  | ((with_reducible refine' zpar3_ ?_))
  | ((with_reducible refine' isSS_ ?_))
  | ((with_reducible refine' ientK_ ?_))
  | ((with_reducible refine' zenK_ ?h0 ?h1 ?_); (case h0 => walk_at "sd"); (case h1 => walk_at "sd"))
  | ((with_reducible refine' lc_ ?_))
  | ((with_reducible refine' tyes_ ?_))
  | ((with_reducible refine' zput_t ?_))
  | ((with_reducible refine' ifE_ ?_))
  | ((with_reducible refine' andV_ ?_))
  | ((with_reducible refine' zandv_t ?_))
  | ((with_reducible refine' zandv_f ?_))
  | ((with_reducible refine' zorv_t ?_))
  | ((with_reducible refine' zorv_f ?_))
  | ((with_reducible refine' zand_t ?_))
  | ((with_reducible refine' zand_f ?_))
  | ((with_reducible refine' zor_t ?_))
  | ((with_reducible refine' zor_f ?_))
  | ((with_reducible refine' orV_ ?_))
  | ((with_reducible refine' next_ ?_))
  | ((with_reducible refine' nx_ ?h0 ?_); (case h0 => (dsimp only <;> exact rfl)))
  | ((with_reducible refine' rt_ ?h0 ?_); (case h0 => (dsimp only <;> exact rfl)))
  | ((with_reducible refine' brk_ ?_))
  | ((with_reducible refine' cont_ ?_))
  | ((with_reducible refine' bk_ ?h0 ?_); (case h0 => (dsimp only <;> exact rfl)))
  | ((with_reducible refine' ct_ ?h0 ?_); (case h0 => (dsimp only <;> exact rfl)))
  | ((with_reducible refine' seq_ ?_)))
local macro_rules | `(tactic| walk_at "go") => `(tactic| repeat (walk_at "s"))
set_option maxHeartbeats 4000000 in
theorem ok_law_bits {f : Addr} {fd : FuncData} {dV kV : Value} (g : G mg)
    (F : Txt K "_law_bits" "_law_bits" (defArgs st_law_bits) (defBody st_law_bits) (defScope st_law_bits) dV kV f fd)
    (D_law_draw : Def P w K mg base 1 "_law_draw" [] (sp_law_draw)) :
    FnG P w K mg base 2 f fd ["_law_urn_here", "_law_most"] (sp_law_bits) := by
  refine z_fn F sc_law_bits (fun vs H Q E h => by
    obtain ⟨u, n, m, rfl, hu, hn, m1, m2, k⟩ := h
    rfl) (fun cd A outer s H vs Q E hr ng h => ?_)
  obtain ⟨u, n, m, rfl, hu, hn, m1, m2, k⟩ := h
  refine ⟨_, [_, _, none, none, none, none], rfl, (pss_cons (ps_set (i := 2) sc_law_bits.nd rfl (Or.inl rfl) (pe_f D_law_draw (hr.mono (by decide)) ng (by rfl) tk0 (pa_cons (pv 0) (pa_cons (pe_op z_add (pv 1) pe_int) pa_nil))))
      (pss_cons (ps_par (i := 3) (j := 4) (by rfl) sc_law_bits.nd rfl rfl (by decide) rfl rfl (pa_cons (pe_f D_law_draw (hr.mono (by decide)) ng (by rfl) tk0 (pa_cons (pv 0) (pa_cons pe_int pa_nil))) (pa_cons (pe_f D_law_draw (hr.mono (by decide)) ng (by rfl) tk0 (pa_cons (pv 0) (pa_cons pe_int pa_nil))) pa_nil)) (by rfl))
      (pss_cons (ps_set (i := 5) sc_law_bits.nd rfl (Or.inl rfl) (z_str lit_0))
      (pss_cons (ps_while (passes_of rfl) (pt_cmpR z_lt (pe_callB z_len (by rfl) g.b_len (by decide +kernel) (pa_cons (pv 5) pa_nil)) (pv 2) (nomark _)) (pss_one (ps_if (pt_cmpR (z_eq hr.units) (pv 3) pe_int (nomark _)) (pss_one (ps_set (i := 5) sc_law_bits.nd rfl (Or.inl rfl) (pe_op z_add (pv 5) (pe_ix z_ix (z_str lit_5) (pe_f D_law_draw (hr.mono (by decide)) ng (by rfl) tk0 (pa_cons (pv 0) (pa_cons pe_int pa_nil))) (fun _ _ => rfl))))) (pss_one (ps_if (pt_cmpR (z_eq hr.units) (pv 3) pe_int (nomark _)) (pss_cons (ps_set (i := 5) sc_law_bits.nd rfl (Or.inl rfl) (pe_op z_add (pv 5) (pe_op z_mul (pe_ix z_ix (z_str lit_5) (pv 4) (fun _ _ => rfl)) (pe_op z_add pe_int (pe_f D_law_draw (hr.mono (by decide)) ng (by rfl) tk0 (pa_cons (pv 0) (pa_cons (pe_ix z_ix (pe_lst (pa_cons pe_int (pa_cons pe_int (pa_cons pe_int pa_nil)))) (pe_f D_law_draw (hr.mono (by decide)) ng (by rfl) tk0 (pa_cons (pv 0) (pa_cons pe_int pa_nil))) (fun _ _ => rfl)) pa_nil)))))))
      (pss_one (ps_set (i := 4) sc_law_bits.nd rfl (Or.inl rfl) (pe_op z_sub pe_int (pv 4))))) (pss_one (ps_if (pt_cmpR (z_eq hr.units) (pv 3) pe_int (nomark _)) (pss_one (ps_set (i := 5) sc_law_bits.nd rfl (Or.inl rfl) (pe_op z_add (pv 5) (pe_op z_mul (pe_ix z_ix (z_str lit_5) (pv 4) (fun _ _ => rfl)) (pv 2))))) (pss_one (ps_set (i := 5) sc_law_bits.nd rfl (Or.inl rfl) (pe_op z_add (pe_op z_add (pv 5) (pe_op z_mul (z_str lit_1) (pe_f D_law_draw (hr.mono (by decide)) ng (by rfl) tk0 (pa_cons (pv 0) (pa_cons pe_int pa_nil))))) (z_str lit_4)))))))))))
      (pss_one (ps_ret (pe_slice z_sl (pv 5) po_none (po_some (pv 2))))))))), ?_⟩
  walk_at "go"
  rename_i am H1 am0 am1 hu1 hb1 way H2 way0 way1 hu2 hb2 sg H3 sg0 sg1 hu3 hb3
  have hb0 : But u H H3 := (hb1.trans hb2).trans hb3
  have bit01 : ∀ d : Int, 0 ≤ d → d < 2 → ∃ c, atI [48, 49] d = some c ∧ Bit c := by
    intro d h0 h1
    have : d = 0 ∨ d = 1 := by omega
    rcases this with rfl | rfl
    · exact ⟨48, rfl, .inl rfl⟩
    · exact ⟨49, rfl, .inr rfl⟩
  refine seq_while (fun j σ H' => ∃ (t : List Nat) (sg : Int) (r : Nat), σ = [some (.ref u), some (.int m), some (.int am), some (.int way), some (.int sg), some (T t)] ∧ 0 ≤ sg ∧ sg < 2 ∧ Bits t ∧ t.length ≤ 2100 ∧ j = am.toNat - t.length ∧ r + 2 * j ≤ n + 2050 ∧ Urn H' u r ∧ But u H H') am.toNat
    ⟨[], sg, n + 1 + 1 + 1, rfl, sg0, sg1, Bits.nil, by simp, by simp, by omega, hu3, hb0⟩ ?_
  rintro j σ H4 ⟨t, sg, r, rfl, s0, s1, ht, htl, ej, hr, hur, hbb⟩
  walk_at "go"
  refine zwh_d (fun hq => ?_) (fun hq => ?_)
  · obtain ⟨c, hc, hcb⟩ := bit01 sg s0 s1
    walk_at "go"
    refine zif_d (fun w0 => ?_) (fun w0 => ?_)
    · walk_at "go"
      rename_i d H5 d0 d1 hu5 hb5
      obtain ⟨c2, hc2, hcb2⟩ := bit01 d d0 d1
      walk_at "go"
      exact less_ (am.toNat - (t.length + 1)) (by omega) ⟨_, _, r + 1, rfl, s0, s1, ht.app (Bits.one hcb2), by simp; omega, by simp, by omega, hu5, hbb.trans hb5⟩
    · walk_at "go"
      refine zif_d (fun w1 => ?_) (fun w1 => ?_)
      · walk_at "go"
        rename_i p H5 hn5 he5 hp5 d H6 d0 d1 hu6 hb6
        have ha : ∃ z : Int, atI [V.int 4, V.int 20, V.int 70] d = some (V.int z) ∧ 0 < z ∧ z ≤ 70 := by
          have : d = 0 ∨ d = 1 ∨ d = 2 := by omega
          rcases this with rfl | rfl | rfl
          · exact ⟨4, rfl, by omega, by omega⟩
          · exact ⟨20, rfl, by omega, by omega⟩
          · exact ⟨70, rfl, by omega, by omega⟩
        obtain ⟨z, hz, z0, z1⟩ := ha
        walk_at "go"
        rename_i e H7 e0 e1 hu7 hb7
        have el : (1 + e).toNat = e.toNat + 1 := by omega
        have hl : ([c] : List Nat).length * (1 + e).toNat ≤ 70 := by simp; omega
        walk_at "go"
        refine less_ (am.toNat - (t.length + (1 + e).toNat)) (by omega) ⟨_, _, r + 1 + 1, rfl, by omega, by omega, ht.app ((Bits.one hcb).rep _), ?_, ?_, by omega, hu7, ((hbb.ext he5).trans hb6).trans hb7⟩
        · rw [List.length_append, rep_len]; simp; omega
        · rw [List.length_append, rep_len]; simp
      · walk_at "go"
        refine zif_d (fun w2 => ?_) (fun w2 => ?_)
        · have hl : ([c] : List Nat).length * am.toNat ≤ 1000 := by simp; omega
          walk_at "go"
          refine less_ (am.toNat - (t.length + am.toNat)) (by omega) ⟨_, _, r, rfl, s0, s1, ht.app ((Bits.one hcb).rep _), ?_, ?_, by omega, hur, hbb⟩
          · rw [List.length_append, rep_len]; simp; omega
          · rw [List.length_append, rep_len]; simp
        · walk_at "go"
          rename_i d H5 d0 d1 hu5 hb5
          have hl : ([48] : List Nat).length * d.toNat ≤ 9 := by simp; omega
          walk_at "go"
          refine less_ (am.toNat - (t.length + d.toNat + 1)) (by omega) ⟨_, _, r + 1, rfl, s0, s1, (ht.app ((Bits.one (.inl rfl)).rep _)).app (Bits.one (.inr rfl)), ?_, ?_, by omega, hu5, hbb.trans hb5⟩
          · rw [List.length_append, List.length_append, rep_len]; simp; omega
          · rw [List.length_append, List.length_append, rep_len]; simp
  · walk_at "go"
    rw [cut_to _ _ am0]
    refine k _ _ (ht.take _) ?_ (hur.mono (by omega)) hbb
    rw [List.length_take]
    omega
end
end My
namespace My
open PySem PySem.Spec PyProof.Rows L2 Z
section
variable {P : Program} {w : World} {K : PySem.W.Frag} {mg : Str → Option Value} {base : Heap}
/-! the steps by name -/
local macro_rules | `(tactic| walk_at "sd") => `(tactic| first
  | with_reducible assumption
  | omega
  | (simp only [List.length_append, List.length_cons, List.length_nil, List.length_replicate, rep_len, List.length_map, List.length_set]; omega)
  | decide)
local macro_rules | `(tactic| walk_at "lk") => `(tactic| first
  | with_reducible assumption
  | exact Ex.at_ (by with_reducible assumption) (by walk_at "lk")
  | exact But.at_ (by with_reducible assumption) (by walk_at "ne") (by walk_at "lk"))
local macro_rules | `(tactic| walk_at "ne") => `(tactic| first
  | with_reducible assumption
  | exact Ne.symm (by with_reducible assumption)
  | exact ne_new (by with_reducible assumption) (by walk_at "lk")
  | exact Ne.symm (ne_new (by with_reducible assumption) (by walk_at "lk"))
  | exact Urn.ne_new (by with_reducible assumption) (by walk_at "ur")
  | exact Ne.symm (Urn.ne_new (by with_reducible assumption) (by walk_at "ur")))
local macro_rules | `(tactic| walk_at "ur") => `(tactic| first
  | with_reducible assumption
  | exact Urn.ex (by with_reducible assumption) (by walk_at "ur")
  | exact Urn.but (by with_reducible assumption) (by walk_at "ne") (by walk_at "ur"))
local macro_rules | `(tactic| walk_at "dp") => `(tactic| first
  | with_reducible exact Dp.str _
  | with_reducible exact Dp.int _
  | with_reducible exact Dp.bl _
  | with_reducible exact Dp.non
  | with_reducible assumption
  | ((with_reducible refine' Dp.lst (SqL.of ?h0) ?h1); (case h0 => walk_at "lk"); (case h1 => walk_at "da"))
  | ((with_reducible refine' Dp.tup (SqT.of ?h0) ?h1); (case h0 => walk_at "lk"); (case h1 => walk_at "da"))
  | exact Dp.int _
  | exact Dp.str _)
local macro_rules | `(tactic| walk_at "da") => `(tactic| first
  | exact DpAll.nil
  | ((with_reducible refine' DpAll.cons ?h0 ?h1); (case h0 => walk_at "dp"); (case h1 => walk_at "da"))
  | with_reducible assumption)
local macro_rules | `(tactic| walk_at "ex") => `(tactic| first
  | with_reducible assumption
  | exact Ex.refl _
  | (refine Ex.trans ?_ (by with_reducible assumption); walk_at "ex"))
local macro_rules | `(tactic| walk_at "at") => `(tactic| first
  | with_reducible assumption
  | exact rfl
  | exact atI_nat (by with_reducible assumption)
  | exact atI_last _ _)
local macro_rules | `(tactic| walk_at "s") => `(tactic| first
  | ((with_reducible refine' call_law_bits ?h0 ?h1 ?h2 ?h3 (fun l H' h0 h1 hu hb => ?_)); (case h0 => walk_at "ur"); (case h1 => walk_at "sd"); (case h2 => walk_at "sd"); (case h3 => walk_at "sd"))
  | ((with_reducible refine' call_law_draw ?h0 ?h1 ?h2 ?h3 (fun d H' h0 h1 hu hb => ?_)); (case h0 => walk_at "ur"); (case h1 => walk_at "sd"); (case h2 => walk_at "sd"); (case h3 => walk_at "sd"))
  | ((with_reducible refine' norm ?h0 ?_); (case h0 => (dsimp only [List.set_cons_zero, List.set_cons_succ] <;> exact rfl)))
  | ((with_reducible refine' var_ ?h0 ?_); (case h0 => exact rfl))
  | ((with_reducible refine' c_ ?_))
  | ((with_reducible refine' op_ ?_))
  | ((with_reducible refine' cons_ ?_))
  | ((with_reducible refine' nil_ ?_))
  | ((with_reducible refine' seq_asg ?_))
  | ((with_reducible refine' asg_ ?_))
  | ((with_reducible refine' ret_ ?_))
  | ((with_reducible refine' cb_ ?_))
  | ((with_reducible refine' c1_ ?_))
  | ((with_reducible refine' addI ?_))
  | ((with_reducible refine' subI ?_))
  | ((with_reducible refine' addS ?h0 ?_); (case h0 => walk_at "sd"))
  | ((with_reducible refine' lenS ?h0 ?_); (case h0 => walk_at "sd"))
  | ((with_reducible refine' ixS ?h0 ?h1 ?_); (case h0 => walk_at "sd"); (case h1 => walk_at "at"))
  | ((with_reducible refine' ixL ?h0 ?h1 ?_); (case h0 => walk_at "lk"); (case h1 => walk_at "at"))
  | ((with_reducible refine' ixU ?h0 ?h1 ?_); (case h0 => walk_at "lk"); (case h1 => walk_at "at"))
  | ((with_reducible refine' ixSq ?h0 ?h1 ?_); (case h0 => assumption); (case h1 => walk_at "at"))
  | ((with_reducible refine' lenL ?h0 ?_); (case h0 => walk_at "lk"))
  | ((with_reducible refine' lenU ?h0 ?_); (case h0 => walk_at "lk"))
  | ((with_reducible refine' lenSq ?h0 ?_); (case h0 => assumption))
  | ((with_reducible refine' mulI ?h0 ?_); (case h0 => first | exact mul_ok1 (by omega) (by omega) | exact mul_ok2 (by omega) (by omega) | with_reducible assumption))
  | ((with_reducible refine' mulS ?h0 ?h1 ?h2 ?_); (case h0 => walk_at "sd"); (case h1 => walk_at "sd"); (case h2 => walk_at "sd"))
  | ((with_reducible refine' divI ?h0 ?h1 ?_); (case h0 => walk_at "sd"); (case h1 => walk_at "sd"))
  | ((with_reducible refine' modI ?h0 ?_); (case h0 => walk_at "sd"))
  | ((with_reducible refine' powI ?h0 ?_); (case h0 => first | with_reducible assumption | exact pow_ok (by decide)))
  | ((with_reducible refine' test_ ?_))
  | ((with_reducible refine' zb_ ?_))
  | ((with_reducible refine' tb_ ?_))
  | ((with_reducible refine' ltI ?_))
  | ((with_reducible refine' leI ?_))
  | ((with_reducible refine' gtI ?_))
  | ((with_reducible refine' geI ?_))
  | ((with_reducible refine' eqII ?_))
  | ((with_reducible refine' eqSS ?_))
  | ((with_reducible refine' neSS ?_))
  | ((with_reducible refine' eqI ?_))
  | ((with_reducible refine' eqS ?_))
  | ((with_reducible refine' neI ?_))
  | ((with_reducible refine' neS ?_))
  | ((with_reducible refine' orT_ ?_))
  | ((with_reducible refine' truth_ ?_))
  | ((with_reducible refine' ztru_b ?_))
  | ((with_reducible refine' ztru_S ?h0 ?_); (case h0 => walk_at "sd"))
  | ((with_reducible refine' inS ?_))
  | ((with_reducible refine' niS ?_))
  | ((with_reducible refine' seq_if ?_))
  | ((with_reducible refine' if_ ?_))
  | ((with_reducible refine' zif_t ?_))
  | ((with_reducible refine' zif_f ?_))
  | ((with_reducible refine' zif_nT ?_))
  | ((with_reducible refine' zif_nF ?_))
  | ((with_reducible refine' zif_dt ?h0 ?_); (case h0 => walk_at "sd"))
  | ((with_reducible refine' zif_df ?h0 ?_); (case h0 => walk_at "sd"))
  | ((with_reducible refine' zif_nt ?h0 ?_); (case h0 => walk_at "sd"))
  | ((with_reducible refine' zif_nf ?h0 ?_); (case h0 => walk_at "sd"))
  | ((with_reducible refine' not_ ?_))
  | ((with_reducible refine' and_ ?_))
  | ((with_reducible refine' or_ ?_))
  | ((with_reducible refine' tup_ ?_))
  | ((with_reducible refine' lst_ ?_))
  | ((with_reducible refine' ztup_ ?h0 (fun p H' hn he hp => ?_)); (case h0 => walk_at "sd"))
  | ((with_reducible refine' zlst_ ?h0 (fun p H' hn he hp => ?_)); (case h0 => walk_at "sd"))
  | ((with_reducible refine' addL ?h0 ?h1 ?h2 (fun p H' hn he hp => ?_)); (case h0 => walk_at "lk"); (case h1 => walk_at "lk"); (case h2 => walk_at "sd"))
  | ((with_reducible refine' un_ ?_))
  | ((with_reducible refine' negI ?_))
  | ((with_reducible refine' sl_ ?_))
  | ((with_reducible refine' nopart_ ?_))
  | ((with_reducible refine' part_ ?_))
  | ((with_reducible refine' zpart_ ?_))
  | ((with_reducible refine' slS ?h0 ?_); (case h0 => walk_at "sd"))
  | ((with_reducible refine' slL ?h0 (fun p H' hn he hp => ?_)); (case h0 => walk_at "lk"))
  | ((with_reducible refine' seq_asgG ?_))
  | ((with_reducible refine' asgG_ ?_))
  | ((with_reducible refine' gtup_ ?h0 ?h1 ?_); (case h0 => walk_at "lk"); (case h1 => rfl))
  | ((with_reducible refine' gcons_ ?_))
  | ((with_reducible refine' gname_ ?_))
  | ((with_reducible refine' gnil_ ?_))
  | ((with_reducible refine' gsub_ ?_))
  | ((with_reducible refine' setL_ ?h0 ?h1 (fun H' hp hb => ?_)); (case h0 => walk_at "lk"); (case h1 => first | rfl | assumption))
  | ((with_reducible refine' seq_par ?_))
  | ((with_reducible refine' par_ ?_))
  | ((with_reducible refine' zpar_ ?_))
  | ((with_reducible refine' seq_aug ?h0 ?_); (case h0 => exact rfl))
  | ((with_reducible refine' aug_ ?h0 ?_); (case h0 => exact rfl))
  | ((with_reducible refine' augS_ ?_))
  | ((with_reducible refine' getL_ ?h0 ?h1 ?_); (case h0 => walk_at "lk"); (case h1 => walk_at "at"))
  | ((with_reducible refine' iaddI ?_))
  | ((with_reducible refine' iaddS ?h0 ?_); (case h0 => walk_at "sd"))
  | ((with_reducible refine' isubI ?_))
  | ((with_reducible refine' imulI ?h0 ?h1 ?_); (case h0 => walk_at "sd"); (case h1 => walk_at "sd"))
  | ((with_reducible refine' idivI ?h0 ?h1 ?_); (case h0 => walk_at "sd"); (case h1 => walk_at "sd"))
  | ((with_reducible refine' seq_drop ?_))
  | ((with_reducible refine' drop_ ?_))
  | ((with_reducible refine' bm_ ?_))
  | ((with_reducible refine' zbmL_ ?h0 ?_); (case h0 => walk_at "lk"))
  | ((with_reducible refine' append_ ?h0 ?h1 (fun H' hp hb => ?_)); (case h0 => walk_at "lk"); (case h1 => walk_at "sd"))
  | ((with_reducible refine' fld_ ?_))
  | ((with_reducible refine' zfld_ ?h0 ?h1 ?h2 ?h3 ?_); (case h0 => walk_at "lk"); (case h1 => assumption); (case h2 => assumption); (case h3 => exact rfl))
  | ((with_reducible refine' seq_fld ?_))
  | ((with_reducible refine' fldS_ ?_))
  | ((with_reducible refine' zset_ ?h0 ?h1 ?h2 ?h3 ?h4 (fun H' hp hb => ?_)); (case h0 => walk_at "lk"); (case h1 => assumption); (case h2 => assumption); (case h3 => decide); (case h4 => exact rfl))
  | ((with_reducible refine' ck_ ?_))
  | ((with_reducible refine' zck_ ?h0 ?h1 ?h2 ?_); (case h0 => rfl); (case h1 => rfl); (case h2 => (dsimp only [List.cons_append, List.nil_append, List.append_nil] <;> exact rfl)))
  | ((with_reducible refine' mk_ ?_))
  | ((with_reducible refine' zmeth_ ?h0 ?h1 ?_); (case h0 => walk_at "lk"); (case h1 => exact rfl))
  | ((with_reducible refine' kk_ ?_))
  | ((with_reducible refine' zkk_ ?h0 ?h1 (fun x dx H' nx ndx ne he hx => ?_)); (case h0 => rfl); (case h1 => rfl))
  | ((with_reducible refine' zsp_ ?h0 ?_); (case h0 => (dsimp only [List.cons_append, List.nil_append, List.append_nil] <;> exact rfl)))
  | ((with_reducible refine' extend_ ?h0 ?h1 ?h2 (fun H' hp hb => ?_)); (case h0 => walk_at "lk"); (case h1 => walk_at "lk"); (case h2 => walk_at "sd"))
  | ((with_reducible refine' m1_ ?_))
  | ((with_reducible refine' zm1_ ?_))
  | ((with_reducible refine' count_ ?_))
  | ((with_reducible refine' strI_ ?h0 ?h1 ?_); (case h0 => walk_at "sd"); (case h1 => walk_at "sd"))
  | ((with_reducible refine' divmod_ ?h0 ?h1 (fun p H' hn he hp => ?_)); (case h0 => walk_at "sd"); (case h1 => walk_at "sd"))
  | ((with_reducible refine' abs_ ?_))
  | ((with_reducible refine' min2_ ?_))
  | ((with_reducible refine' max2_ ?_))
  | ((with_reducible refine' seq_for ?_))
  | ((with_reducible refine' for_ ?_))
  | ((with_reducible refine' ilist_ ?_))
  | ((with_reducible refine' zlist_ ?h0 ?_); (case h0 => walk_at "lk"))
  | ((with_reducible refine' zlistQ_ ?h0 ?_); (case h0 => assumption))
  | ((with_reducible refine' istr_ ?_))
  | ((with_reducible refine' zstr_ ?_))
  | ((with_reducible refine' irng1_ ?_))
  | ((with_reducible refine' irng2_ ?_))
  | ((with_reducible refine' zrng1_ ?h0 ?h1 ?_); (case h0 => walk_at "sd"); (case h1 => walk_at "sd"))
  | ((with_reducible refine' zrng2_ ?h0 ?h1 ?h2 ?h3 ?_); (case h0 => walk_at "sd"); (case h1 => walk_at "sd"); (case h2 => walk_at "sd"); (case h3 => walk_at "sd"))
  | ((with_reducible refine' ient_ ?_))
  | ((with_reducible refine' zent_ ?_))
  | ((with_reducible refine' revS_ ?_))
  | ((with_reducible refine' zrevS_ ?h0 ?_); (case h0 => walk_at "sd"))
  | ((with_reducible refine' intI_ ?_))
  | ((with_reducible refine' intB_ ?_))
  | ((with_reducible refine' intS_ ?h0 ?_); (case h0 => assumption))
  | ((with_reducible refine' seq_par3 ?_))
  | ((with_reducible refine' par3_ ?_))
  | ((with_reducible refine' zpar3_ ?_))
  | ((with_reducible refine' isSS_ ?_))
  | ((with_reducible refine' ientK_ ?_))
  | ((with_reducible refine' zenK_ ?h0 ?h1 ?_); (case h0 => walk_at "sd"); (case h1 => walk_at "sd"))
  | ((with_reducible refine' lc_ ?_))
  | ((with_reducible refine' tyes_ ?_))
  | ((with_reducible refine' zput_t ?_))
  | ((with_reducible refine' ifE_ ?_))
  | ((with_reducible refine' andV_ ?_))
  | ((with_reducible refine' zandv_t ?_))
  | ((with_reducible refine' zandv_f ?_))
  | ((with_reducible refine' zorv_t ?_))
  | ((with_reducible refine' zorv_f ?_))
  | ((with_reducible refine' zand_t ?_))
  | ((with_reducible refine' zand_f ?_))
  | ((with_reducible refine' zor_t ?_))
  | ((with_reducible refine' zor_f ?_))
  | ((with_reducible refine' orV_ ?_))
  | ((with_reducible refine' next_ ?_))
  | ((with_reducible refine' nx_ ?h0 ?_); (case h0 => (dsimp only <;> exact rfl)))
  | ((with_reducible refine' rt_ ?h0 ?_); (case h0 => (dsimp only <;> exact rfl)))
  | ((with_reducible refine' brk_ ?_))
  | ((with_reducible refine' cont_ ?_))
  | ((with_reducible refine' bk_ ?h0 ?_); (case h0 => (dsimp only <;> exact rfl)))
  | ((with_reducible refine' ct_ ?h0 ?_); (case h0 => (dsimp only <;> exact rfl)))
  | ((with_reducible refine' seq_ ?_)))
local macro_rules | `(tactic| walk_at "go") => `(tactic| repeat (walk_at "s"))
set_option maxHeartbeats 4000000 in
theorem ok_law_block {f : Addr} {fd : FuncData} {dV kV : Value} (g : G mg)
    (F : Txt K "_law_block" "_law_block" (defArgs st_law_block) (defBody st_law_block) (defScope st_law_block) dV kV f fd)
    (D_law_bits : Def P w K mg base 2 "_law_bits" [] (sp_law_bits))
    (D_law_draw : Def P w K mg base 1 "_law_draw" [] (sp_law_draw)) :
    FnG P w K mg base 3 f fd ["_law_urn_here"] (sp_law_block) := by
  refine z_fn F sc_law_block (fun vs H Q E h => by
    obtain ⟨u, n, rfl, hu, hn, k⟩ := h
    rfl) (fun cd A outer s H vs Q E hr ng h => ?_)
  obtain ⟨u, n, rfl, hu, hn, k⟩ := h
  refine ⟨_, [_], rfl, (pss_one (ps_ret (pe_orT (pe_f D_law_bits (hr.mono (by decide)) ng (by rfl) tk0 (pa_cons (pv 0) (pa_cons (pe_ix z_ix (pe_lst (pa_cons pe_int (pa_cons pe_int (pa_cons pe_int pa_nil)))) (pe_f D_law_draw (hr.mono (by decide)) ng (by rfl) tk0 (pa_cons (pv 0) (pa_cons pe_int pa_nil))) (fun _ _ => rfl)) pa_nil))) (pe_one (pe_ix z_ix (z_str lit_5) (pe_f D_law_draw (hr.mono (by decide)) ng (by rfl) tk0 (pa_cons (pv 0) (pa_cons pe_int pa_nil))) (fun _ _ => rfl)))))), ?_⟩
  walk_at "go"
  rename_i p H1 hn1 he1 hp1 d H2 d0 d1 hu2 hb2
  have ha : ∃ z : Int, atI [V.int 4, V.int 16, V.int 64] d = some (V.int z) ∧ 0 ≤ z ∧ z ≤ 64 := by
    have : d = 0 ∨ d = 1 ∨ d = 2 := by omega
    rcases this with rfl | rfl | rfl
    · exact ⟨4, rfl, by omega, by omega⟩
    · exact ⟨16, rfl, by omega, by omega⟩
    · exact ⟨64, rfl, by omega, by omega⟩
  obtain ⟨z, hz, z0, z1⟩ := ha
  walk_at "go"
  rename_i l H3 hl hl2 hu3 hb3
  refine zorT_S (by omega) (fun hne => ?_) (fun he => ?_)
  · walk_at "go"
    exact k _ _ hl (List.length_pos_iff.mpr hne) (by omega) (hu3.mono (by omega)) (he1.but (hb2.trans hb3))
  · walk_at "go"
    rename_i e H4 e0 e1 hu4 hb4
    have hc : ∃ c, atI [48, 49] e = some c ∧ Bit c := by
      have : e = 0 ∨ e = 1 := by omega
      rcases this with rfl | rfl
      · exact ⟨48, rfl, .inl rfl⟩
      · exact ⟨49, rfl, .inr rfl⟩
    obtain ⟨c, hc, hcb⟩ := hc
    walk_at "go"
    exact k _ _ (Bits.one hcb) (by simp) (by simp) (hu4.mono (by omega)) (he1.but ((hb2.trans hb3).trans hb4))
end
end My
namespace My
open PySem PySem.Spec PyProof.Rows L2 Z
section
variable {P : Program} {w : World} {K : PySem.W.Frag} {mg : Str → Option Value} {base : Heap}
/-! the steps by name -/
local macro_rules | `(tactic| walk_at "sd") => `(tactic| first
  | with_reducible assumption
  | omega
  | (simp only [List.length_append, List.length_cons, List.length_nil, List.length_replicate, rep_len, List.length_map, List.length_set]; omega)
  | decide)
local macro_rules | `(tactic| walk_at "lk") => `(tactic| first
  | with_reducible assumption
  | exact Ex.at_ (by with_reducible assumption) (by walk_at "lk")
  | exact But.at_ (by with_reducible assumption) (by walk_at "ne") (by walk_at "lk"))
local macro_rules | `(tactic| walk_at "ne") => `(tactic| first
  | with_reducible assumption
  | exact Ne.symm (by with_reducible assumption)
  | exact ne_new (by with_reducible assumption) (by walk_at "lk")
  | exact Ne.symm (ne_new (by with_reducible assumption) (by walk_at "lk"))
  | exact Urn.ne_new (by with_reducible assumption) (by walk_at "ur")
  | exact Ne.symm (Urn.ne_new (by with_reducible assumption) (by walk_at "ur")))
local macro_rules | `(tactic| walk_at "ur") => `(tactic| first
  | with_reducible assumption
  | exact Urn.ex (by with_reducible assumption) (by walk_at "ur")
  | exact Urn.but (by with_reducible assumption) (by walk_at "ne") (by walk_at "ur"))
local macro_rules | `(tactic| walk_at "dp") => `(tactic| first
  | with_reducible exact Dp.str _
  | with_reducible exact Dp.int _
  | with_reducible exact Dp.bl _
  | with_reducible exact Dp.non
  | with_reducible assumption
  | ((with_reducible refine' Dp.lst (SqL.of ?h0) ?h1); (case h0 => walk_at "lk"); (case h1 => walk_at "da"))
  | ((with_reducible refine' Dp.tup (SqT.of ?h0) ?h1); (case h0 => walk_at "lk"); (case h1 => walk_at "da"))
  | exact Dp.int _
  | exact Dp.str _)
local macro_rules | `(tactic| walk_at "da") => `(tactic| first
  | exact DpAll.nil
  | ((with_reducible refine' DpAll.cons ?h0 ?h1); (case h0 => walk_at "dp"); (case h1 => walk_at "da"))
  | with_reducible assumption)
local macro_rules | `(tactic| walk_at "ex") => `(tactic| first
  | with_reducible assumption
  | exact Ex.refl _
  | (refine Ex.trans ?_ (by with_reducible assumption); walk_at "ex"))
local macro_rules | `(tactic| walk_at "at") => `(tactic| first
  | with_reducible assumption
  | exact rfl
  | exact atI_nat (by with_reducible assumption)
  | exact atI_last _ _)
local macro_rules | `(tactic| walk_at "s") => `(tactic| first
  | ((with_reducible refine' call_law_draw ?h0 ?h1 ?h2 ?h3 (fun d H' h0 h1 hu hb => ?_)); (case h0 => walk_at "ur"); (case h1 => walk_at "sd"); (case h2 => walk_at "sd"); (case h3 => walk_at "sd"))
  | ((with_reducible refine' norm ?h0 ?_); (case h0 => (dsimp only [List.set_cons_zero, List.set_cons_succ] <;> exact rfl)))
  | ((with_reducible refine' var_ ?h0 ?_); (case h0 => exact rfl))
  | ((with_reducible refine' c_ ?_))
  | ((with_reducible refine' op_ ?_))
  | ((with_reducible refine' cons_ ?_))
  | ((with_reducible refine' nil_ ?_))
  | ((with_reducible refine' seq_asg ?_))
  | ((with_reducible refine' asg_ ?_))
  | ((with_reducible refine' ret_ ?_))
  | ((with_reducible refine' cb_ ?_))
  | ((with_reducible refine' c1_ ?_))
  | ((with_reducible refine' addI ?_))
  | ((with_reducible refine' subI ?_))
  | ((with_reducible refine' addS ?h0 ?_); (case h0 => walk_at "sd"))
  | ((with_reducible refine' lenS ?h0 ?_); (case h0 => walk_at "sd"))
  | ((with_reducible refine' ixS ?h0 ?h1 ?_); (case h0 => walk_at "sd"); (case h1 => walk_at "at"))
  | ((with_reducible refine' ixL ?h0 ?h1 ?_); (case h0 => walk_at "lk"); (case h1 => walk_at "at"))
  | ((with_reducible refine' ixU ?h0 ?h1 ?_); (case h0 => walk_at "lk"); (case h1 => walk_at "at"))
  | ((with_reducible refine' ixSq ?h0 ?h1 ?_); (case h0 => assumption); (case h1 => walk_at "at"))
  | ((with_reducible refine' lenL ?h0 ?_); (case h0 => walk_at "lk"))
  | ((with_reducible refine' lenU ?h0 ?_); (case h0 => walk_at "lk"))
  | ((with_reducible refine' lenSq ?h0 ?_); (case h0 => assumption))
  | ((with_reducible refine' mulI ?h0 ?_); (case h0 => first | exact mul_ok1 (by omega) (by omega) | exact mul_ok2 (by omega) (by omega) | with_reducible assumption))
  | ((with_reducible refine' mulS ?h0 ?h1 ?h2 ?_); (case h0 => walk_at "sd"); (case h1 => walk_at "sd"); (case h2 => walk_at "sd"))
  | ((with_reducible refine' divI ?h0 ?h1 ?_); (case h0 => walk_at "sd"); (case h1 => walk_at "sd"))
  | ((with_reducible refine' modI ?h0 ?_); (case h0 => walk_at "sd"))
  | ((with_reducible refine' powI ?h0 ?_); (case h0 => first | with_reducible assumption | exact pow_ok (by decide)))
  | ((with_reducible refine' test_ ?_))
  | ((with_reducible refine' zb_ ?_))
  | ((with_reducible refine' tb_ ?_))
  | ((with_reducible refine' ltI ?_))
  | ((with_reducible refine' leI ?_))
  | ((with_reducible refine' gtI ?_))
  | ((with_reducible refine' geI ?_))
  | ((with_reducible refine' eqII ?_))
  | ((with_reducible refine' eqSS ?_))
  | ((with_reducible refine' neSS ?_))
  | ((with_reducible refine' eqI ?_))
  | ((with_reducible refine' eqS ?_))
  | ((with_reducible refine' neI ?_))
  | ((with_reducible refine' neS ?_))
  | ((with_reducible refine' orT_ ?_))
  | ((with_reducible refine' truth_ ?_))
  | ((with_reducible refine' ztru_b ?_))
  | ((with_reducible refine' ztru_S ?h0 ?_); (case h0 => walk_at "sd"))
  | ((with_reducible refine' inS ?_))
  | ((with_reducible refine' niS ?_))
  | ((with_reducible refine' seq_if ?_))
  | ((with_reducible refine' if_ ?_))
  | ((with_reducible refine' zif_t ?_))
  | ((with_reducible refine' zif_f ?_))
  | ((with_reducible refine' zif_nT ?_))
  | ((with_reducible refine' zif_nF ?_))
  | ((with_reducible refine' zif_dt ?h0 ?_); (case h0 => walk_at "sd"))
  | ((with_reducible refine' zif_df ?h0 ?_); (case h0 => walk_at "sd"))
  | ((with_reducible refine' zif_nt ?h0 ?_); (case h0 => walk_at "sd"))
  | ((with_reducible refine' zif_nf ?h0 ?_); (case h0 => walk_at "sd"))
  | ((with_reducible refine' not_ ?_))
  | ((with_reducible refine' and_ ?_))
  | ((with_reducible refine' or_ ?_))
  | ((with_reducible refine' tup_ ?_))
  | ((with_reducible refine' lst_ ?_))
  | ((with_reducible refine' ztup_ ?h0 (fun p H' hn he hp => ?_)); (case h0 => walk_at "sd"))
  | ((with_reducible refine' zlst_ ?h0 (fun p H' hn he hp => ?_)); (case h0 => walk_at "sd"))
  | ((with_reducible refine' addL ?h0 ?h1 ?h2 (fun p H' hn he hp => ?_)); (case h0 => walk_at "lk"); (case h1 => walk_at "lk"); (case h2 => walk_at "sd"))
  | ((with_reducible refine' un_ ?_))
  | ((with_reducible refine' negI ?_))
  | ((with_reducible refine' sl_ ?_))
  | ((with_reducible refine' nopart_ ?_))
  | ((with_reducible refine' part_ ?_))
  | ((with_reducible refine' zpart_ ?_))
  | ((with_reducible refine' slS ?h0 ?_); (case h0 => walk_at "sd"))
  | ((with_reducible refine' slL ?h0 (fun p H' hn he hp => ?_)); (case h0 => walk_at "lk"))
  | ((with_reducible refine' seq_asgG ?_))
  | ((with_reducible refine' asgG_ ?_))
  | ((with_reducible refine' gtup_ ?h0 ?h1 ?_); (case h0 => walk_at "lk"); (case h1 => rfl))
  | ((with_reducible refine' gcons_ ?_))
  | ((with_reducible refine' gname_ ?_))
  | ((with_reducible refine' gnil_ ?_))
  | ((with_reducible refine' gsub_ ?_))
  | ((with_reducible refine' setL_ ?h0 ?h1 (fun H' hp hb => ?_)); (case h0 => walk_at "lk"); (case h1 => first | rfl | assumption))
  | ((with_reducible refine' seq_par ?_))
  | ((with_reducible refine' par_ ?_))
  | ((with_reducible refine' zpar_ ?_))
  | ((with_reducible refine' seq_aug ?h0 ?_); (case h0 => exact rfl))
  | ((with_reducible refine' aug_ ?h0 ?_); (case h0 => exact rfl))
  | ((with_reducible refine' augS_ ?_))
  | ((with_reducible refine' getL_ ?h0 ?h1 ?_); (case h0 => walk_at "lk"); (case h1 => walk_at "at"))
  | ((with_reducible refine' iaddI ?_))
  | ((with_reducible refine' iaddS ?h0 ?_); (case h0 => walk_at "sd"))
  | ((with_reducible refine' isubI ?_))
  | ((with_reducible refine' imulI ?h0 ?h1 ?_); (case h0 => walk_at "sd"); (case h1 => walk_at "sd"))
  | ((with_reducible refine' idivI ?h0 ?h1 ?_); (case h0 => walk_at "sd"); (case h1 => walk_at "sd"))
  | ((with_reducible refine' seq_drop ?_))
  | ((with_reducible refine' drop_ ?_))
  | ((with_reducible refine' bm_ ?_))
  | ((with_reducible refine' zbmL_ ?h0 ?_); (case h0 => walk_at "lk"))
  | ((with_reducible refine' append_ ?h0 ?h1 (fun H' hp hb => ?_)); (case h0 => walk_at "lk"); (case h1 => walk_at "sd"))
  | ((with_reducible refine' fld_ ?_))
  | ((with_reducible refine' zfld_ ?h0 ?h1 ?h2 ?h3 ?_); (case h0 => walk_at "lk"); (case h1 => assumption); (case h2 => assumption); (case h3 => exact rfl))
  | ((with_reducible refine' seq_fld ?_))
  | ((with_reducible refine' fldS_ ?_))
  | ((with_reducible refine' zset_ ?h0 ?h1 ?h2 ?h3 ?h4 (fun H' hp hb => ?_)); (case h0 => walk_at "lk"); (case h1 => assumption); (case h2 => assumption); (case h3 => decide); (case h4 => exact rfl))
  | ((with_reducible refine' ck_ ?_))
  | ((with_reducible refine' zck_ ?h0 ?h1 ?h2 ?_); (case h0 => rfl); (case h1 => rfl); (case h2 => (dsimp only [List.cons_append, List.nil_append, List.append_nil] <;> exact rfl)))
  | ((with_reducible refine' mk_ ?_))
  | ((with_reducible refine' zmeth_ ?h0 ?h1 ?_); (case h0 => walk_at "lk"); (case h1 => exact rfl))
  | ((with_reducible refine' kk_ ?_))
  | ((with_reducible refine' zkk_ ?h0 ?h1 (fun x dx H' nx ndx ne he hx => ?_)); (case h0 => rfl); (case h1 => rfl))
  | ((with_reducible refine' zsp_ ?h0 ?_); (case h0 => (dsimp only [List.cons_append, List.nil_append, List.append_nil] <;> exact rfl)))
  | ((with_reducible refine' extend_ ?h0 ?h1 ?h2 (fun H' hp hb => ?_)); (case h0 => walk_at "lk"); (case h1 => walk_at "lk"); (case h2 => walk_at "sd"))
  | ((with_reducible refine' m1_ ?_))
  | ((with_reducible refine' zm1_ ?_))
  | ((with_reducible refine' count_ ?_))
  | ((with_reducible refine' strI_ ?h0 ?h1 ?_); (case h0 => walk_at "sd"); (case h1 => walk_at "sd"))
  | ((with_reducible refine' divmod_ ?h0 ?h1 (fun p H' hn he hp => ?_)); (case h0 => walk_at "sd"); (case h1 => walk_at "sd"))
  | ((with_reducible refine' abs_ ?_))
  | ((with_reducible refine' min2_ ?_))
  | ((with_reducible refine' max2_ ?_))
  | ((with_reducible refine' seq_for ?_))
  | ((with_reducible refine' for_ ?_))
  | ((with_reducible refine' ilist_ ?_))
  | ((with_reducible refine' zlist_ ?h0 ?_); (case h0 => walk_at "lk"))
  | ((with_reducible refine' zlistQ_ ?h0 ?_); (case h0 => assumption))
  | ((with_reducible refine' istr_ ?_))
  | ((with_reducible refine' zstr_ ?_))
  | ((with_reducible refine' irng1_ ?_))
  | ((with_reducible refine' irng2_ ?_))
  | ((with_reducible refine' zrng1_ ?h0 ?h1 ?_); (case h0 => walk_at "sd"); (case h1 => walk_at "sd"))
  | ((with_reducible refine' zrng2_ ?h0 ?h1 ?h2 ?h3 ?_); (case h0 => walk_at "sd"); (case h1 => walk_at "sd"); (case h2 => walk_at "sd"); (case h3 => walk_at "sd"))
  | ((with_reducible refine' ient_ ?_))
  | ((with_reducible refine' zent_ ?_))
  | ((with_reducible refine' revS_ ?_))
  | ((with_reducible refine' zrevS_ ?h0 ?_); (case h0 => walk_at "sd"))
  | ((with_reducible refine' intI_ ?_))
  | ((with_reducible refine' intB_ ?_))
  | ((with_reducible refine' intS_ ?h0 ?_); (case h0 => assumption))
  | ((with_reducible refine' seq_par3 ?_))
  | ((with_reducible refine' par3_ ?_))
  | ((with_reducible refine' zpar3_ ?_))
  | ((with_reducible refine' isSS_ ?_))
  | ((with_reducible refine' ientK_ ?_))
  | ((with_reducible refine' zenK_ ?h0 ?h1 ?_); (case h0 => walk_at "sd"); (case h1 => walk_at "sd"))
  | ((with_reducible refine' lc_ ?_))
  | ((with_reducible refine' tyes_ ?_))
  | ((with_reducible refine' zput_t ?_))
  | ((with_reducible refine' ifE_ ?_))
  | ((with_reducible refine' andV_ ?_))
  | ((with_reducible refine' zandv_t ?_))
  | ((with_reducible refine' zandv_f ?_))
  | ((with_reducible refine' zorv_t ?_))
  | ((with_reducible refine' zorv_f ?_))
  | ((with_reducible refine' zand_t ?_))
  | ((with_reducible refine' zand_f ?_))
  | ((with_reducible refine' zor_t ?_))
  | ((with_reducible refine' zor_f ?_))
  | ((with_reducible refine' orV_ ?_))
  | ((with_reducible refine' next_ ?_))
  | ((with_reducible refine' nx_ ?h0 ?_); (case h0 => (dsimp only <;> exact rfl)))
  | ((with_reducible refine' rt_ ?h0 ?_); (case h0 => (dsimp only <;> exact rfl)))
  | ((with_reducible refine' brk_ ?_))
  | ((with_reducible refine' cont_ ?_))
  | ((with_reducible refine' bk_ ?h0 ?_); (case h0 => (dsimp only <;> exact rfl)))
  | ((with_reducible refine' ct_ ?h0 ?_); (case h0 => (dsimp only <;> exact rfl)))
  | ((with_reducible refine' seq_ ?_)))
local macro_rules | `(tactic| walk_at "go") => `(tactic| repeat (walk_at "s"))
set_option maxHeartbeats 4000000 in
theorem ok_law_near {f : Addr} {fd : FuncData} {dV kV : Value} (g : G mg)
    (F : Txt K "_law_near" "_law_near" (defArgs st_law_near) (defBody st_law_near) (defScope st_law_near) dV kV f fd)
    (D_law_draw : Def P w K mg base 1 "_law_draw" [] (sp_law_draw)) :
    FnG P w K mg base 2 f fd ["_law_urn_here"] (sp_law_near) := by
  refine z_fn F sc_law_near (fun vs H Q E h => by
    obtain ⟨u, n, rfl, hu, hn, k⟩ := h
    rfl) (fun cd A outer s H vs Q E hr ng h => ?_)
  obtain ⟨u, n, rfl, hu, hn, k⟩ := h
  refine ⟨_, [_, none, none, none], rfl, (pss_cons (ps_par (i := 1) (j := 2) (by rfl) sc_law_near.nd rfl rfl (by decide) rfl rfl (pa_cons (z_str lit_0) (pa_cons (pe_f D_law_draw (hr.mono (by decide)) ng (by rfl) tk0 (pa_cons (pv 0) (pa_cons pe_int pa_nil))) pa_nil)) (by rfl))
      (pss_cons (ps_for (passes_of rfl) rfl (pi_range1 (by rfl) g.b_range (pa_cons (pe_op z_add pe_int (pe_f D_law_draw (hr.mono (by decide)) ng (by rfl) tk0 (pa_cons (pv 0) (pa_cons pe_int pa_nil)))) pa_nil)) (pg_name (i := 3) sc_law_near.nd rfl (Or.inl rfl)) (pss_cons (ps_set (i := 1) sc_law_near.nd rfl (Or.inl rfl) (pe_op z_add (pv 1) (pe_op z_mul (pe_ix z_ix (z_str lit_5) (pv 2) (fun _ _ => rfl)) (pe_ix z_ix (pe_lst (pa_cons pe_int (pa_cons pe_int (pa_cons pe_int (pa_cons pe_int (pa_cons pe_int (pa_cons pe_int (pa_cons pe_int (pa_cons pe_int (pa_cons pe_int pa_nil)))))))))) (pe_f D_law_draw (hr.mono (by decide)) ng (by rfl) tk0 (pa_cons (pv 0) (pa_cons pe_int pa_nil))) (fun _ _ => rfl)))))
      (pss_one (ps_set (i := 2) sc_law_near.nd rfl (Or.inl rfl) (pe_op z_sub pe_int (pv 2))))))
      (pss_one (ps_ret (pe_slice z_sl (pv 1) po_none (po_some pe_int)))))), ?_⟩
  have bit01 : ∀ d : Int, 0 ≤ d → d < 2 → ∃ c, atI [48, 49] d = some c ∧ Bit c := by
    intro d h0 h1
    have : d = 0 ∨ d = 1 := by omega
    rcases this with rfl | rfl
    · exact ⟨48, rfl, .inl rfl⟩
    · exact ⟨49, rfl, .inr rfl⟩
  walk_at "go"
  rename_i sg H1 s0 s1 hu1 hb1 m H2 m0 m1 hu2 hb2
  have e1 : (1 + m).toNat = m.toNat + 1 := by omega
  rw [e1]
  refine forR (fun i σ H' => ∃ (t : List Nat) (sg : Int) (v : Option V), σ = [some (.ref u), some (T t), some (.int sg), v] ∧ 0 ≤ sg ∧ sg < 2 ∧ Bits t ∧ i ≤ t.length ∧ t.length ≤ i * 16 ∧ Urn H' u (n + 2 + i) ∧ But u H H')
    ⟨[], sg, none, rfl, s0, s1, Bits.nil, by simp, by simp, hu2, hb1.trans hb2⟩ ?_ ?_
  · rintro i σ H3 hi ⟨t, sg, v, rfl, s0, s1, ht, tl, tl2, hu3, hb3⟩
    obtain ⟨c, hc, hcb⟩ := bit01 sg s0 s1
    walk_at "go"
    rename_i p H4 hn4 he4 hp4 d H5 d0 d1 hu5 hb5
    have ha : ∃ z : Int, atI [V.int 1, V.int 2, V.int 3, V.int 4, V.int 5, V.int 7, V.int 8, V.int 15, V.int 16] d = some (V.int z) ∧ 1 ≤ z ∧ z ≤ 16 := by
      have : d = 0 ∨ d = 1 ∨ d = 2 ∨ d = 3 ∨ d = 4 ∨ d = 5 ∨ d = 6 ∨ d = 7 ∨ d = 8 := by omega
      rcases this with rfl | rfl | rfl | rfl | rfl | rfl | rfl | rfl | rfl
      all_goals exact ⟨_, rfl, by omega, by omega⟩
    obtain ⟨z, hz, z0, z1⟩ := ha
    have hl : ([c] : List Nat).length * z.toNat ≤ 16 := by simp; omega
    have hl2 : (rep [c] z.toNat).length = z.toNat := by rw [rep_len]; simp
    walk_at "go"
    refine ⟨_, _, _, rfl, by omega, by omega, ht.app ((Bits.one hcb).rep _), ?_, ?_, hu5.mono (by omega), (hb3.ext he4).trans hb5⟩
    · rw [List.length_append, hl2]; omega
    · rw [List.length_append, hl2]; omega
  · rintro σ H3 ⟨t, sg, v, rfl, s0, s1, ht, tl, tl2, hu3, hb3⟩
    walk_at "go"
    rw [cut_to _ _ (by omega)]
    refine k _ _ (ht.take _) ?_ ?_ (hu3.mono (by omega)) hb3
    · rw [List.length_take]; omega
    · rw [List.length_take]; omega
end
end My
namespace My
open PySem PySem.Spec PyProof.Rows L2 Z
section
variable {P : Program} {w : World} {K : PySem.W.Frag} {mg : Str → Option Value} {base : Heap}
/-! the steps by name -/
local macro_rules | `(tactic| walk_at "sd") => `(tactic| first
  | with_reducible assumption
  | omega
  | (simp only [List.length_append, List.length_cons, List.length_nil, List.length_replicate, rep_len, List.length_map, List.length_set]; omega)
  | decide)
local macro_rules | `(tactic| walk_at "lk") => `(tactic| first
  | with_reducible assumption
  | exact Ex.at_ (by with_reducible assumption) (by walk_at "lk")
  | exact But.at_ (by with_reducible assumption) (by walk_at "ne") (by walk_at "lk"))
local macro_rules | `(tactic| walk_at "ne") => `(tactic| first
  | with_reducible assumption
  | exact Ne.symm (by with_reducible assumption)
  | exact ne_new (by with_reducible assumption) (by walk_at "lk")
  | exact Ne.symm (ne_new (by with_reducible assumption) (by walk_at "lk"))
  | exact Urn.ne_new (by with_reducible assumption) (by walk_at "ur")
  | exact Ne.symm (Urn.ne_new (by with_reducible assumption) (by walk_at "ur")))
local macro_rules | `(tactic| walk_at "ur") => `(tactic| first
  | with_reducible assumption
  | exact Urn.ex (by with_reducible assumption) (by walk_at "ur")
  | exact Urn.but (by with_reducible assumption) (by walk_at "ne") (by walk_at "ur"))
local macro_rules | `(tactic| walk_at "dp") => `(tactic| first
  | with_reducible exact Dp.str _
  | with_reducible exact Dp.int _
  | with_reducible exact Dp.bl _
  | with_reducible exact Dp.non
  | with_reducible assumption
  | ((with_reducible refine' Dp.lst (SqL.of ?h0) ?h1); (case h0 => walk_at "lk"); (case h1 => walk_at "da"))
  | ((with_reducible refine' Dp.tup (SqT.of ?h0) ?h1); (case h0 => walk_at "lk"); (case h1 => walk_at "da"))
  | exact Dp.int _
  | exact Dp.str _)
local macro_rules | `(tactic| walk_at "da") => `(tactic| first
  | exact DpAll.nil
  | ((with_reducible refine' DpAll.cons ?h0 ?h1); (case h0 => walk_at "dp"); (case h1 => walk_at "da"))
  | with_reducible assumption)
local macro_rules | `(tactic| walk_at "ex") => `(tactic| first
  | with_reducible assumption
  | exact Ex.refl _
  | (refine Ex.trans ?_ (by with_reducible assumption); walk_at "ex"))
local macro_rules | `(tactic| walk_at "at") => `(tactic| first
  | with_reducible assumption
  | exact rfl
  | exact atI_nat (by with_reducible assumption)
  | exact atI_last _ _)
local macro_rules | `(tactic| walk_at "s") => `(tactic| first
  | ((with_reducible refine' norm ?h0 ?_); (case h0 => (dsimp only [List.set_cons_zero, List.set_cons_succ] <;> exact rfl)))
  | ((with_reducible refine' var_ ?h0 ?_); (case h0 => exact rfl))
  | ((with_reducible refine' c_ ?_))
  | ((with_reducible refine' op_ ?_))
  | ((with_reducible refine' cons_ ?_))
  | ((with_reducible refine' nil_ ?_))
  | ((with_reducible refine' seq_asg ?_))
  | ((with_reducible refine' asg_ ?_))
  | ((with_reducible refine' ret_ ?_))
  | ((with_reducible refine' cb_ ?_))
  | ((with_reducible refine' c1_ ?_))
  | ((with_reducible refine' addI ?_))
  | ((with_reducible refine' subI ?_))
  | ((with_reducible refine' addS ?h0 ?_); (case h0 => walk_at "sd"))
  | ((with_reducible refine' lenS ?h0 ?_); (case h0 => walk_at "sd"))
  | ((with_reducible refine' ixS ?h0 ?h1 ?_); (case h0 => walk_at "sd"); (case h1 => walk_at "at"))
  | ((with_reducible refine' ixL ?h0 ?h1 ?_); (case h0 => walk_at "lk"); (case h1 => walk_at "at"))
  | ((with_reducible refine' ixU ?h0 ?h1 ?_); (case h0 => walk_at "lk"); (case h1 => walk_at "at"))
  | ((with_reducible refine' ixSq ?h0 ?h1 ?_); (case h0 => assumption); (case h1 => walk_at "at"))
  | ((with_reducible refine' lenL ?h0 ?_); (case h0 => walk_at "lk"))
  | ((with_reducible refine' lenU ?h0 ?_); (case h0 => walk_at "lk"))
  | ((with_reducible refine' lenSq ?h0 ?_); (case h0 => assumption))
  | ((with_reducible refine' mulI ?h0 ?_); (case h0 => first | exact mul_ok1 (by omega) (by omega) | exact mul_ok2 (by omega) (by omega) | with_reducible assumption))
  | ((with_reducible refine' mulS ?h0 ?h1 ?h2 ?_); (case h0 => walk_at "sd"); (case h1 => walk_at "sd"); (case h2 => walk_at "sd"))
  | ((with_reducible refine' divI ?h0 ?h1 ?_); (case h0 => walk_at "sd"); (case h1 => walk_at "sd"))
  | ((with_reducible refine' modI ?h0 ?_); (case h0 => walk_at "sd"))
  | ((with_reducible refine' powI ?h0 ?_); (case h0 => first | with_reducible assumption | exact pow_ok (by decide)))
  | ((with_reducible refine' test_ ?_))
  | ((with_reducible refine' zb_ ?_))
  | ((with_reducible refine' tb_ ?_))
  | ((with_reducible refine' ltI ?_))
  | ((with_reducible refine' leI ?_))
  | ((with_reducible refine' gtI ?_))
  | ((with_reducible refine' geI ?_))
  | ((with_reducible refine' eqII ?_))
  | ((with_reducible refine' eqSS ?_))
  | ((with_reducible refine' neSS ?_))
  | ((with_reducible refine' eqI ?_))
  | ((with_reducible refine' eqS ?_))
  | ((with_reducible refine' neI ?_))
  | ((with_reducible refine' neS ?_))
  | ((with_reducible refine' orT_ ?_))
  | ((with_reducible refine' truth_ ?_))
  | ((with_reducible refine' ztru_b ?_))
  | ((with_reducible refine' ztru_S ?h0 ?_); (case h0 => walk_at "sd"))
  | ((with_reducible refine' inS ?_))
  | ((with_reducible refine' niS ?_))
  | ((with_reducible refine' seq_if ?_))
  | ((with_reducible refine' if_ ?_))
  | ((with_reducible refine' zif_t ?_))
  | ((with_reducible refine' zif_f ?_))
  | ((with_reducible refine' zif_nT ?_))
  | ((with_reducible refine' zif_nF ?_))
  | ((with_reducible refine' zif_dt ?h0 ?_); (case h0 => walk_at "sd"))
  | ((with_reducible refine' zif_df ?h0 ?_); (case h0 => walk_at "sd"))
  | ((with_reducible refine' zif_nt ?h0 ?_); (case h0 => walk_at "sd"))
  | ((with_reducible refine' zif_nf ?h0 ?_); (case h0 => walk_at "sd"))
  | ((with_reducible refine' not_ ?_))
  | ((with_reducible refine' and_ ?_))
  | ((with_reducible refine' or_ ?_))
  | ((with_reducible refine' tup_ ?_))
  | ((with_reducible refine' lst_ ?_))
  | ((with_reducible refine' ztup_ ?h0 (fun p H' hn he hp => ?_)); (case h0 => walk_at "sd"))
  | ((with_reducible refine' zlst_ ?h0 (fun p H' hn he hp => ?_)); (case h0 => walk_at "sd"))
  | ((with_reducible refine' addL ?h0 ?h1 ?h2 (fun p H' hn he hp => ?_)); (case h0 => walk_at "lk"); (case h1 => walk_at "lk"); (case h2 => walk_at "sd"))
  | ((with_reducible refine' un_ ?_))
  | ((with_reducible refine' negI ?_))
  | ((with_reducible refine' sl_ ?_))
  | ((with_reducible refine' nopart_ ?_))
  | ((with_reducible refine' part_ ?_))
  | ((with_reducible refine' zpart_ ?_))
  | ((with_reducible refine' slS ?h0 ?_); (case h0 => walk_at "sd"))
  | ((with_reducible refine' slL ?h0 (fun p H' hn he hp => ?_)); (case h0 => walk_at "lk"))
  | ((with_reducible refine' seq_asgG ?_))
  | ((with_reducible refine' asgG_ ?_))
  | ((with_reducible refine' gtup_ ?h0 ?h1 ?_); (case h0 => walk_at "lk"); (case h1 => rfl))
  | ((with_reducible refine' gcons_ ?_))
  | ((with_reducible refine' gname_ ?_))
  | ((with_reducible refine' gnil_ ?_))
  | ((with_reducible refine' gsub_ ?_))
  | ((with_reducible refine' setL_ ?h0 ?h1 (fun H' hp hb => ?_)); (case h0 => walk_at "lk"); (case h1 => first | rfl | assumption))
  | ((with_reducible refine' seq_par ?_))
  | ((with_reducible refine' par_ ?_))
  | ((with_reducible refine' zpar_ ?_))
  | ((with_reducible refine' seq_aug ?h0 ?_); (case h0 => exact rfl))
  | ((with_reducible refine' aug_ ?h0 ?_); (case h0 => exact rfl))
  | ((with_reducible refine' augS_ ?_))
  | ((with_reducible refine' getL_ ?h0 ?h1 ?_); (case h0 => walk_at "lk"); (case h1 => walk_at "at"))
  | ((with_reducible refine' iaddI ?_))
  | ((with_reducible refine' iaddS ?h0 ?_); (case h0 => walk_at "sd"))
  | ((with_reducible refine' isubI ?_))
  | ((with_reducible refine' imulI ?h0 ?h1 ?_); (case h0 => walk_at "sd"); (case h1 => walk_at "sd"))
  | ((with_reducible refine' idivI ?h0 ?h1 ?_); (case h0 => walk_at "sd"); (case h1 => walk_at "sd"))
  | ((with_reducible refine' seq_drop ?_))
  | ((with_reducible refine' drop_ ?_))
  | ((with_reducible refine' bm_ ?_))
  | ((with_reducible refine' zbmL_ ?h0 ?_); (case h0 => walk_at "lk"))
  | ((with_reducible refine' append_ ?h0 ?h1 (fun H' hp hb => ?_)); (case h0 => walk_at "lk"); (case h1 => walk_at "sd"))
  | ((with_reducible refine' fld_ ?_))
  | ((with_reducible refine' zfld_ ?h0 ?h1 ?h2 ?h3 ?_); (case h0 => walk_at "lk"); (case h1 => assumption); (case h2 => assumption); (case h3 => exact rfl))
  | ((with_reducible refine' seq_fld ?_))
  | ((with_reducible refine' fldS_ ?_))
  | ((with_reducible refine' zset_ ?h0 ?h1 ?h2 ?h3 ?h4 (fun H' hp hb => ?_)); (case h0 => walk_at "lk"); (case h1 => assumption); (case h2 => assumption); (case h3 => decide); (case h4 => exact rfl))
  | ((with_reducible refine' ck_ ?_))
  | ((with_reducible refine' zck_ ?h0 ?h1 ?h2 ?_); (case h0 => rfl); (case h1 => rfl); (case h2 => (dsimp only [List.cons_append, List.nil_append, List.append_nil] <;> exact rfl)))
  | ((with_reducible refine' mk_ ?_))
  | ((with_reducible refine' zmeth_ ?h0 ?h1 ?_); (case h0 => walk_at "lk"); (case h1 => exact rfl))
  | ((with_reducible refine' kk_ ?_))
  | ((with_reducible refine' zkk_ ?h0 ?h1 (fun x dx H' nx ndx ne he hx => ?_)); (case h0 => rfl); (case h1 => rfl))
  | ((with_reducible refine' zsp_ ?h0 ?_); (case h0 => (dsimp only [List.cons_append, List.nil_append, List.append_nil] <;> exact rfl)))
  | ((with_reducible refine' extend_ ?h0 ?h1 ?h2 (fun H' hp hb => ?_)); (case h0 => walk_at "lk"); (case h1 => walk_at "lk"); (case h2 => walk_at "sd"))
  | ((with_reducible refine' m1_ ?_))
  | ((with_reducible refine' zm1_ ?_))
  | ((with_reducible refine' count_ ?_))
  | ((with_reducible refine' strI_ ?h0 ?h1 ?_); (case h0 => walk_at "sd"); (case h1 => walk_at "sd"))
  | ((with_reducible refine' divmod_ ?h0 ?h1 (fun p H' hn he hp => ?_)); (case h0 => walk_at "sd"); (case h1 => walk_at "sd"))
  | ((with_reducible refine' abs_ ?_))
  | ((with_reducible refine' min2_ ?_))
  | ((with_reducible refine' max2_ ?_))
  | ((with_reducible refine' seq_for ?_))
  | ((with_reducible refine' for_ ?_))
  | ((with_reducible refine' ilist_ ?_))
  | ((with_reducible refine' zlist_ ?h0 ?_); (case h0 => walk_at "lk"))
  | ((with_reducible refine' zlistQ_ ?h0 ?_); (case h0 => assumption))
  | ((with_reducible refine' istr_ ?_))
  | ((with_reducible refine' zstr_ ?_))
  | ((with_reducible refine' irng1_ ?_))
  | ((with_reducible refine' irng2_ ?_))
  | ((with_reducible refine' zrng1_ ?h0 ?h1 ?_); (case h0 => walk_at "sd"); (case h1 => walk_at "sd"))
  | ((with_reducible refine' zrng2_ ?h0 ?h1 ?h2 ?h3 ?_); (case h0 => walk_at "sd"); (case h1 => walk_at "sd"); (case h2 => walk_at "sd"); (case h3 => walk_at "sd"))
  | ((with_reducible refine' ient_ ?_))
  | ((with_reducible refine' zent_ ?_))
  | ((with_reducible refine' revS_ ?_))
  | ((with_reducible refine' zrevS_ ?h0 ?_); (case h0 => walk_at "sd"))
  | ((with_reducible refine' intI_ ?_))
  | ((with_reducible refine' intB_ ?_))
  | ((with_reducible refine' intS_ ?h0 ?_); (case h0 => assumption))
  | ((with_reducible refine' seq_par3 ?_))
  | ((with_reducible refine' par3_ ?_))
  | ((with_reducible refine' zpar3_ ?_))
  | ((with_reducible refine' isSS_ ?_))
  | ((with_reducible refine' ientK_ ?_))
  | ((with_reducible refine' zenK_ ?h0 ?h1 ?_); (case h0 => walk_at "sd"); (case h1 => walk_at "sd"))
  | ((with_reducible refine' lc_ ?_))
  | ((with_reducible refine' tyes_ ?_))
  | ((with_reducible refine' zput_t ?_))
  | ((with_reducible refine' ifE_ ?_))
  | ((with_reducible refine' andV_ ?_))
  | ((with_reducible refine' zandv_t ?_))
  | ((with_reducible refine' zandv_f ?_))
  | ((with_reducible refine' zorv_t ?_))
  | ((with_reducible refine' zorv_f ?_))
  | ((with_reducible refine' zand_t ?_))
  | ((with_reducible refine' zand_f ?_))
  | ((with_reducible refine' zor_t ?_))
  | ((with_reducible refine' zor_f ?_))
  | ((with_reducible refine' orV_ ?_))
  | ((with_reducible refine' next_ ?_))
  | ((with_reducible refine' nx_ ?h0 ?_); (case h0 => (dsimp only <;> exact rfl)))
  | ((with_reducible refine' rt_ ?h0 ?_); (case h0 => (dsimp only <;> exact rfl)))
  | ((with_reducible refine' brk_ ?_))
  | ((with_reducible refine' cont_ ?_))
  | ((with_reducible refine' bk_ ?h0 ?_); (case h0 => (dsimp only <;> exact rfl)))
  | ((with_reducible refine' ct_ ?h0 ?_); (case h0 => (dsimp only <;> exact rfl)))
  | ((with_reducible refine' seq_ ?_)))
local macro_rules | `(tactic| walk_at "go") => `(tactic| repeat (walk_at "s"))
set_option maxHeartbeats 4000000 in
theorem ok_read_plain {f : Addr} {fd : FuncData} {dV kV : Value} (g : G mg)
    (F : Txt K "read_plain" "read_plain" (defArgs st_read_plain) (defBody st_read_plain) (defScope st_read_plain) dV kV f fd) :
    FnG P w K mg base 4 f fd ["text"] (sp_read_plain) := by
  refine z_fn F sc_read_plain (fun vs H Q E h => by
    obtain ⟨l, rfl, hb, h0, h1, k⟩ := h
    rfl) (fun cd A outer s H vs Q E hr ng h => ?_)
  obtain ⟨l, rfl, hb, h0, h1, k⟩ := h
  obtain ⟨_, c_BITS⟩ := g.c_BITS
  obtain ⟨_, c_MOST_BITS⟩ := g.c_MOST_BITS
  refine ⟨_, [_, none, none], rfl, (pss_cons (ps_for (passes_of rfl) rfl (z_enumKS (by rfl) g.b_enumerate (pa_cons (pe_slice z_sl (pv 0) (po_some pe_int) po_none) pa_nil) (pk_cons pe_int pk_nil)) (pg_tup (by rfl) (pgs_cons (pg_name (i := 1) sc_read_plain.nd rfl (Or.inl rfl)) (pgs_cons (pg_name (i := 2) sc_read_plain.nd rfl (Or.inl rfl)) pgs_nil))) (pss_one (ps_if (PW.pt (pw_or (pt_cmpR z_ni (pv 2) (pe_glob (v := T [48, 49]) (by rfl) c_BITS ⟨_, rfl⟩) rfl) (pw_or1 (pt_cmpR z_gt (pv 1) (pe_glob (v := .int 64) (by rfl) c_MOST_BITS ⟨_, rfl⟩) (nomark _))))) (pss_one ps_never) pss_nil)))
      (pss_cons (ps_if (pt_cmpR (z_eq hr.units) (pe_callB z_len (by rfl) g.b_len (by decide +kernel) (pa_cons (pv 0) pa_nil)) pe_int (nomark _)) (pss_one ps_never) pss_nil)
      (pss_one (ps_ret (pe_slice z_sl (pv 0) (po_some pe_int) po_none))))), ?_⟩
  have ecut : cut (112 :: l) (some 1) none = l := by rw [cut_from _ _ (by omega)]; rfl
  walk_at "go"
  rw [ecut]
  refine forEnT (fun i σ H' => ∃ v w : Option V, σ = [some (T (112 :: l)), v, w] ∧ Ex H H') ⟨none, none, rfl, Ex.refl H⟩ ?_ ?_
  · rintro i c σ H2 H3 hc ⟨v, w, rfl, ex⟩ hx
    have hi : i < l.length := (List.getElem?_eq_some_iff.mp hc).1
    have hbit : c ∈ [48, 49] := by
      rcases hb c (List.mem_of_getElem? hc) with rfl | rfl
      · simp
      · simp
    walk_at "go"
    refine zor_n (fun hq => absurd hbit hq) fun _ => ?_
    walk_at "go"
    exact ⟨_, _, rfl, ex.trans hx⟩
  · rintro σ H2 ⟨v, w, rfl, ex⟩
    walk_at "go"
    rw [ecut]
    exact k _ ex
end
end My
namespace My
open PySem PySem.Spec PyProof.Rows L2 Z
section
variable {P : Program} {w : World} {K : PySem.W.Frag} {mg : Str → Option Value} {base : Heap}
/-! the steps by name -/
local macro_rules | `(tactic| walk_at "sd") => `(tactic| first
  | with_reducible assumption
  | omega
  | (simp only [List.length_append, List.length_cons, List.length_nil, List.length_replicate, rep_len, List.length_map, List.length_set]; omega)
  | decide)
local macro_rules | `(tactic| walk_at "lk") => `(tactic| first
  | with_reducible assumption
  | exact Ex.at_ (by with_reducible assumption) (by walk_at "lk")
  | exact But.at_ (by with_reducible assumption) (by walk_at "ne") (by walk_at "lk"))
local macro_rules | `(tactic| walk_at "ne") => `(tactic| first
  | with_reducible assumption
  | exact Ne.symm (by with_reducible assumption)
  | exact ne_new (by with_reducible assumption) (by walk_at "lk")
  | exact Ne.symm (ne_new (by with_reducible assumption) (by walk_at "lk"))
  | exact Urn.ne_new (by with_reducible assumption) (by walk_at "ur")
  | exact Ne.symm (Urn.ne_new (by with_reducible assumption) (by walk_at "ur")))
local macro_rules | `(tactic| walk_at "ur") => `(tactic| first
  | with_reducible assumption
  | exact Urn.ex (by with_reducible assumption) (by walk_at "ur")
  | exact Urn.but (by with_reducible assumption) (by walk_at "ne") (by walk_at "ur"))
local macro_rules | `(tactic| walk_at "dp") => `(tactic| first
  | with_reducible exact Dp.str _
  | with_reducible exact Dp.int _
  | with_reducible exact Dp.bl _
  | with_reducible exact Dp.non
  | with_reducible assumption
  | ((with_reducible refine' Dp.lst (SqL.of ?h0) ?h1); (case h0 => walk_at "lk"); (case h1 => walk_at "da"))
  | ((with_reducible refine' Dp.tup (SqT.of ?h0) ?h1); (case h0 => walk_at "lk"); (case h1 => walk_at "da"))
  | exact Dp.int _
  | exact Dp.str _)
local macro_rules | `(tactic| walk_at "da") => `(tactic| first
  | exact DpAll.nil
  | ((with_reducible refine' DpAll.cons ?h0 ?h1); (case h0 => walk_at "dp"); (case h1 => walk_at "da"))
  | with_reducible assumption)
local macro_rules | `(tactic| walk_at "ex") => `(tactic| first
  | with_reducible assumption
  | exact Ex.refl _
  | (refine Ex.trans ?_ (by with_reducible assumption); walk_at "ex"))
local macro_rules | `(tactic| walk_at "at") => `(tactic| first
  | with_reducible assumption
  | exact rfl
  | exact atI_nat (by with_reducible assumption)
  | exact atI_last _ _)
local macro_rules | `(tactic| walk_at "s") => `(tactic| first
  | ((with_reducible refine' norm ?h0 ?_); (case h0 => (dsimp only [List.set_cons_zero, List.set_cons_succ] <;> exact rfl)))
  | ((with_reducible refine' var_ ?h0 ?_); (case h0 => exact rfl))
  | ((with_reducible refine' c_ ?_))
  | ((with_reducible refine' op_ ?_))
  | ((with_reducible refine' cons_ ?_))
  | ((with_reducible refine' nil_ ?_))
  | ((with_reducible refine' seq_asg ?_))
  | ((with_reducible refine' asg_ ?_))
  | ((with_reducible refine' ret_ ?_))
  | ((with_reducible refine' cb_ ?_))
  | ((with_reducible refine' c1_ ?_))
  | ((with_reducible refine' addI ?_))
  | ((with_reducible refine' subI ?_))
  | ((with_reducible refine' addS ?h0 ?_); (case h0 => walk_at "sd"))
  | ((with_reducible refine' lenS ?h0 ?_); (case h0 => walk_at "sd"))
  | ((with_reducible refine' ixS ?h0 ?h1 ?_); (case h0 => walk_at "sd"); (case h1 => walk_at "at"))
  | ((with_reducible refine' ixL ?h0 ?h1 ?_); (case h0 => walk_at "lk"); (case h1 => walk_at "at"))
  | ((with_reducible refine' ixU ?h0 ?h1 ?_); (case h0 => walk_at "lk"); (case h1 => walk_at "at"))
  | ((with_reducible refine' ixSq ?h0 ?h1 ?_); (case h0 => assumption); (case h1 => walk_at "at"))
  | ((with_reducible refine' lenL ?h0 ?_); (case h0 => walk_at "lk"))
  | ((with_reducible refine' lenU ?h0 ?_); (case h0 => walk_at "lk"))
  | ((with_reducible refine' lenSq ?h0 ?_); (case h0 => assumption))
  | ((with_reducible refine' mulI ?h0 ?_); (case h0 => first | exact mul_ok1 (by omega) (by omega) | exact mul_ok2 (by omega) (by omega) | with_reducible assumption))
  | ((with_reducible refine' mulS ?h0 ?h1 ?h2 ?_); (case h0 => walk_at "sd"); (case h1 => walk_at "sd"); (case h2 => walk_at "sd"))
  | ((with_reducible refine' divI ?h0 ?h1 ?_); (case h0 => walk_at "sd"); (case h1 => walk_at "sd"))
  | ((with_reducible refine' modI ?h0 ?_); (case h0 => walk_at "sd"))
  | ((with_reducible refine' powI ?h0 ?_); (case h0 => first | with_reducible assumption | exact pow_ok (by decide)))
  | ((with_reducible refine' test_ ?_))
  | ((with_reducible refine' zb_ ?_))
  | ((with_reducible refine' tb_ ?_))
  | ((with_reducible refine' ltI ?_))
  | ((with_reducible refine' leI ?_))
  | ((with_reducible refine' gtI ?_))
  | ((with_reducible refine' geI ?_))
  | ((with_reducible refine' eqII ?_))
  | ((with_reducible refine' eqSS ?_))
  | ((with_reducible refine' neSS ?_))
  | ((with_reducible refine' eqI ?_))
  | ((with_reducible refine' eqS ?_))
  | ((with_reducible refine' neI ?_))
  | ((with_reducible refine' neS ?_))
  | ((with_reducible refine' orT_ ?_))
  | ((with_reducible refine' truth_ ?_))
  | ((with_reducible refine' ztru_b ?_))
  | ((with_reducible refine' ztru_S ?h0 ?_); (case h0 => walk_at "sd"))
  | ((with_reducible refine' inS ?_))
  | ((with_reducible refine' niS ?_))
  | ((with_reducible refine' seq_if ?_))
  | ((with_reducible refine' if_ ?_))
  | ((with_reducible refine' zif_t ?_))
  | ((with_reducible refine' zif_f ?_))
  | ((with_reducible refine' zif_nT ?_))
  | ((with_reducible refine' zif_nF ?_))
  | ((with_reducible refine' zif_dt ?h0 ?_); (case h0 => walk_at "sd"))
  | ((with_reducible refine' zif_df ?h0 ?_); (case h0 => walk_at "sd"))
  | ((with_reducible refine' zif_nt ?h0 ?_); (case h0 => walk_at "sd"))
  | ((with_reducible refine' zif_nf ?h0 ?_); (case h0 => walk_at "sd"))
  | ((with_reducible refine' not_ ?_))
  | ((with_reducible refine' and_ ?_))
  | ((with_reducible refine' or_ ?_))
  | ((with_reducible refine' tup_ ?_))
  | ((with_reducible refine' lst_ ?_))
  | ((with_reducible refine' ztup_ ?h0 (fun p H' hn he hp => ?_)); (case h0 => walk_at "sd"))
  | ((with_reducible refine' zlst_ ?h0 (fun p H' hn he hp => ?_)); (case h0 => walk_at "sd"))
  | ((with_reducible refine' addL ?h0 ?h1 ?h2 (fun p H' hn he hp => ?_)); (case h0 => walk_at "lk"); (case h1 => walk_at "lk"); (case h2 => walk_at "sd"))
  | ((with_reducible refine' un_ ?_))
  | ((with_reducible refine' negI ?_))
  | ((with_reducible refine' sl_ ?_))
  | ((with_reducible refine' nopart_ ?_))
  | ((with_reducible refine' part_ ?_))
  | ((with_reducible refine' zpart_ ?_))
  | ((with_reducible refine' slS ?h0 ?_); (case h0 => walk_at "sd"))
  | ((with_reducible refine' slL ?h0 (fun p H' hn he hp => ?_)); (case h0 => walk_at "lk"))
  | ((with_reducible refine' seq_asgG ?_))
  | ((with_reducible refine' asgG_ ?_))
  | ((with_reducible refine' gtup_ ?h0 ?h1 ?_); (case h0 => walk_at "lk"); (case h1 => rfl))
  | ((with_reducible refine' gcons_ ?_))
  | ((with_reducible refine' gname_ ?_))
  | ((with_reducible refine' gnil_ ?_))
  | ((with_reducible refine' gsub_ ?_))
  | ((with_reducible refine' setL_ ?h0 ?h1 (fun H' hp hb => ?_)); (case h0 => walk_at "lk"); (case h1 => first | rfl | assumption))
  | ((with_reducible refine' seq_par ?_))
  | ((with_reducible refine' par_ ?_))
  | ((with_reducible refine' zpar_ ?_))
  | ((with_reducible refine' seq_aug ?h0 ?_); (case h0 => exact rfl))
  | ((with_reducible refine' aug_ ?h0 ?_); (case h0 => exact rfl))
  | ((with_reducible refine' augS_ ?_))
  | ((with_reducible refine' getL_ ?h0 ?h1 ?_); (case h0 => walk_at "lk"); (case h1 => walk_at "at"))
  | ((with_reducible refine' iaddI ?_))
  | ((with_reducible refine' iaddS ?h0 ?_); (case h0 => walk_at "sd"))
  | ((with_reducible refine' isubI ?_))
  | ((with_reducible refine' imulI ?h0 ?h1 ?_); (case h0 => walk_at "sd"); (case h1 => walk_at "sd"))
  | ((with_reducible refine' idivI ?h0 ?h1 ?_); (case h0 => walk_at "sd"); (case h1 => walk_at "sd"))
  | ((with_reducible refine' seq_drop ?_))
  | ((with_reducible refine' drop_ ?_))
  | ((with_reducible refine' bm_ ?_))
  | ((with_reducible refine' zbmL_ ?h0 ?_); (case h0 => walk_at "lk"))
  | ((with_reducible refine' append_ ?h0 ?h1 (fun H' hp hb => ?_)); (case h0 => walk_at "lk"); (case h1 => walk_at "sd"))
  | ((with_reducible refine' fld_ ?_))
  | ((with_reducible refine' zfld_ ?h0 ?h1 ?h2 ?h3 ?_); (case h0 => walk_at "lk"); (case h1 => assumption); (case h2 => assumption); (case h3 => exact rfl))
  | ((with_reducible refine' seq_fld ?_))
  | ((with_reducible refine' fldS_ ?_))
  | ((with_reducible refine' zset_ ?h0 ?h1 ?h2 ?h3 ?h4 (fun H' hp hb => ?_)); (case h0 => walk_at "lk"); (case h1 => assumption); (case h2 => assumption); (case h3 => decide); (case h4 => exact rfl))
  | ((with_reducible refine' ck_ ?_))
  | ((with_reducible refine' zck_ ?h0 ?h1 ?h2 ?_); (case h0 => rfl); (case h1 => rfl); (case h2 => (dsimp only [List.cons_append, List.nil_append, List.append_nil] <;> exact rfl)))
  | ((with_reducible refine' mk_ ?_))
  | ((with_reducible refine' zmeth_ ?h0 ?h1 ?_); (case h0 => walk_at "lk"); (case h1 => exact rfl))
  | ((with_reducible refine' kk_ ?_))
  | ((with_reducible refine' zkk_ ?h0 ?h1 (fun x dx H' nx ndx ne he hx => ?_)); (case h0 => rfl); (case h1 => rfl))
  | ((with_reducible refine' zsp_ ?h0 ?_); (case h0 => (dsimp only [List.cons_append, List.nil_append, List.append_nil] <;> exact rfl)))
  | ((with_reducible refine' extend_ ?h0 ?h1 ?h2 (fun H' hp hb => ?_)); (case h0 => walk_at "lk"); (case h1 => walk_at "lk"); (case h2 => walk_at "sd"))
  | ((with_reducible refine' m1_ ?_))
  | ((with_reducible refine' zm1_ ?_))
  | ((with_reducible refine' count_ ?_))
  | ((with_reducible refine' strI_ ?h0 ?h1 ?_); (case h0 => walk_at "sd"); (case h1 => walk_at "sd"))
  | ((with_reducible refine' divmod_ ?h0 ?h1 (fun p H' hn he hp => ?_)); (case h0 => walk_at "sd"); (case h1 => walk_at "sd"))
  | ((with_reducible refine' abs_ ?_))
  | ((with_reducible refine' min2_ ?_))
  | ((with_reducible refine' max2_ ?_))
  | ((with_reducible refine' seq_for ?_))
  | ((with_reducible refine' for_ ?_))
  | ((with_reducible refine' ilist_ ?_))
  | ((with_reducible refine' zlist_ ?h0 ?_); (case h0 => walk_at "lk"))
  | ((with_reducible refine' zlistQ_ ?h0 ?_); (case h0 => assumption))
  | ((with_reducible refine' istr_ ?_))
  | ((with_reducible refine' zstr_ ?_))
  | ((with_reducible refine' irng1_ ?_))
  | ((with_reducible refine' irng2_ ?_))
  | ((with_reducible refine' zrng1_ ?h0 ?h1 ?_); (case h0 => walk_at "sd"); (case h1 => walk_at "sd"))
  | ((with_reducible refine' zrng2_ ?h0 ?h1 ?h2 ?h3 ?_); (case h0 => walk_at "sd"); (case h1 => walk_at "sd"); (case h2 => walk_at "sd"); (case h3 => walk_at "sd"))
  | ((with_reducible refine' ient_ ?_))
  | ((with_reducible refine' zent_ ?_))
  | ((with_reducible refine' revS_ ?_))
  | ((with_reducible refine' zrevS_ ?h0 ?_); (case h0 => walk_at "sd"))
  | ((with_reducible refine' intI_ ?_))
  | ((with_reducible refine' intB_ ?_))
  | ((with_reducible refine' intS_ ?h0 ?_); (case h0 => assumption))
  | ((with_reducible refine' seq_par3 ?_))
  | ((with_reducible refine' par3_ ?_))
  | ((with_reducible refine' zpar3_ ?_))
  | ((with_reducible refine' isSS_ ?_))
  | ((with_reducible refine' ientK_ ?_))
  | ((with_reducible refine' zenK_ ?h0 ?h1 ?_); (case h0 => walk_at "sd"); (case h1 => walk_at "sd"))
  | ((with_reducible refine' lc_ ?_))
  | ((with_reducible refine' tyes_ ?_))
  | ((with_reducible refine' zput_t ?_))
  | ((with_reducible refine' ifE_ ?_))
  | ((with_reducible refine' andV_ ?_))
  | ((with_reducible refine' zandv_t ?_))
  | ((with_reducible refine' zandv_f ?_))
  | ((with_reducible refine' zorv_t ?_))
  | ((with_reducible refine' zorv_f ?_))
  | ((with_reducible refine' zand_t ?_))
  | ((with_reducible refine' zand_f ?_))
  | ((with_reducible refine' zor_t ?_))
  | ((with_reducible refine' zor_f ?_))
  | ((with_reducible refine' orV_ ?_))
  | ((with_reducible refine' next_ ?_))
  | ((with_reducible refine' nx_ ?h0 ?_); (case h0 => (dsimp only <;> exact rfl)))
  | ((with_reducible refine' rt_ ?h0 ?_); (case h0 => (dsimp only <;> exact rfl)))
  | ((with_reducible refine' brk_ ?_))
  | ((with_reducible refine' cont_ ?_))
  | ((with_reducible refine' bk_ ?h0 ?_); (case h0 => (dsimp only <;> exact rfl)))
  | ((with_reducible refine' ct_ ?h0 ?_); (case h0 => (dsimp only <;> exact rfl)))
  | ((with_reducible refine' seq_ ?_)))
local macro_rules | `(tactic| walk_at "go") => `(tactic| repeat (walk_at "s"))
set_option maxHeartbeats 4000000 in
theorem ok_read_number {f : Addr} {fd : FuncData} {dV kV : Value} (g : G mg)
    (F : Txt K "read_number" "read_number" (defArgs st_read_number) (defBody st_read_number) (defScope st_read_number) dV kV f fd) :
    FnG P w K mg base 4 f fd ["text", "at", "room"] (sp_read_number) := by
  refine z_fn F sc_read_number (fun vs H Q E h => by
    obtain ⟨t, a, r, n, i, room, rfl, ht, rfl, hl, hn, hr1, hr2, k⟩ := h
    rfl) (fun cd A outer s H vs Q E hr ng h => ?_)
  obtain ⟨t, a, r, n, i, room, rfl, ht, rfl, hl, hn, hr1, hr2, k⟩ := h
  obtain ⟨_, c_BITS⟩ := g.c_BITS
  refine ⟨_, [_, _, _, none, none, none], rfl, (pss_cons (ps_set (i := 3) sc_read_number.nd rfl (Or.inl rfl) pe_int)
      (pss_cons (ps_while (passes_of rfl) (PW.pt (pw_and (pt_cmpR (z_eq hr.units) (pe_slice z_sl (pv 0) (po_some (pv 1)) (po_some (pe_op z_add (pv 1) pe_int))) (z_str lit_1) (nomark _)) (pw_and1 (pt_cmpR z_le (pe_op z_mul pe_int (pv 3)) (pv 2) (nomark _))))) (pss_cons (ps_aug (i := 3) sc_read_number.nd rfl (Or.inl rfl) pe_int z_imul)
      (pss_one (ps_aug (i := 1) sc_read_number.nd rfl (Or.inl rfl) pe_int z_iadd))))
      (pss_cons (ps_if (PW.pt (pw_or (pt_cmpR (z_ne hr.units) (pe_slice z_sl (pv 0) (po_some (pv 1)) (po_some (pe_op z_add (pv 1) pe_int))) (z_str lit_4) (nomark _)) (pw_or1 (pt_cmpR z_gt (pv 3) (pv 2) (nomark _))))) (pss_one ps_never) pss_nil)
      (pss_cons (ps_set (i := 4) sc_read_number.nd rfl (Or.inl rfl) pe_int)
      (pss_cons (ps_while (passes_of rfl) (pt_cmpR z_gt (pv 3) pe_int (nomark _)) (pss_cons (ps_set (i := 5) sc_read_number.nd rfl (Or.inl rfl) (pe_slice z_sl (pv 0) (po_some (pv 1)) (po_some (pe_op z_add (pv 1) pe_int))))
      (pss_cons (ps_if (PW.pt (pw_or (pt_cmpR (z_eq hr.units) (pv 5) (z_str lit_0) (nomark _)) (pw_or1 (pt_cmpR z_ni (pv 5) (pe_glob (v := T [48, 49]) (by rfl) c_BITS ⟨_, rfl⟩) rfl)))) (pss_one ps_never) pss_nil)
      (pss_cons (ps_set (i := 4) sc_read_number.nd rfl (Or.inl rfl) (pe_op z_add (pe_op z_mul pe_int (pv 4)) (pe_callTy z_int_of (by rfl) g.b_int (by decide +kernel) (pa_cons (pv 5) pa_nil))))
      (pss_cons (ps_if (pt_cmpR z_gt (pe_op z_mul (pv 4) (pv 3)) (pv 2) (nomark _)) (pss_one ps_never) pss_nil)
      (pss_cons (ps_aug (i := 3) sc_read_number.nd rfl (Or.inl rfl) pe_int z_ifdiv)
      (pss_one (ps_aug (i := 1) sc_read_number.nd rfl (Or.inl rfl) pe_int z_iadd))))))))
      (pss_one (ps_ret (pe_tup (pa_cons (pv 4) (pa_cons (pv 1) pa_nil)))))))))), ?_⟩
  have hb := figs_bound (Nat.lt_succ_self n) hn
  have hp := figs_pos hn
  obtain ⟨L, hL⟩ : ∃ L, L = (figs n).length := ⟨_, rfl⟩
  rw [← hL] at hb hp
  have hlen := ncode_len2 n
  rw [← hL] at hlen
  have htl : t.length = a.length + (L - 1 + L + r.length) := by rw [ht, List.length_append, List.length_append, hlen]
  have hfig : ∀ k, k < L → t[a.length + (L - 1 + k)]? = some (48 + n / 2 ^ (L - 1 - k) % 2) := fun k hk => by rw [ht, hL]; exact nc_fig (hL ▸ hk)
  have hnou : ∀ j, j < L - 1 → t[a.length + j]? = some 48 := fun j hj => by rw [ht]; exact nc_nought (hL ▸ hj)
  have hone : n / 2 ^ (L - 1 - 0) % 2 = 1 := by
    have e2 : 2 ^ L = 2 * 2 ^ (L - 1) := by rw [← Nat.pow_succ']; congr 1; omega
    have h1 : n / 2 ^ (L - 1) = 1 := by
      apply Nat.div_eq_of_lt_le
      · omega
      · omega
    rw [Nat.sub_zero, h1]
  walk_at "go"
  refine seq_while (fun m σ H' => ∃ j p : Nat, σ = [some (T t), some (.int ((a.length + j : Nat) : Int)), some (.int room), some (.int (p : Int)), none, none] ∧ p = 2 ^ j ∧ j + m = L - 1 ∧ Ex H H') (L - 1) ⟨0, 1, rfl, rfl, by omega, Ex.refl H⟩ ?_
  rintro m σ H1 ⟨j, p, rfl, hpj, hj, ex⟩
  have p1 : p ≤ n := by
    have : 2 ^ j ≤ 2 ^ (L - 1) := Nat.pow_le_pow_right (by omega) (by omega)
    omega
  by_cases hm : m = 0
  · subst hm
    have ej : j = L - 1 := by omega
    have hc := cut_one (hfig 0 hp)
    rw [hone, Nat.add_zero, ← ej] at hc
    walk_at "go"
    rw [hc]
    walk_at "go"
    refine zand_d (fun q => absurd q (by decide)) fun _ => ?_
    refine zwh_b (fun q => nomatch q) fun _ => ?_
    have hpl : p = 2 ^ (L - 1) := by rw [hpj, ej]
    subst ej
    walk_at "go"
    rw [hc]
    walk_at "go"
    refine zor_n (fun q => absurd rfl q) fun _ => ?_
    walk_at "go"
    refine seq_while (fun m σ H' => ∃ (i q : Nat) (v : Option V), σ = [some (T t), some (.int ((a.length + (L - 1 + i) : Nat) : Int)), some (.int room), some (.int (q : Int)), some (.int ((n / 2 ^ (L - i) : Nat) : Int)), v] ∧ q = 2 ^ (L - i) / 2 ∧ i + m = L ∧ Ex H H') L ⟨0, p, none, ?_, ?_, by omega, ex⟩ ?_
    · rw [Nat.sub_zero, Nat.div_eq_of_lt hb.2]; rfl
    · have e2 : 2 ^ L = 2 * 2 ^ (L - 1) := by rw [← Nat.pow_succ']; congr 1; omega
      rw [hpl, Nat.sub_zero]; omega
    rintro m σ H2 ⟨i, q, v, rfl, hq, hi, ex2⟩
    have q1 : q ≤ n := by
      have h1 : 2 ^ (L - i) ≤ 2 ^ L := Nat.pow_le_pow_right (by omega) (by omega)
      have e2 : 2 ^ L = 2 * 2 ^ (L - 1) := by rw [← Nat.pow_succ']; congr 1; omega
      omega
    by_cases hm : m = 0
    · subst hm
      have hiL : i = L := by omega
      subst hiL
      rw [Nat.sub_self] at hq ⊢
      have hq0 : q = 0 := by rw [hq]
      subst hq0
      walk_at "go"
      refine zwh_d (fun z => absurd z (by omega)) fun _ => ?_
      walk_at "go"
      rename_i p9 H9 n9 x9 h9
      refine k _ _ (ex2.back n9) (ex2.trans x9) ?_
      rw [h9, Nat.pow_zero, Nat.div_one, List.length_append, hlen]
    · have hiL : i < L := by omega
      have e1 : L - i = (L - 1 - i) + 1 := by omega
      have hc2 := cut_one (hfig i hiL)
      have hq2 : q = 2 ^ (L - 1 - i) := by rw [hq, e1, Nat.pow_succ', Nat.mul_div_cancel_left _ (by omega)]
      have hq0 : 0 < q := by rw [hq2]; exact Nat.pow_pos (by omega)
      have hdv : n / 2 ^ (L - i) = n / q / 2 := by rw [hq2, e1, Nat.pow_succ, Nat.div_div_eq_div_mul]
      rw [← hq2] at hc2
      rw [hdv]
      obtain ⟨d, hd⟩ : ∃ d, d = n / q := ⟨_, rfl⟩
      have hdq : d * q ≤ n := by rw [hd]; exact Nat.div_mul_le_self n q
      rw [← hd] at hc2 ⊢
      have hbit : 48 + d % 2 = 48 ∨ 48 + d % 2 = 49 := by omega
      have hmem : 48 + d % 2 ∈ [48, 49] := by
        rcases hbit with z | z
        · rw [z]; simp
        · rw [z]; simp
      have ev : 2 * ((d / 2 : Nat) : Int) + (((48 + d % 2 : Nat) : Int) - 48) = ((d : Nat) : Int) := by omega
      walk_at "go"
      refine zwh_d (fun _ => ?_) fun z => absurd (by omega) z
      walk_at "go"
      rw [hc2]
      walk_at "go"
      refine zor_d (fun z => nomatch z) fun _ => ?_
      walk_at "go"
      rw [ev]
      refine zif_df ?_ ?_
      · have : ((d * q : Nat) : Int) = (d : Int) * (q : Int) := Int.natCast_mul _ _
        omega
      walk_at "go"
      refine less_ (m - 1) (by omega) ⟨i + 1, q / 2, some (T [48 + d % 2]), ?_, ?_, by omega, ex2⟩
      · have e5 : L - (i + 1) = L - 1 - i := by omega
        rw [e5, ← hq2, ← hd]
        rfl
      · have e5 : L - (i + 1) = L - 1 - i := by omega
        rw [e5, ← hq2]
  · have hc := cut_one (hnou j (by omega))
    have p2 : 2 * p ≤ n := by
      have h1 : 2 ^ (j + 1) ≤ 2 ^ (L - 1) := Nat.pow_le_pow_right (by omega) (by omega)
      rw [Nat.pow_succ'] at h1
      omega
    walk_at "go"
    rw [hc]
    walk_at "go"
    refine zand_d (fun _ => ?_) (fun q => absurd rfl q)
    walk_at "go"
    refine zwh_d (fun _ => ?_) (fun q => absurd (by omega) q)
    walk_at "go"
    refine less_ (m - 1) (by omega) ⟨j + 1, p * 2, ?_, by rw [hpj, Nat.pow_succ], by omega, ex⟩
    rfl
end
end My
namespace My
open PySem PySem.Spec PyProof.Rows L2 Z
section
variable {P : Program} {w : World} {K : PySem.W.Frag} {mg : Str → Option Value} {base : Heap}
/-! the steps by name -/
local macro_rules | `(tactic| walk_at "sd") => `(tactic| first
  | with_reducible assumption
  | omega
  | (simp only [List.length_append, List.length_cons, List.length_nil, List.length_replicate, rep_len, List.length_map, List.length_set]; omega)
  | decide)
local macro_rules | `(tactic| walk_at "lk") => `(tactic| first
  | with_reducible assumption
  | exact Ex.at_ (by with_reducible assumption) (by walk_at "lk")
  | exact But.at_ (by with_reducible assumption) (by walk_at "ne") (by walk_at "lk"))
local macro_rules | `(tactic| walk_at "ne") => `(tactic| first
  | with_reducible assumption
  | exact Ne.symm (by with_reducible assumption)
  | exact ne_new (by with_reducible assumption) (by walk_at "lk")
  | exact Ne.symm (ne_new (by with_reducible assumption) (by walk_at "lk"))
  | exact Urn.ne_new (by with_reducible assumption) (by walk_at "ur")
  | exact Ne.symm (Urn.ne_new (by with_reducible assumption) (by walk_at "ur")))
local macro_rules | `(tactic| walk_at "ur") => `(tactic| first
  | with_reducible assumption
  | exact Urn.ex (by with_reducible assumption) (by walk_at "ur")
  | exact Urn.but (by with_reducible assumption) (by walk_at "ne") (by walk_at "ur"))
local macro_rules | `(tactic| walk_at "dp") => `(tactic| first
  | with_reducible exact Dp.str _
  | with_reducible exact Dp.int _
  | with_reducible exact Dp.bl _
  | with_reducible exact Dp.non
  | with_reducible assumption
  | ((with_reducible refine' Dp.lst (SqL.of ?h0) ?h1); (case h0 => walk_at "lk"); (case h1 => walk_at "da"))
  | ((with_reducible refine' Dp.tup (SqT.of ?h0) ?h1); (case h0 => walk_at "lk"); (case h1 => walk_at "da"))
  | exact Dp.int _
  | exact Dp.str _)
local macro_rules | `(tactic| walk_at "da") => `(tactic| first
  | exact DpAll.nil
  | ((with_reducible refine' DpAll.cons ?h0 ?h1); (case h0 => walk_at "dp"); (case h1 => walk_at "da"))
  | with_reducible assumption)
local macro_rules | `(tactic| walk_at "ex") => `(tactic| first
  | with_reducible assumption
  | exact Ex.refl _
  | (refine Ex.trans ?_ (by with_reducible assumption); walk_at "ex"))
local macro_rules | `(tactic| walk_at "at") => `(tactic| first
  | with_reducible assumption
  | exact rfl
  | exact atI_nat (by with_reducible assumption)
  | exact atI_last _ _)
local macro_rules | `(tactic| walk_at "s") => `(tactic| first
  | ((with_reducible refine' norm ?h0 ?_); (case h0 => (dsimp only [List.set_cons_zero, List.set_cons_succ] <;> exact rfl)))
  | ((with_reducible refine' var_ ?h0 ?_); (case h0 => exact rfl))
  | ((with_reducible refine' c_ ?_))
  | ((with_reducible refine' op_ ?_))
  | ((with_reducible refine' cons_ ?_))
  | ((with_reducible refine' nil_ ?_))
  | ((with_reducible refine' seq_asg ?_))
  | ((with_reducible refine' asg_ ?_))
  | ((with_reducible refine' ret_ ?_))
  | ((with_reducible refine' cb_ ?_))
  | ((with_reducible refine' c1_ ?_))
  | ((with_reducible refine' addI ?_))
  | ((with_reducible refine' subI ?_))
  | ((with_reducible refine' addS ?h0 ?_); (case h0 => walk_at "sd"))
  | ((with_reducible refine' lenS ?h0 ?_); (case h0 => walk_at "sd"))
  | ((with_reducible refine' ixS ?h0 ?h1 ?_); (case h0 => walk_at "sd"); (case h1 => walk_at "at"))
  | ((with_reducible refine' ixL ?h0 ?h1 ?_); (case h0 => walk_at "lk"); (case h1 => walk_at "at"))
  | ((with_reducible refine' ixU ?h0 ?h1 ?_); (case h0 => walk_at "lk"); (case h1 => walk_at "at"))
  | ((with_reducible refine' ixSq ?h0 ?h1 ?_); (case h0 => assumption); (case h1 => walk_at "at"))
  | ((with_reducible refine' lenL ?h0 ?_); (case h0 => walk_at "lk"))
  | ((with_reducible refine' lenU ?h0 ?_); (case h0 => walk_at "lk"))
  | ((with_reducible refine' lenSq ?h0 ?_); (case h0 => assumption))
  | ((with_reducible refine' mulI ?h0 ?_); (case h0 => first | exact mul_ok1 (by omega) (by omega) | exact mul_ok2 (by omega) (by omega) | with_reducible assumption))
  | ((with_reducible refine' mulS ?h0 ?h1 ?h2 ?_); (case h0 => walk_at "sd"); (case h1 => walk_at "sd"); (case h2 => walk_at "sd"))
  | ((with_reducible refine' divI ?h0 ?h1 ?_); (case h0 => walk_at "sd"); (case h1 => walk_at "sd"))
  | ((with_reducible refine' modI ?h0 ?_); (case h0 => walk_at "sd"))
  | ((with_reducible refine' powI ?h0 ?_); (case h0 => first | with_reducible assumption | exact pow_ok (by decide)))
  | ((with_reducible refine' test_ ?_))
  | ((with_reducible refine' zb_ ?_))
  | ((with_reducible refine' tb_ ?_))
  | ((with_reducible refine' ltI ?_))
  | ((with_reducible refine' leI ?_))
  | ((with_reducible refine' gtI ?_))
  | ((with_reducible refine' geI ?_))
  | ((with_reducible refine' eqII ?_))
  | ((with_reducible refine' eqSS ?_))
  | ((with_reducible refine' neSS ?_))
  | ((with_reducible refine' eqI ?_))
  | ((with_reducible refine' eqS ?_))
  | ((with_reducible refine' neI ?_))
  | ((with_reducible refine' neS ?_))
  | ((with_reducible refine' orT_ ?_))
  | ((with_reducible refine' truth_ ?_))
  | ((with_reducible refine' ztru_b ?_))
  | ((with_reducible refine' ztru_S ?h0 ?_); (case h0 => walk_at "sd"))
  | ((with_reducible refine' inS ?_))
  | ((with_reducible refine' niS ?_))
  | ((with_reducible refine' seq_if ?_))
  | ((with_reducible refine' if_ ?_))
  | ((with_reducible refine' zif_t ?_))
  | ((with_reducible refine' zif_f ?_))
  | ((with_reducible refine' zif_nT ?_))
  | ((with_reducible refine' zif_nF ?_))
  | ((with_reducible refine' zif_dt ?h0 ?_); (case h0 => walk_at "sd"))
  | ((with_reducible refine' zif_df ?h0 ?_); (case h0 => walk_at "sd"))
  | ((with_reducible refine' zif_nt ?h0 ?_); (case h0 => walk_at "sd"))
  | ((with_reducible refine' zif_nf ?h0 ?_); (case h0 => walk_at "sd"))
  | ((with_reducible refine' not_ ?_))
  | ((with_reducible refine' and_ ?_))
  | ((with_reducible refine' or_ ?_))
  | ((with_reducible refine' tup_ ?_))
  | ((with_reducible refine' lst_ ?_))
  | ((with_reducible refine' ztup_ ?h0 (fun p H' hn he hp => ?_)); (case h0 => walk_at "sd"))
  | ((with_reducible refine' zlst_ ?h0 (fun p H' hn he hp => ?_)); (case h0 => walk_at "sd"))
  | ((with_reducible refine' addL ?h0 ?h1 ?h2 (fun p H' hn he hp => ?_)); (case h0 => walk_at "lk"); (case h1 => walk_at "lk"); (case h2 => walk_at "sd"))
  | ((with_reducible refine' un_ ?_))
  | ((with_reducible refine' negI ?_))
  | ((with_reducible refine' sl_ ?_))
  | ((with_reducible refine' nopart_ ?_))
  | ((with_reducible refine' part_ ?_))
  | ((with_reducible refine' zpart_ ?_))
  | ((with_reducible refine' slS ?h0 ?_); (case h0 => walk_at "sd"))
  | ((with_reducible refine' slL ?h0 (fun p H' hn he hp => ?_)); (case h0 => walk_at "lk"))
  | ((with_reducible refine' seq_asgG ?_))
  | ((with_reducible refine' asgG_ ?_))
  | ((with_reducible refine' gtup_ ?h0 ?h1 ?_); (case h0 => walk_at "lk"); (case h1 => rfl))
  | ((with_reducible refine' gcons_ ?_))
  | ((with_reducible refine' gname_ ?_))
  | ((with_reducible refine' gnil_ ?_))
  | ((with_reducible refine' gsub_ ?_))
  | ((with_reducible refine' setL_ ?h0 ?h1 (fun H' hp hb => ?_)); (case h0 => walk_at "lk"); (case h1 => first | rfl | assumption))
  | ((with_reducible refine' seq_par ?_))
  | ((with_reducible refine' par_ ?_))
  | ((with_reducible refine' zpar_ ?_))
  | ((with_reducible refine' seq_aug ?h0 ?_); (case h0 => exact rfl))
  | ((with_reducible refine' aug_ ?h0 ?_); (case h0 => exact rfl))
  | ((with_reducible refine' augS_ ?_))
  | ((with_reducible refine' getL_ ?h0 ?h1 ?_); (case h0 => walk_at "lk"); (case h1 => walk_at "at"))
  | ((with_reducible refine' iaddI ?_))
  | ((with_reducible refine' iaddS ?h0 ?_); (case h0 => walk_at "sd"))
  | ((with_reducible refine' isubI ?_))
  | ((with_reducible refine' imulI ?h0 ?h1 ?_); (case h0 => walk_at "sd"); (case h1 => walk_at "sd"))
  | ((with_reducible refine' idivI ?h0 ?h1 ?_); (case h0 => walk_at "sd"); (case h1 => walk_at "sd"))
  | ((with_reducible refine' seq_drop ?_))
  | ((with_reducible refine' drop_ ?_))
  | ((with_reducible refine' bm_ ?_))
  | ((with_reducible refine' zbmL_ ?h0 ?_); (case h0 => walk_at "lk"))
  | ((with_reducible refine' append_ ?h0 ?h1 (fun H' hp hb => ?_)); (case h0 => walk_at "lk"); (case h1 => walk_at "sd"))
  | ((with_reducible refine' fld_ ?_))
  | ((with_reducible refine' zfld_ ?h0 ?h1 ?h2 ?h3 ?_); (case h0 => walk_at "lk"); (case h1 => assumption); (case h2 => assumption); (case h3 => exact rfl))
  | ((with_reducible refine' seq_fld ?_))
  | ((with_reducible refine' fldS_ ?_))
  | ((with_reducible refine' zset_ ?h0 ?h1 ?h2 ?h3 ?h4 (fun H' hp hb => ?_)); (case h0 => walk_at "lk"); (case h1 => assumption); (case h2 => assumption); (case h3 => decide); (case h4 => exact rfl))
  | ((with_reducible refine' ck_ ?_))
  | ((with_reducible refine' zck_ ?h0 ?h1 ?h2 ?_); (case h0 => rfl); (case h1 => rfl); (case h2 => (dsimp only [List.cons_append, List.nil_append, List.append_nil] <;> exact rfl)))
  | ((with_reducible refine' mk_ ?_))
  | ((with_reducible refine' zmeth_ ?h0 ?h1 ?_); (case h0 => walk_at "lk"); (case h1 => exact rfl))
  | ((with_reducible refine' kk_ ?_))
  | ((with_reducible refine' zkk_ ?h0 ?h1 (fun x dx H' nx ndx ne he hx => ?_)); (case h0 => rfl); (case h1 => rfl))
  | ((with_reducible refine' zsp_ ?h0 ?_); (case h0 => (dsimp only [List.cons_append, List.nil_append, List.append_nil] <;> exact rfl)))
  | ((with_reducible refine' extend_ ?h0 ?h1 ?h2 (fun H' hp hb => ?_)); (case h0 => walk_at "lk"); (case h1 => walk_at "lk"); (case h2 => walk_at "sd"))
  | ((with_reducible refine' m1_ ?_))
  | ((with_reducible refine' zm1_ ?_))
  | ((with_reducible refine' count_ ?_))
  | ((with_reducible refine' strI_ ?h0 ?h1 ?_); (case h0 => walk_at "sd"); (case h1 => walk_at "sd"))
  | ((with_reducible refine' divmod_ ?h0 ?h1 (fun p H' hn he hp => ?_)); (case h0 => walk_at "sd"); (case h1 => walk_at "sd"))
  | ((with_reducible refine' abs_ ?_))
  | ((with_reducible refine' min2_ ?_))
  | ((with_reducible refine' max2_ ?_))
  | ((with_reducible refine' seq_for ?_))
  | ((with_reducible refine' for_ ?_))
  | ((with_reducible refine' ilist_ ?_))
  | ((with_reducible refine' zlist_ ?h0 ?_); (case h0 => walk_at "lk"))
  | ((with_reducible refine' zlistQ_ ?h0 ?_); (case h0 => assumption))
  | ((with_reducible refine' istr_ ?_))
  | ((with_reducible refine' zstr_ ?_))
  | ((with_reducible refine' irng1_ ?_))
  | ((with_reducible refine' irng2_ ?_))
  | ((with_reducible refine' zrng1_ ?h0 ?h1 ?_); (case h0 => walk_at "sd"); (case h1 => walk_at "sd"))
  | ((with_reducible refine' zrng2_ ?h0 ?h1 ?h2 ?h3 ?_); (case h0 => walk_at "sd"); (case h1 => walk_at "sd"); (case h2 => walk_at "sd"); (case h3 => walk_at "sd"))
  | ((with_reducible refine' ient_ ?_))
  | ((with_reducible refine' zent_ ?_))
  | ((with_reducible refine' revS_ ?_))
  | ((with_reducible refine' zrevS_ ?h0 ?_); (case h0 => walk_at "sd"))
  | ((with_reducible refine' intI_ ?_))
  | ((with_reducible refine' intB_ ?_))
  | ((with_reducible refine' intS_ ?h0 ?_); (case h0 => assumption))
  | ((with_reducible refine' seq_par3 ?_))
  | ((with_reducible refine' par3_ ?_))
  | ((with_reducible refine' zpar3_ ?_))
  | ((with_reducible refine' isSS_ ?_))
  | ((with_reducible refine' ientK_ ?_))
  | ((with_reducible refine' zenK_ ?h0 ?h1 ?_); (case h0 => walk_at "sd"); (case h1 => walk_at "sd"))
  | ((with_reducible refine' lc_ ?_))
  | ((with_reducible refine' tyes_ ?_))
  | ((with_reducible refine' zput_t ?_))
  | ((with_reducible refine' ifE_ ?_))
  | ((with_reducible refine' andV_ ?_))
  | ((with_reducible refine' zandv_t ?_))
  | ((with_reducible refine' zandv_f ?_))
  | ((with_reducible refine' zorv_t ?_))
  | ((with_reducible refine' zorv_f ?_))
  | ((with_reducible refine' zand_t ?_))
  | ((with_reducible refine' zand_f ?_))
  | ((with_reducible refine' zor_t ?_))
  | ((with_reducible refine' zor_f ?_))
  | ((with_reducible refine' orV_ ?_))
  | ((with_reducible refine' next_ ?_))
  | ((with_reducible refine' nx_ ?h0 ?_); (case h0 => (dsimp only <;> exact rfl)))
  | ((with_reducible refine' rt_ ?h0 ?_); (case h0 => (dsimp only <;> exact rfl)))
  | ((with_reducible refine' brk_ ?_))
  | ((with_reducible refine' cont_ ?_))
  | ((with_reducible refine' bk_ ?h0 ?_); (case h0 => (dsimp only <;> exact rfl)))
  | ((with_reducible refine' ct_ ?h0 ?_); (case h0 => (dsimp only <;> exact rfl)))
  | ((with_reducible refine' seq_ ?_)))
local macro_rules | `(tactic| walk_at "go") => `(tactic| repeat (walk_at "s"))
set_option maxHeartbeats 4000000 in
theorem ok_other_bit {f : Addr} {fd : FuncData} {dV kV : Value} (g : G mg)
    (F : Txt K "other_bit" "other_bit" (defArgs st_other_bit) (defBody st_other_bit) (defScope st_other_bit) dV kV f fd) :
    FnG P w K mg base 1 f fd ["bit"] (sp_other_bit) := by
  refine z_fn F sc_other_bit (fun vs H Q E h => by
    obtain ⟨c, rfl, hb, k⟩ := h
    rfl) (fun cd A outer s H vs Q E hr ng h => ?_)
  obtain ⟨c, rfl, hb, k⟩ := h
  refine ⟨_, [_], rfl, (pss_one (ps_ret (pe_ifExp (pt_cmpR (z_eq hr.units) (pv 0) (z_str lit_1) (nomark _)) (z_str lit_4) (z_str lit_1)))), ?_⟩
  walk_at "go"
  refine zife_d (fun hq => ?_) (fun hq => ?_)
  · have hq2 : c = 48 := by simpa using hq
    subst hq2
    walk_at "go"
    exact k
  · have hq2 : c = 49 := by
      rcases hb with z | z
      · subst z; exact absurd rfl hq
      · exact z
    subst hq2
    walk_at "go"
    exact k
end
end My
namespace My
open PySem PySem.Spec PyProof.Rows L2 Z
section
variable {P : Program} {w : World} {K : PySem.W.Frag} {mg : Str → Option Value} {base : Heap}
/-! the steps by name -/
local macro_rules | `(tactic| walk_at "sd") => `(tactic| first
  | with_reducible assumption
  | omega
  | (simp only [List.length_append, List.length_cons, List.length_nil, List.length_replicate, rep_len, List.length_map, List.length_set]; omega)
  | decide)
local macro_rules | `(tactic| walk_at "lk") => `(tactic| first
  | with_reducible assumption
  | exact Ex.at_ (by with_reducible assumption) (by walk_at "lk")
  | exact But.at_ (by with_reducible assumption) (by walk_at "ne") (by walk_at "lk"))
local macro_rules | `(tactic| walk_at "ne") => `(tactic| first
  | with_reducible assumption
  | exact Ne.symm (by with_reducible assumption)
  | exact ne_new (by with_reducible assumption) (by walk_at "lk")
  | exact Ne.symm (ne_new (by with_reducible assumption) (by walk_at "lk"))
  | exact Urn.ne_new (by with_reducible assumption) (by walk_at "ur")
  | exact Ne.symm (Urn.ne_new (by with_reducible assumption) (by walk_at "ur")))
local macro_rules | `(tactic| walk_at "ur") => `(tactic| first
  | with_reducible assumption
  | exact Urn.ex (by with_reducible assumption) (by walk_at "ur")
  | exact Urn.but (by with_reducible assumption) (by walk_at "ne") (by walk_at "ur"))
local macro_rules | `(tactic| walk_at "dp") => `(tactic| first
  | with_reducible exact Dp.str _
  | with_reducible exact Dp.int _
  | with_reducible exact Dp.bl _
  | with_reducible exact Dp.non
  | with_reducible assumption
  | ((with_reducible refine' Dp.lst (SqL.of ?h0) ?h1); (case h0 => walk_at "lk"); (case h1 => walk_at "da"))
  | ((with_reducible refine' Dp.tup (SqT.of ?h0) ?h1); (case h0 => walk_at "lk"); (case h1 => walk_at "da"))
  | exact Dp.int _
  | exact Dp.str _)
local macro_rules | `(tactic| walk_at "da") => `(tactic| first
  | exact DpAll.nil
  | ((with_reducible refine' DpAll.cons ?h0 ?h1); (case h0 => walk_at "dp"); (case h1 => walk_at "da"))
  | with_reducible assumption)
local macro_rules | `(tactic| walk_at "ex") => `(tactic| first
  | with_reducible assumption
  | exact Ex.refl _
  | (refine Ex.trans ?_ (by with_reducible assumption); walk_at "ex"))
local macro_rules | `(tactic| walk_at "at") => `(tactic| first
  | with_reducible assumption
  | exact rfl
  | exact atI_nat (by with_reducible assumption)
  | exact atI_last _ _)
local macro_rules | `(tactic| walk_at "s") => `(tactic| first
  | ((with_reducible refine' call_read_number ?h0 ?h1 ?h2 ?h3 ?h4 ?h5 (fun p H' hn he hp => ?_)); (case h0 => assumption); (case h1 => assumption); (case h2 => walk_at "sd"); (case h3 => walk_at "sd"); (case h4 => walk_at "sd"); (case h5 => walk_at "sd"))
  | ((with_reducible refine' call_other_bit ?h0 ?_); (case h0 => assumption))
  | ((with_reducible refine' norm ?h0 ?_); (case h0 => (dsimp only [List.set_cons_zero, List.set_cons_succ] <;> exact rfl)))
  | ((with_reducible refine' var_ ?h0 ?_); (case h0 => exact rfl))
  | ((with_reducible refine' c_ ?_))
  | ((with_reducible refine' op_ ?_))
  | ((with_reducible refine' cons_ ?_))
  | ((with_reducible refine' nil_ ?_))
  | ((with_reducible refine' seq_asg ?_))
  | ((with_reducible refine' asg_ ?_))
  | ((with_reducible refine' ret_ ?_))
  | ((with_reducible refine' cb_ ?_))
  | ((with_reducible refine' c1_ ?_))
  | ((with_reducible refine' addI ?_))
  | ((with_reducible refine' subI ?_))
  | ((with_reducible refine' addS ?h0 ?_); (case h0 => walk_at "sd"))
  | ((with_reducible refine' lenS ?h0 ?_); (case h0 => walk_at "sd"))
  | ((with_reducible refine' ixS ?h0 ?h1 ?_); (case h0 => walk_at "sd"); (case h1 => walk_at "at"))
  | ((with_reducible refine' ixL ?h0 ?h1 ?_); (case h0 => walk_at "lk"); (case h1 => walk_at "at"))
  | ((with_reducible refine' ixU ?h0 ?h1 ?_); (case h0 => walk_at "lk"); (case h1 => walk_at "at"))
  | ((with_reducible refine' ixSq ?h0 ?h1 ?_); (case h0 => assumption); (case h1 => walk_at "at"))
  | ((with_reducible refine' lenL ?h0 ?_); (case h0 => walk_at "lk"))
  | ((with_reducible refine' lenU ?h0 ?_); (case h0 => walk_at "lk"))
  | ((with_reducible refine' lenSq ?h0 ?_); (case h0 => assumption))
  | ((with_reducible refine' mulI ?h0 ?_); (case h0 => first | exact mul_ok1 (by omega) (by omega) | exact mul_ok2 (by omega) (by omega) | with_reducible assumption))
  | ((with_reducible refine' mulS ?h0 ?h1 ?h2 ?_); (case h0 => walk_at "sd"); (case h1 => walk_at "sd"); (case h2 => walk_at "sd"))
  | ((with_reducible refine' divI ?h0 ?h1 ?_); (case h0 => walk_at "sd"); (case h1 => walk_at "sd"))
  | ((with_reducible refine' modI ?h0 ?_); (case h0 => walk_at "sd"))
  | ((with_reducible refine' powI ?h0 ?_); (case h0 => first | with_reducible assumption | exact pow_ok (by decide)))
  | ((with_reducible refine' test_ ?_))
  | ((with_reducible refine' zb_ ?_))
  | ((with_reducible refine' tb_ ?_))
  | ((with_reducible refine' ltI ?_))
  | ((with_reducible refine' leI ?_))
  | ((with_reducible refine' gtI ?_))
  | ((with_reducible refine' geI ?_))
  | ((with_reducible refine' eqII ?_))
  | ((with_reducible refine' eqSS ?_))
  | ((with_reducible refine' neSS ?_))
  | ((with_reducible refine' eqI ?_))
  | ((with_reducible refine' eqS ?_))
  | ((with_reducible refine' neI ?_))
  | ((with_reducible refine' neS ?_))
  | ((with_reducible refine' orT_ ?_))
  | ((with_reducible refine' truth_ ?_))
  | ((with_reducible refine' ztru_b ?_))
  | ((with_reducible refine' ztru_S ?h0 ?_); (case h0 => walk_at "sd"))
  | ((with_reducible refine' inS ?_))
  | ((with_reducible refine' niS ?_))
  | ((with_reducible refine' seq_if ?_))
  | ((with_reducible refine' if_ ?_))
  | ((with_reducible refine' zif_t ?_))
  | ((with_reducible refine' zif_f ?_))
  | ((with_reducible refine' zif_nT ?_))
  | ((with_reducible refine' zif_nF ?_))
  | ((with_reducible refine' zif_dt ?h0 ?_); (case h0 => walk_at "sd"))
  | ((with_reducible refine' zif_df ?h0 ?_); (case h0 => walk_at "sd"))
  | ((with_reducible refine' zif_nt ?h0 ?_); (case h0 => walk_at "sd"))
  | ((with_reducible refine' zif_nf ?h0 ?_); (case h0 => walk_at "sd"))
  | ((with_reducible refine' not_ ?_))
  | ((with_reducible refine' and_ ?_))
  | ((with_reducible refine' or_ ?_))
  | ((with_reducible refine' tup_ ?_))
  | ((with_reducible refine' lst_ ?_))
  | ((with_reducible refine' ztup_ ?h0 (fun p H' hn he hp => ?_)); (case h0 => walk_at "sd"))
  | ((with_reducible refine' zlst_ ?h0 (fun p H' hn he hp => ?_)); (case h0 => walk_at "sd"))
  | ((with_reducible refine' addL ?h0 ?h1 ?h2 (fun p H' hn he hp => ?_)); (case h0 => walk_at "lk"); (case h1 => walk_at "lk"); (case h2 => walk_at "sd"))
  | ((with_reducible refine' un_ ?_))
  | ((with_reducible refine' negI ?_))
  | ((with_reducible refine' sl_ ?_))
  | ((with_reducible refine' nopart_ ?_))
  | ((with_reducible refine' part_ ?_))
  | ((with_reducible refine' zpart_ ?_))
  | ((with_reducible refine' slS ?h0 ?_); (case h0 => walk_at "sd"))
  | ((with_reducible refine' slL ?h0 (fun p H' hn he hp => ?_)); (case h0 => walk_at "lk"))
  | ((with_reducible refine' seq_asgG ?_))
  | ((with_reducible refine' asgG_ ?_))
  | ((with_reducible refine' gtup_ ?h0 ?h1 ?_); (case h0 => walk_at "lk"); (case h1 => rfl))
  | ((with_reducible refine' gcons_ ?_))
  | ((with_reducible refine' gname_ ?_))
  | ((with_reducible refine' gnil_ ?_))
  | ((with_reducible refine' gsub_ ?_))
  | ((with_reducible refine' setL_ ?h0 ?h1 (fun H' hp hb => ?_)); (case h0 => walk_at "lk"); (case h1 => first | rfl | assumption))
  | ((with_reducible refine' seq_par ?_))
  | ((with_reducible refine' par_ ?_))
  | ((with_reducible refine' zpar_ ?_))
  | ((with_reducible refine' seq_aug ?h0 ?_); (case h0 => exact rfl))
  | ((with_reducible refine' aug_ ?h0 ?_); (case h0 => exact rfl))
  | ((with_reducible refine' augS_ ?_))
  | ((with_reducible refine' getL_ ?h0 ?h1 ?_); (case h0 => walk_at "lk"); (case h1 => walk_at "at"))
  | ((with_reducible refine' iaddI ?_))
  | ((with_reducible refine' iaddS ?h0 ?_); (case h0 => walk_at "sd"))
  | ((with_reducible refine' isubI ?_))
  | ((with_reducible refine' imulI ?h0 ?h1 ?_); (case h0 => walk_at "sd"); (case h1 => walk_at "sd"))
  | ((with_reducible refine' idivI ?h0 ?h1 ?_); (case h0 => walk_at "sd"); (case h1 => walk_at "sd"))
  | ((with_reducible refine' seq_drop ?_))
  | ((with_reducible refine' drop_ ?_))
  | ((with_reducible refine' bm_ ?_))
  | ((with_reducible refine' zbmL_ ?h0 ?_); (case h0 => walk_at "lk"))
  | ((with_reducible refine' append_ ?h0 ?h1 (fun H' hp hb => ?_)); (case h0 => walk_at "lk"); (case h1 => walk_at "sd"))
  | ((with_reducible refine' fld_ ?_))
  | ((with_reducible refine' zfld_ ?h0 ?h1 ?h2 ?h3 ?_); (case h0 => walk_at "lk"); (case h1 => assumption); (case h2 => assumption); (case h3 => exact rfl))
  | ((with_reducible refine' seq_fld ?_))
  | ((with_reducible refine' fldS_ ?_))
  | ((with_reducible refine' zset_ ?h0 ?h1 ?h2 ?h3 ?h4 (fun H' hp hb => ?_)); (case h0 => walk_at "lk"); (case h1 => assumption); (case h2 => assumption); (case h3 => decide); (case h4 => exact rfl))
  | ((with_reducible refine' ck_ ?_))
  | ((with_reducible refine' zck_ ?h0 ?h1 ?h2 ?_); (case h0 => rfl); (case h1 => rfl); (case h2 => (dsimp only [List.cons_append, List.nil_append, List.append_nil] <;> exact rfl)))
  | ((with_reducible refine' mk_ ?_))
  | ((with_reducible refine' zmeth_ ?h0 ?h1 ?_); (case h0 => walk_at "lk"); (case h1 => exact rfl))
  | ((with_reducible refine' kk_ ?_))
  | ((with_reducible refine' zkk_ ?h0 ?h1 (fun x dx H' nx ndx ne he hx => ?_)); (case h0 => rfl); (case h1 => rfl))
  | ((with_reducible refine' zsp_ ?h0 ?_); (case h0 => (dsimp only [List.cons_append, List.nil_append, List.append_nil] <;> exact rfl)))
  | ((with_reducible refine' extend_ ?h0 ?h1 ?h2 (fun H' hp hb => ?_)); (case h0 => walk_at "lk"); (case h1 => walk_at "lk"); (case h2 => walk_at "sd"))
  | ((with_reducible refine' m1_ ?_))
  | ((with_reducible refine' zm1_ ?_))
  | ((with_reducible refine' count_ ?_))
  | ((with_reducible refine' strI_ ?h0 ?h1 ?_); (case h0 => walk_at "sd"); (case h1 => walk_at "sd"))
  | ((with_reducible refine' divmod_ ?h0 ?h1 (fun p H' hn he hp => ?_)); (case h0 => walk_at "sd"); (case h1 => walk_at "sd"))
  | ((with_reducible refine' abs_ ?_))
  | ((with_reducible refine' min2_ ?_))
  | ((with_reducible refine' max2_ ?_))
  | ((with_reducible refine' seq_for ?_))
  | ((with_reducible refine' for_ ?_))
  | ((with_reducible refine' ilist_ ?_))
  | ((with_reducible refine' zlist_ ?h0 ?_); (case h0 => walk_at "lk"))
  | ((with_reducible refine' zlistQ_ ?h0 ?_); (case h0 => assumption))
  | ((with_reducible refine' istr_ ?_))
  | ((with_reducible refine' zstr_ ?_))
  | ((with_reducible refine' irng1_ ?_))
  | ((with_reducible refine' irng2_ ?_))
  | ((with_reducible refine' zrng1_ ?h0 ?h1 ?_); (case h0 => walk_at "sd"); (case h1 => walk_at "sd"))
  | ((with_reducible refine' zrng2_ ?h0 ?h1 ?h2 ?h3 ?_); (case h0 => walk_at "sd"); (case h1 => walk_at "sd"); (case h2 => walk_at "sd"); (case h3 => walk_at "sd"))
  | ((with_reducible refine' ient_ ?_))
  | ((with_reducible refine' zent_ ?_))
  | ((with_reducible refine' revS_ ?_))
  | ((with_reducible refine' zrevS_ ?h0 ?_); (case h0 => walk_at "sd"))
  | ((with_reducible refine' intI_ ?_))
  | ((with_reducible refine' intB_ ?_))
  | ((with_reducible refine' intS_ ?h0 ?_); (case h0 => assumption))
  | ((with_reducible refine' seq_par3 ?_))
  | ((with_reducible refine' par3_ ?_))
  | ((with_reducible refine' zpar3_ ?_))
  | ((with_reducible refine' isSS_ ?_))
  | ((with_reducible refine' ientK_ ?_))
  | ((with_reducible refine' zenK_ ?h0 ?h1 ?_); (case h0 => walk_at "sd"); (case h1 => walk_at "sd"))
  | ((with_reducible refine' lc_ ?_))
  | ((with_reducible refine' tyes_ ?_))
  | ((with_reducible refine' zput_t ?_))
  | ((with_reducible refine' ifE_ ?_))
  | ((with_reducible refine' andV_ ?_))
  | ((with_reducible refine' zandv_t ?_))
  | ((with_reducible refine' zandv_f ?_))
  | ((with_reducible refine' zorv_t ?_))
  | ((with_reducible refine' zorv_f ?_))
  | ((with_reducible refine' zand_t ?_))
  | ((with_reducible refine' zand_f ?_))
  | ((with_reducible refine' zor_t ?_))
  | ((with_reducible refine' zor_f ?_))
  | ((with_reducible refine' orV_ ?_))
  | ((with_reducible refine' next_ ?_))
  | ((with_reducible refine' nx_ ?h0 ?_); (case h0 => (dsimp only <;> exact rfl)))
  | ((with_reducible refine' rt_ ?h0 ?_); (case h0 => (dsimp only <;> exact rfl)))
  | ((with_reducible refine' brk_ ?_))
  | ((with_reducible refine' cont_ ?_))
  | ((with_reducible refine' bk_ ?h0 ?_); (case h0 => (dsimp only <;> exact rfl)))
  | ((with_reducible refine' ct_ ?h0 ?_); (case h0 => (dsimp only <;> exact rfl)))
  | ((with_reducible refine' seq_ ?_)))
local macro_rules | `(tactic| walk_at "go") => `(tactic| repeat (walk_at "s"))
set_option maxHeartbeats 4000000 in
theorem ok_read_runs {f : Addr} {fd : FuncData} {dV kV : Value} (g : G mg)
    (F : Txt K "read_runs" "read_runs" (defArgs st_read_runs) (defBody st_read_runs) (defScope st_read_runs) dV kV f fd)
    (D_read_number : Def P w K mg base 4 "read_number" [] (sp_read_number))
    (D_other_bit : Def P w K mg base 1 "other_bit" [] (sp_other_bit)) :
    FnG P w K mg base 5 f fd ["text"] (sp_read_runs) := by
  refine z_fn F sc_read_runs (fun vs H Q E h => by
    obtain ⟨l, rfl, hb, h0, h1, k⟩ := h
    rfl) (fun cd A outer s H vs Q E hr ng h => ?_)
  obtain ⟨l, rfl, hb, h0, h1, k⟩ := h
  obtain ⟨_, c_BITS⟩ := g.c_BITS
  obtain ⟨_, c_MOST_BITS⟩ := g.c_MOST_BITS
  refine ⟨_, [_, none, none, none, none], rfl, (pss_cons (ps_set (i := 1) sc_read_runs.nd rfl (Or.inl rfl) (pe_slice z_sl (pv 0) (po_some pe_int) (po_some pe_int)))
      (pss_cons (ps_if (PW.pt (pw_or (pt_cmpR (z_eq hr.units) (pv 1) (z_str lit_0) (nomark _)) (pw_or1 (pt_cmpR z_ni (pv 1) (pe_glob (v := T [48, 49]) (by rfl) c_BITS ⟨_, rfl⟩) rfl)))) (pss_one ps_never) pss_nil)
      (pss_cons (ps_set (i := 2) sc_read_runs.nd rfl (Or.inl rfl) (z_str lit_0))
      (pss_cons (ps_set (i := 3) sc_read_runs.nd rfl (Or.inl rfl) pe_int)
      (pss_cons (ps_while (passes_of rfl) (PW.pt (pw_or (pt_cmpR (z_eq hr.units) (pv 2) (z_str lit_0) (nomark _)) (pw_or1 (pt_cmpR z_lt (pv 3) (pe_callB z_len (by rfl) g.b_len (by decide +kernel) (pa_cons (pv 0) pa_nil)) (nomark _))))) (pss_cons (ps_asg (pe_f D_read_number (hr.mono (by decide)) ng (by rfl) tk0 (pa_cons (pv 0) (pa_cons (pv 3) (pa_cons (pe_op z_sub (pe_glob (v := .int 64) (by rfl) c_MOST_BITS ⟨_, rfl⟩) (pe_callB z_len (by rfl) g.b_len (by decide +kernel) (pa_cons (pv 2) pa_nil))) pa_nil)))) (pg_tup (by rfl) (pgs_cons (pg_name (i := 4) sc_read_runs.nd rfl (Or.inl rfl)) (pgs_cons (pg_name (i := 3) sc_read_runs.nd rfl (Or.inl rfl)) pgs_nil))))
      (pss_cons (ps_aug (i := 2) sc_read_runs.nd rfl (Or.inl rfl) (pe_op z_mul (pv 1) (pv 4)) z_iadd)
      (pss_one (ps_set (i := 1) sc_read_runs.nd rfl (Or.inl rfl) (pe_f D_other_bit (hr.mono (by decide)) ng (by rfl) tk0 (pa_cons (pv 1) pa_nil)))))))
      (pss_one (ps_ret (pv 2)))))))), ?_⟩
  have hlen := rcode_len (l := l) (by omega)
  obtain ⟨b, eb⟩ : ∃ b, b = l.getD 0 48 := ⟨_, rfl⟩
  have hbit : Bit b := by
    rw [eb, List.getD_eq_getElem?_getD, List.getElem?_eq_getElem h0]
    exact hb _ (List.getElem_mem _)
  have htell := tell_runs hb h0
  rw [← eb] at htell
  have hpos := runs_pos l
  have hsum := runs_sum l
  obtain ⟨R, eR⟩ : ∃ R, R = runs l := ⟨_, rfl⟩
  rw [← eR] at htell hpos hsum
  obtain ⟨t, et⟩ : ∃ t, t = rcode l := ⟨_, rfl⟩
  have et2 : t = [114, b] ++ (R.map ncode).flatten := by rw [et, eR, eb]; rfl
  rw [← et] at hlen ⊢
  have hcut : cut t (some 1) (some 2) = [b] := by
    have : t[1]? = some b := by rw [et2]; rfl
    exact cut_one (i := 1) this
  have hmem : b ∈ [48, 49] := by
    rcases hbit with z | z
    · rw [z]; simp
    · rw [z]; simp
  walk_at "go"
  rw [hcut]
  walk_at "go"
  refine zor_d (fun z => nomatch z) fun _ => ?_
  walk_at "go"
  refine seq_while (fun m σ H' => ∃ (j : Nat) (v : Option V), σ = [some (T t), some (T [turn b j]), some (T (tell b (R.take j))), some (.int (([114, b] ++ ((R.take j).map ncode).flatten).length : Nat)), v] ∧ j + m = R.length ∧ Ex H H') R.length ⟨0, none, rfl, by omega, Ex.refl H⟩ ?_
  rintro m σ H1 ⟨j, v, rfl, hj, ex⟩
  by_cases hm : m = 0
  · have ej : j = R.length := by omega
    have e1 : R.take j = R := by rw [ej, List.take_length]
    rw [e1, htell, ← et2]
    walk_at "go"
    refine zor_d (fun z => absurd z (List.ne_nil_of_length_pos h0)) fun _ => ?_
    walk_at "go"
    refine zwh_d (fun z => absurd z (by omega)) fun _ => ?_
    walk_at "go"
    exact k _ ex
  · have hj2 : j < R.length := by omega
    have hRj : R[j]? = some R[j] := List.getElem?_eq_getElem hj2
    have hn1 := hpos _ (List.getElem_mem hj2)
    obtain ⟨n, hn⟩ : ∃ n, n = R[j] := ⟨_, rfl⟩
    rw [← hn] at hRj hn1
    have htk : R.take (j + 1) = R.take j ++ [n] := by rw [List.take_succ, hRj]; rfl
    have etl : tell b (R.take (j + 1)) = tell b (R.take j) ++ List.replicate n (turn b j) := by
      rw [htk, tell_app, List.length_take, Nat.min_eq_left (by omega)]
    have hsp : R = R.take j ++ (n :: R.drop (j + 1)) := by
      conv => lhs; rw [← List.take_append_drop j R]
      rw [List.drop_eq_getElem_cons hj2, ← hn]
    have hs2 : (R.take j).sum + n ≤ 64 := by
      have := congrArg List.sum hsp
      rw [List.sum_append, List.sum_cons] at this
      omega
    have hfl : (tell b (R.take j)).length = (R.take j).sum := tell_len _ _
    have et3 : t = ([114, b] ++ ((R.take j).map ncode).flatten) ++ (ncode n ++ ((R.drop (j + 1)).map ncode).flatten) := by
      rw [et2]
      conv => lhs; rw [hsp]
      rw [List.map_append, List.map_cons, List.flatten_append, List.flatten_cons, List.append_assoc]
    have hnl : 0 < (ncode n).length := by rw [ncode_len2]; have := figs_pos hn1; omega
    have hat : ([114, b] ++ ((R.take j).map ncode).flatten).length < t.length := by
      have h := congrArg List.length et3
      simp only [List.length_append] at h ⊢
      omega
    have eal : (([114, b] ++ ((R.take j).map ncode).flatten) ++ ncode n) = [114, b] ++ ((R.take (j + 1)).map ncode).flatten := by
      rw [htk, List.map_append, List.flatten_append, List.append_assoc]
      simp
    have hlt : t.length ≤ 100000 := by omega
    have hbj := turn_bit j hbit
    generalize hA : [114, b] ++ ((R.take j).map ncode).flatten = A1 at *
    walk_at "go"
    refine zor_keep ?_ fun _ hk => ?_
    · refine zwh_b (fun _ => ?_) fun z => nomatch z
      walk_at "go"
      refine call_read_number et3 rfl hlt hn1 (by omega) (by omega) fun p2 H2 hn2 he2 hp2 => ?_
      rw [eal] at hp2
      have hrep : rep [turn b j] (n : Int).toNat = List.replicate n (turn b j) := by rw [Int.toNat_natCast, rep_one]
      walk_at "go"
      rw [hrep, ← etl]
      refine less_ (m - 1) (by omega) ⟨j + 1, some (.int (n : Nat)), ?_, by omega, ex.trans he2⟩
      rw [turn_succ]
    · walk_at "go"
      rw [decide_eq_true (by omega)]
      exact hk
end
end My
namespace My
open PySem PySem.Spec PyProof.Rows L2 Z
section
variable {P : Program} {w : World} {K : PySem.W.Frag} {mg : Str → Option Value} {base : Heap}
/-! the steps by name -/
local macro_rules | `(tactic| walk_at "sd") => `(tactic| first
  | with_reducible assumption
  | omega
  | (simp only [List.length_append, List.length_cons, List.length_nil, List.length_replicate, rep_len, List.length_map, List.length_set]; omega)
  | decide)
local macro_rules | `(tactic| walk_at "lk") => `(tactic| first
  | with_reducible assumption
  | exact Ex.at_ (by with_reducible assumption) (by walk_at "lk")
  | exact But.at_ (by with_reducible assumption) (by walk_at "ne") (by walk_at "lk"))
local macro_rules | `(tactic| walk_at "ne") => `(tactic| first
  | with_reducible assumption
  | exact Ne.symm (by with_reducible assumption)
  | exact ne_new (by with_reducible assumption) (by walk_at "lk")
  | exact Ne.symm (ne_new (by with_reducible assumption) (by walk_at "lk"))
  | exact Urn.ne_new (by with_reducible assumption) (by walk_at "ur")
  | exact Ne.symm (Urn.ne_new (by with_reducible assumption) (by walk_at "ur")))
local macro_rules | `(tactic| walk_at "ur") => `(tactic| first
  | with_reducible assumption
  | exact Urn.ex (by with_reducible assumption) (by walk_at "ur")
  | exact Urn.but (by with_reducible assumption) (by walk_at "ne") (by walk_at "ur"))
local macro_rules | `(tactic| walk_at "dp") => `(tactic| first
  | with_reducible exact Dp.str _
  | with_reducible exact Dp.int _
  | with_reducible exact Dp.bl _
  | with_reducible exact Dp.non
  | with_reducible assumption
  | ((with_reducible refine' Dp.lst (SqL.of ?h0) ?h1); (case h0 => walk_at "lk"); (case h1 => walk_at "da"))
  | ((with_reducible refine' Dp.tup (SqT.of ?h0) ?h1); (case h0 => walk_at "lk"); (case h1 => walk_at "da"))
  | exact Dp.int _
  | exact Dp.str _)
local macro_rules | `(tactic| walk_at "da") => `(tactic| first
  | exact DpAll.nil
  | ((with_reducible refine' DpAll.cons ?h0 ?h1); (case h0 => walk_at "dp"); (case h1 => walk_at "da"))
  | with_reducible assumption)
local macro_rules | `(tactic| walk_at "ex") => `(tactic| first
  | with_reducible assumption
  | exact Ex.refl _
  | (refine Ex.trans ?_ (by with_reducible assumption); walk_at "ex"))
local macro_rules | `(tactic| walk_at "at") => `(tactic| first
  | with_reducible assumption
  | exact rfl
  | exact atI_nat (by with_reducible assumption)
  | exact atI_last _ _)
local macro_rules | `(tactic| walk_at "s") => `(tactic| first
  | ((with_reducible refine' norm ?h0 ?_); (case h0 => (dsimp only [List.set_cons_zero, List.set_cons_succ] <;> exact rfl)))
  | ((with_reducible refine' var_ ?h0 ?_); (case h0 => exact rfl))
  | ((with_reducible refine' c_ ?_))
  | ((with_reducible refine' op_ ?_))
  | ((with_reducible refine' cons_ ?_))
  | ((with_reducible refine' nil_ ?_))
  | ((with_reducible refine' seq_asg ?_))
  | ((with_reducible refine' asg_ ?_))
  | ((with_reducible refine' ret_ ?_))
  | ((with_reducible refine' cb_ ?_))
  | ((with_reducible refine' c1_ ?_))
  | ((with_reducible refine' addI ?_))
  | ((with_reducible refine' subI ?_))
  | ((with_reducible refine' addS ?h0 ?_); (case h0 => walk_at "sd"))
  | ((with_reducible refine' lenS ?h0 ?_); (case h0 => walk_at "sd"))
  | ((with_reducible refine' ixS ?h0 ?h1 ?_); (case h0 => walk_at "sd"); (case h1 => walk_at "at"))
  | ((with_reducible refine' ixL ?h0 ?h1 ?_); (case h0 => walk_at "lk"); (case h1 => walk_at "at"))
  | ((with_reducible refine' ixU ?h0 ?h1 ?_); (case h0 => walk_at "lk"); (case h1 => walk_at "at"))
  | ((with_reducible refine' ixSq ?h0 ?h1 ?_); (case h0 => assumption); (case h1 => walk_at "at"))
  | ((with_reducible refine' lenL ?h0 ?_); (case h0 => walk_at "lk"))
  | ((with_reducible refine' lenU ?h0 ?_); (case h0 => walk_at "lk"))
  | ((with_reducible refine' lenSq ?h0 ?_); (case h0 => assumption))
  | ((with_reducible refine' mulI ?h0 ?_); (case h0 => first | exact mul_ok1 (by omega) (by omega) | exact mul_ok2 (by omega) (by omega) | with_reducible assumption))
  | ((with_reducible refine' mulS ?h0 ?h1 ?h2 ?_); (case h0 => walk_at "sd"); (case h1 => walk_at "sd"); (case h2 => walk_at "sd"))
  | ((with_reducible refine' divI ?h0 ?h1 ?_); (case h0 => walk_at "sd"); (case h1 => walk_at "sd"))
  | ((with_reducible refine' modI ?h0 ?_); (case h0 => walk_at "sd"))
  | ((with_reducible refine' powI ?h0 ?_); (case h0 => first | with_reducible assumption | exact pow_ok (by decide)))
  | ((with_reducible refine' test_ ?_))
  | ((with_reducible refine' zb_ ?_))
  | ((with_reducible refine' tb_ ?_))
  | ((with_reducible refine' ltI ?_))
  | ((with_reducible refine' leI ?_))
  | ((with_reducible refine' gtI ?_))
  | ((with_reducible refine' geI ?_))
  | ((with_reducible refine' eqII ?_))
  | ((with_reducible refine' eqSS ?_))
  | ((with_reducible refine' neSS ?_))
  | ((with_reducible refine' eqI ?_))
  | ((with_reducible refine' eqS ?_))
  | ((with_reducible refine' neI ?_))
  | ((with_reducible refine' neS ?_))
  | ((with_reducible refine' orT_ ?_))
  | ((with_reducible refine' truth_ ?_))
  | ((with_reducible refine' ztru_b ?_))
  | ((with_reducible refine' ztru_S ?h0 ?_); (case h0 => walk_at "sd"))
  | ((with_reducible refine' inS ?_))
  | ((with_reducible refine' niS ?_))
  | ((with_reducible refine' seq_if ?_))
  | ((with_reducible refine' if_ ?_))
  | ((with_reducible refine' zif_t ?_))
  | ((with_reducible refine' zif_f ?_))
  | ((with_reducible refine' zif_nT ?_))
  | ((with_reducible refine' zif_nF ?_))
  | ((with_reducible refine' zif_dt ?h0 ?_); (case h0 => walk_at "sd"))
  | ((with_reducible refine' zif_df ?h0 ?_); (case h0 => walk_at "sd"))
  | ((with_reducible refine' zif_nt ?h0 ?_); (case h0 => walk_at "sd"))
  | ((with_reducible refine' zif_nf ?h0 ?_); (case h0 => walk_at "sd"))
  | ((with_reducible refine' not_ ?_))
  | ((with_reducible refine' and_ ?_))
  | ((with_reducible refine' or_ ?_))
  | ((with_reducible refine' tup_ ?_))
  | ((with_reducible refine' lst_ ?_))
  | ((with_reducible refine' ztup_ ?h0 (fun p H' hn he hp => ?_)); (case h0 => walk_at "sd"))
  | ((with_reducible refine' zlst_ ?h0 (fun p H' hn he hp => ?_)); (case h0 => walk_at "sd"))
  | ((with_reducible refine' addL ?h0 ?h1 ?h2 (fun p H' hn he hp => ?_)); (case h0 => walk_at "lk"); (case h1 => walk_at "lk"); (case h2 => walk_at "sd"))
  | ((with_reducible refine' un_ ?_))
  | ((with_reducible refine' negI ?_))
  | ((with_reducible refine' sl_ ?_))
  | ((with_reducible refine' nopart_ ?_))
  | ((with_reducible refine' part_ ?_))
  | ((with_reducible refine' zpart_ ?_))
  | ((with_reducible refine' slS ?h0 ?_); (case h0 => walk_at "sd"))
  | ((with_reducible refine' slL ?h0 (fun p H' hn he hp => ?_)); (case h0 => walk_at "lk"))
  | ((with_reducible refine' seq_asgG ?_))
  | ((with_reducible refine' asgG_ ?_))
  | ((with_reducible refine' gtup_ ?h0 ?h1 ?_); (case h0 => walk_at "lk"); (case h1 => rfl))
  | ((with_reducible refine' gcons_ ?_))
  | ((with_reducible refine' gname_ ?_))
  | ((with_reducible refine' gnil_ ?_))
  | ((with_reducible refine' gsub_ ?_))
  | ((with_reducible refine' setL_ ?h0 ?h1 (fun H' hp hb => ?_)); (case h0 => walk_at "lk"); (case h1 => first | rfl | assumption))
  | ((with_reducible refine' seq_par ?_))
  | ((with_reducible refine' par_ ?_))
  | ((with_reducible refine' zpar_ ?_))
  | ((with_reducible refine' seq_aug ?h0 ?_); (case h0 => exact rfl))
  | ((with_reducible refine' aug_ ?h0 ?_); (case h0 => exact rfl))
  | ((with_reducible refine' augS_ ?_))
  | ((with_reducible refine' getL_ ?h0 ?h1 ?_); (case h0 => walk_at "lk"); (case h1 => walk_at "at"))
  | ((with_reducible refine' iaddI ?_))
  | ((with_reducible refine' iaddS ?h0 ?_); (case h0 => walk_at "sd"))
  | ((with_reducible refine' isubI ?_))
  | ((with_reducible refine' imulI ?h0 ?h1 ?_); (case h0 => walk_at "sd"); (case h1 => walk_at "sd"))
  | ((with_reducible refine' idivI ?h0 ?h1 ?_); (case h0 => walk_at "sd"); (case h1 => walk_at "sd"))
  | ((with_reducible refine' seq_drop ?_))
  | ((with_reducible refine' drop_ ?_))
  | ((with_reducible refine' bm_ ?_))
  | ((with_reducible refine' zbmL_ ?h0 ?_); (case h0 => walk_at "lk"))
  | ((with_reducible refine' append_ ?h0 ?h1 (fun H' hp hb => ?_)); (case h0 => walk_at "lk"); (case h1 => walk_at "sd"))
  | ((with_reducible refine' fld_ ?_))
  | ((with_reducible refine' zfld_ ?h0 ?h1 ?h2 ?h3 ?_); (case h0 => walk_at "lk"); (case h1 => assumption); (case h2 => assumption); (case h3 => exact rfl))
  | ((with_reducible refine' seq_fld ?_))
  | ((with_reducible refine' fldS_ ?_))
  | ((with_reducible refine' zset_ ?h0 ?h1 ?h2 ?h3 ?h4 (fun H' hp hb => ?_)); (case h0 => walk_at "lk"); (case h1 => assumption); (case h2 => assumption); (case h3 => decide); (case h4 => exact rfl))
  | ((with_reducible refine' ck_ ?_))
  | ((with_reducible refine' zck_ ?h0 ?h1 ?h2 ?_); (case h0 => rfl); (case h1 => rfl); (case h2 => (dsimp only [List.cons_append, List.nil_append, List.append_nil] <;> exact rfl)))
  | ((with_reducible refine' mk_ ?_))
  | ((with_reducible refine' zmeth_ ?h0 ?h1 ?_); (case h0 => walk_at "lk"); (case h1 => exact rfl))
  | ((with_reducible refine' kk_ ?_))
  | ((with_reducible refine' zkk_ ?h0 ?h1 (fun x dx H' nx ndx ne he hx => ?_)); (case h0 => rfl); (case h1 => rfl))
  | ((with_reducible refine' zsp_ ?h0 ?_); (case h0 => (dsimp only [List.cons_append, List.nil_append, List.append_nil] <;> exact rfl)))
  | ((with_reducible refine' extend_ ?h0 ?h1 ?h2 (fun H' hp hb => ?_)); (case h0 => walk_at "lk"); (case h1 => walk_at "lk"); (case h2 => walk_at "sd"))
  | ((with_reducible refine' m1_ ?_))
  | ((with_reducible refine' zm1_ ?_))
  | ((with_reducible refine' count_ ?_))
  | ((with_reducible refine' strI_ ?h0 ?h1 ?_); (case h0 => walk_at "sd"); (case h1 => walk_at "sd"))
  | ((with_reducible refine' divmod_ ?h0 ?h1 (fun p H' hn he hp => ?_)); (case h0 => walk_at "sd"); (case h1 => walk_at "sd"))
  | ((with_reducible refine' abs_ ?_))
  | ((with_reducible refine' min2_ ?_))
  | ((with_reducible refine' max2_ ?_))
  | ((with_reducible refine' seq_for ?_))
  | ((with_reducible refine' for_ ?_))
  | ((with_reducible refine' ilist_ ?_))
  | ((with_reducible refine' zlist_ ?h0 ?_); (case h0 => walk_at "lk"))
  | ((with_reducible refine' zlistQ_ ?h0 ?_); (case h0 => assumption))
  | ((with_reducible refine' istr_ ?_))
  | ((with_reducible refine' zstr_ ?_))
  | ((with_reducible refine' irng1_ ?_))
  | ((with_reducible refine' irng2_ ?_))
  | ((with_reducible refine' zrng1_ ?h0 ?h1 ?_); (case h0 => walk_at "sd"); (case h1 => walk_at "sd"))
  | ((with_reducible refine' zrng2_ ?h0 ?h1 ?h2 ?h3 ?_); (case h0 => walk_at "sd"); (case h1 => walk_at "sd"); (case h2 => walk_at "sd"); (case h3 => walk_at "sd"))
  | ((with_reducible refine' ient_ ?_))
  | ((with_reducible refine' zent_ ?_))
  | ((with_reducible refine' revS_ ?_))
  | ((with_reducible refine' zrevS_ ?h0 ?_); (case h0 => walk_at "sd"))
  | ((with_reducible refine' intI_ ?_))
  | ((with_reducible refine' intB_ ?_))
  | ((with_reducible refine' intS_ ?h0 ?_); (case h0 => assumption))
  | ((with_reducible refine' seq_par3 ?_))
  | ((with_reducible refine' par3_ ?_))
  | ((with_reducible refine' zpar3_ ?_))
  | ((with_reducible refine' isSS_ ?_))
  | ((with_reducible refine' ientK_ ?_))
  | ((with_reducible refine' zenK_ ?h0 ?h1 ?_); (case h0 => walk_at "sd"); (case h1 => walk_at "sd"))
  | ((with_reducible refine' lc_ ?_))
  | ((with_reducible refine' tyes_ ?_))
  | ((with_reducible refine' zput_t ?_))
  | ((with_reducible refine' ifE_ ?_))
  | ((with_reducible refine' andV_ ?_))
  | ((with_reducible refine' zandv_t ?_))
  | ((with_reducible refine' zandv_f ?_))
  | ((with_reducible refine' zorv_t ?_))
  | ((with_reducible refine' zorv_f ?_))
  | ((with_reducible refine' zand_t ?_))
  | ((with_reducible refine' zand_f ?_))
  | ((with_reducible refine' zor_t ?_))
  | ((with_reducible refine' zor_f ?_))
  | ((with_reducible refine' orV_ ?_))
  | ((with_reducible refine' next_ ?_))
  | ((with_reducible refine' nx_ ?h0 ?_); (case h0 => (dsimp only <;> exact rfl)))
  | ((with_reducible refine' rt_ ?h0 ?_); (case h0 => (dsimp only <;> exact rfl)))
  | ((with_reducible refine' brk_ ?_))
  | ((with_reducible refine' cont_ ?_))
  | ((with_reducible refine' bk_ ?h0 ?_); (case h0 => (dsimp only <;> exact rfl)))
  | ((with_reducible refine' ct_ ?h0 ?_); (case h0 => (dsimp only <;> exact rfl)))
  | ((with_reducible refine' seq_ ?_)))
local macro_rules | `(tactic| walk_at "go") => `(tactic| repeat (walk_at "s"))
set_option maxHeartbeats 4000000 in
theorem ok_read_code {f : Addr} {fd : FuncData} {dV kV : Value} (g : G mg)
    (F : Txt K "read_code" "read_code" (defArgs st_read_code) (defBody st_read_code) (defScope st_read_code) dV kV f fd)
    {a_READERS f1 f2 : Addr} (c_READERS : mg "READERS" = some (.ref a_READERS))
    (k1 : KD K w a_READERS ⟨([112] : List Nat).toArray⟩ (some (.ref f1))) (k2 : KD K w a_READERS ⟨([114] : List Nat).toArray⟩ (some (.ref f2)))
    (A_reader : ∀ f sp, S_read_code f1 f2 f sp → HeldG P w K mg base 5 f sp) :
    FnG P w K mg base 6 f fd ["text"] (sp_read_code) := by
  refine z_fn F sc_read_code (fun vs H Q E h => by
    obtain ⟨l, c, rfl, hc, hb, h0, h1, k⟩ := h
    rfl) (fun cd A outer s H vs Q E hr ng h => ?_)
  obtain ⟨l, c, rfl, hc, hb, h0, h1, k⟩ := h
  refine ⟨_, [_, none], rfl, (pss_cons (ps_if (pt_not (pt_val (pe_callB z_isi (by rfl) g.b_isinstance (by decide +kernel) (pa_cons (pv 0) (pa_cons (pe_bltn (v := .ty "str") (by rfl) g.b_str (by decide +kernel) rfl) pa_nil))))) (pss_one ps_never) pss_nil)
      (pss_cons (ps_if (pt_cmpR z_niKD (pe_slice z_sl (pv 0) po_none (po_some pe_int)) (pe_glob (v := .ref a_READERS) (by rfl) c_READERS rfl) rfl) (pss_one ps_never) pss_nil)
      (pss_cons (ps_set (i := 1) sc_read_code.nd rfl (Or.inl rfl) (pe_ix z_ixKD (pe_glob (v := .ref a_READERS) (by rfl) c_READERS rfl) (pe_ix z_ix (pv 0) pe_int (fun _ _ => rfl)) (fun _ _ => rfl)))
      (pss_one (ps_ret (pe_callV (i := 1) A_reader (hr.mono (by decide)) ng rfl (.inl rfl) tk0 (pa_cons (pv 0) pa_nil))))))), ?_⟩
  have hlen := rcode_len (l := l) (by omega)
  rcases hc with rfl | rfl
  · have hcut : cut (112 :: l) none (some 1) = [112] := by rw [cut_to _ _ (by omega)]; rfl
    have hat : atI (112 :: l) 0 = some 112 := atI_nat (j := 0) rfl
    walk_at "go"
    rw [hcut]
    refine niKD_ (r := some (.ref f1)) k1 ?_
    rw [Option.isSome_some]
    walk_at "go"
    refine ixKD_ (u0 := .ref f1) (v0 := .ref f1) k1 rfl ?_
    walk_at "go"
    refine callV_ (f := f1) (sp := sp_read_plain) rfl (.inl ⟨rfl, rfl⟩) ?_
    walk_at "go"
    refine call_read_plain hb h0 h1 fun H' he => ?_
    walk_at "go"
    exact k _ he
  · have hcut : cut (rcode l) none (some 1) = [114] := by rw [cut_to _ _ (by omega)]; rfl
    have hat : atI (rcode l) 0 = some 114 := atI_nat (j := 0) rfl
    walk_at "go"
    rw [hcut]
    refine niKD_ (r := some (.ref f2)) k2 ?_
    rw [Option.isSome_some]
    walk_at "go"
    refine ixKD_ (u0 := .ref f2) (v0 := .ref f2) k2 rfl ?_
    walk_at "go"
    refine callV_ (f := f2) (sp := sp_read_runs) rfl (.inr ⟨rfl, rfl⟩) ?_
    walk_at "go"
    refine call_read_runs hb h0 h1 fun H' he => ?_
    walk_at "go"
    exact k _ he
end
end My
namespace My
open PySem PySem.Spec PyProof.Rows L2 Z
section
variable {P : Program} {w : World} {K : PySem.W.Frag} {mg : Str → Option Value} {base : Heap}
/-! the steps by name -/
local macro_rules | `(tactic| walk_at "sd") => `(tactic| first
  | with_reducible assumption
  | omega
  | (simp only [List.length_append, List.length_cons, List.length_nil, List.length_replicate, rep_len, List.length_map, List.length_set]; omega)
  | decide)
local macro_rules | `(tactic| walk_at "lk") => `(tactic| first
  | with_reducible assumption
  | exact Ex.at_ (by with_reducible assumption) (by walk_at "lk")
  | exact But.at_ (by with_reducible assumption) (by walk_at "ne") (by walk_at "lk"))
local macro_rules | `(tactic| walk_at "ne") => `(tactic| first
  | with_reducible assumption
  | exact Ne.symm (by with_reducible assumption)
  | exact ne_new (by with_reducible assumption) (by walk_at "lk")
  | exact Ne.symm (ne_new (by with_reducible assumption) (by walk_at "lk"))
  | exact Urn.ne_new (by with_reducible assumption) (by walk_at "ur")
  | exact Ne.symm (Urn.ne_new (by with_reducible assumption) (by walk_at "ur")))
local macro_rules | `(tactic| walk_at "ur") => `(tactic| first
  | with_reducible assumption
  | exact Urn.ex (by with_reducible assumption) (by walk_at "ur")
  | exact Urn.but (by with_reducible assumption) (by walk_at "ne") (by walk_at "ur"))
local macro_rules | `(tactic| walk_at "dp") => `(tactic| first
  | with_reducible exact Dp.str _
  | with_reducible exact Dp.int _
  | with_reducible exact Dp.bl _
  | with_reducible exact Dp.non
  | with_reducible assumption
  | ((with_reducible refine' Dp.lst (SqL.of ?h0) ?h1); (case h0 => walk_at "lk"); (case h1 => walk_at "da"))
  | ((with_reducible refine' Dp.tup (SqT.of ?h0) ?h1); (case h0 => walk_at "lk"); (case h1 => walk_at "da"))
  | exact Dp.int _
  | exact Dp.str _)
local macro_rules | `(tactic| walk_at "da") => `(tactic| first
  | exact DpAll.nil
  | ((with_reducible refine' DpAll.cons ?h0 ?h1); (case h0 => walk_at "dp"); (case h1 => walk_at "da"))
  | with_reducible assumption)
local macro_rules | `(tactic| walk_at "ex") => `(tactic| first
  | with_reducible assumption
  | exact Ex.refl _
  | (refine Ex.trans ?_ (by with_reducible assumption); walk_at "ex"))
local macro_rules | `(tactic| walk_at "at") => `(tactic| first
  | with_reducible assumption
  | exact rfl
  | exact atI_nat (by with_reducible assumption)
  | exact atI_last _ _)
local macro_rules | `(tactic| walk_at "s") => `(tactic| first
  | ((with_reducible refine' norm ?h0 ?_); (case h0 => (dsimp only [List.set_cons_zero, List.set_cons_succ] <;> exact rfl)))
  | ((with_reducible refine' var_ ?h0 ?_); (case h0 => exact rfl))
  | ((with_reducible refine' c_ ?_))
  | ((with_reducible refine' op_ ?_))
  | ((with_reducible refine' cons_ ?_))
  | ((with_reducible refine' nil_ ?_))
  | ((with_reducible refine' seq_asg ?_))
  | ((with_reducible refine' asg_ ?_))
  | ((with_reducible refine' ret_ ?_))
  | ((with_reducible refine' cb_ ?_))
  | ((with_reducible refine' c1_ ?_))
  | ((with_reducible refine' addI ?_))
  | ((with_reducible refine' subI ?_))
  | ((with_reducible refine' addS ?h0 ?_); (case h0 => walk_at "sd"))
  | ((with_reducible refine' lenS ?h0 ?_); (case h0 => walk_at "sd"))
  | ((with_reducible refine' ixS ?h0 ?h1 ?_); (case h0 => walk_at "sd"); (case h1 => walk_at "at"))
  | ((with_reducible refine' ixL ?h0 ?h1 ?_); (case h0 => walk_at "lk"); (case h1 => walk_at "at"))
  | ((with_reducible refine' ixU ?h0 ?h1 ?_); (case h0 => walk_at "lk"); (case h1 => walk_at "at"))
  | ((with_reducible refine' ixSq ?h0 ?h1 ?_); (case h0 => assumption); (case h1 => walk_at "at"))
  | ((with_reducible refine' lenL ?h0 ?_); (case h0 => walk_at "lk"))
  | ((with_reducible refine' lenU ?h0 ?_); (case h0 => walk_at "lk"))
  | ((with_reducible refine' lenSq ?h0 ?_); (case h0 => assumption))
  | ((with_reducible refine' mulI ?h0 ?_); (case h0 => first | exact mul_ok1 (by omega) (by omega) | exact mul_ok2 (by omega) (by omega) | with_reducible assumption))
  | ((with_reducible refine' mulS ?h0 ?h1 ?h2 ?_); (case h0 => walk_at "sd"); (case h1 => walk_at "sd"); (case h2 => walk_at "sd"))
  | ((with_reducible refine' divI ?h0 ?h1 ?_); (case h0 => walk_at "sd"); (case h1 => walk_at "sd"))
  | ((with_reducible refine' modI ?h0 ?_); (case h0 => walk_at "sd"))
  | ((with_reducible refine' powI ?h0 ?_); (case h0 => first | with_reducible assumption | exact pow_ok (by decide)))
  | ((with_reducible refine' test_ ?_))
  | ((with_reducible refine' zb_ ?_))
  | ((with_reducible refine' tb_ ?_))
  | ((with_reducible refine' ltI ?_))
  | ((with_reducible refine' leI ?_))
  | ((with_reducible refine' gtI ?_))
  | ((with_reducible refine' geI ?_))
  | ((with_reducible refine' eqII ?_))
  | ((with_reducible refine' eqSS ?_))
  | ((with_reducible refine' neSS ?_))
  | ((with_reducible refine' eqI ?_))
  | ((with_reducible refine' eqS ?_))
  | ((with_reducible refine' neI ?_))
  | ((with_reducible refine' neS ?_))
  | ((with_reducible refine' orT_ ?_))
  | ((with_reducible refine' truth_ ?_))
  | ((with_reducible refine' ztru_b ?_))
  | ((with_reducible refine' ztru_S ?h0 ?_); (case h0 => walk_at "sd"))
  | ((with_reducible refine' inS ?_))
  | ((with_reducible refine' niS ?_))
  | ((with_reducible refine' seq_if ?_))
  | ((with_reducible refine' if_ ?_))
  | ((with_reducible refine' zif_t ?_))
  | ((with_reducible refine' zif_f ?_))
  | ((with_reducible refine' zif_nT ?_))
  | ((with_reducible refine' zif_nF ?_))
  | ((with_reducible refine' zif_dt ?h0 ?_); (case h0 => walk_at "sd"))
  | ((with_reducible refine' zif_df ?h0 ?_); (case h0 => walk_at "sd"))
  | ((with_reducible refine' zif_nt ?h0 ?_); (case h0 => walk_at "sd"))
  | ((with_reducible refine' zif_nf ?h0 ?_); (case h0 => walk_at "sd"))
  | ((with_reducible refine' not_ ?_))
  | ((with_reducible refine' and_ ?_))
  | ((with_reducible refine' or_ ?_))
  | ((with_reducible refine' tup_ ?_))
  | ((with_reducible refine' lst_ ?_))
  | ((with_reducible refine' ztup_ ?h0 (fun p H' hn he hp => ?_)); (case h0 => walk_at "sd"))
  | ((with_reducible refine' zlst_ ?h0 (fun p H' hn he hp => ?_)); (case h0 => walk_at "sd"))
  | ((with_reducible refine' addL ?h0 ?h1 ?h2 (fun p H' hn he hp => ?_)); (case h0 => walk_at "lk"); (case h1 => walk_at "lk"); (case h2 => walk_at "sd"))
  | ((with_reducible refine' un_ ?_))
  | ((with_reducible refine' negI ?_))
  | ((with_reducible refine' sl_ ?_))
  | ((with_reducible refine' nopart_ ?_))
  | ((with_reducible refine' part_ ?_))
  | ((with_reducible refine' zpart_ ?_))
  | ((with_reducible refine' slS ?h0 ?_); (case h0 => walk_at "sd"))
  | ((with_reducible refine' slL ?h0 (fun p H' hn he hp => ?_)); (case h0 => walk_at "lk"))
  | ((with_reducible refine' seq_asgG ?_))
  | ((with_reducible refine' asgG_ ?_))
  | ((with_reducible refine' gtup_ ?h0 ?h1 ?_); (case h0 => walk_at "lk"); (case h1 => rfl))
  | ((with_reducible refine' gcons_ ?_))
  | ((with_reducible refine' gname_ ?_))
  | ((with_reducible refine' gnil_ ?_))
  | ((with_reducible refine' gsub_ ?_))
  | ((with_reducible refine' setL_ ?h0 ?h1 (fun H' hp hb => ?_)); (case h0 => walk_at "lk"); (case h1 => first | rfl | assumption))
  | ((with_reducible refine' seq_par ?_))
  | ((with_reducible refine' par_ ?_))
  | ((with_reducible refine' zpar_ ?_))
  | ((with_reducible refine' seq_aug ?h0 ?_); (case h0 => exact rfl))
  | ((with_reducible refine' aug_ ?h0 ?_); (case h0 => exact rfl))
  | ((with_reducible refine' augS_ ?_))
  | ((with_reducible refine' getL_ ?h0 ?h1 ?_); (case h0 => walk_at "lk"); (case h1 => walk_at "at"))
  | ((with_reducible refine' iaddI ?_))
  | ((with_reducible refine' iaddS ?h0 ?_); (case h0 => walk_at "sd"))
  | ((with_reducible refine' isubI ?_))
  | ((with_reducible refine' imulI ?h0 ?h1 ?_); (case h0 => walk_at "sd"); (case h1 => walk_at "sd"))
  | ((with_reducible refine' idivI ?h0 ?h1 ?_); (case h0 => walk_at "sd"); (case h1 => walk_at "sd"))
  | ((with_reducible refine' seq_drop ?_))
  | ((with_reducible refine' drop_ ?_))
  | ((with_reducible refine' bm_ ?_))
  | ((with_reducible refine' zbmL_ ?h0 ?_); (case h0 => walk_at "lk"))
  | ((with_reducible refine' append_ ?h0 ?h1 (fun H' hp hb => ?_)); (case h0 => walk_at "lk"); (case h1 => walk_at "sd"))
  | ((with_reducible refine' fld_ ?_))
  | ((with_reducible refine' zfld_ ?h0 ?h1 ?h2 ?h3 ?_); (case h0 => walk_at "lk"); (case h1 => assumption); (case h2 => assumption); (case h3 => exact rfl))
  | ((with_reducible refine' seq_fld ?_))
  | ((with_reducible refine' fldS_ ?_))
  | ((with_reducible refine' zset_ ?h0 ?h1 ?h2 ?h3 ?h4 (fun H' hp hb => ?_)); (case h0 => walk_at "lk"); (case h1 => assumption); (case h2 => assumption); (case h3 => decide); (case h4 => exact rfl))
  | ((with_reducible refine' ck_ ?_))
  | ((with_reducible refine' zck_ ?h0 ?h1 ?h2 ?_); (case h0 => rfl); (case h1 => rfl); (case h2 => (dsimp only [List.cons_append, List.nil_append, List.append_nil] <;> exact rfl)))
  | ((with_reducible refine' mk_ ?_))
  | ((with_reducible refine' zmeth_ ?h0 ?h1 ?_); (case h0 => walk_at "lk"); (case h1 => exact rfl))
  | ((with_reducible refine' kk_ ?_))
  | ((with_reducible refine' zkk_ ?h0 ?h1 (fun x dx H' nx ndx ne he hx => ?_)); (case h0 => rfl); (case h1 => rfl))
  | ((with_reducible refine' zsp_ ?h0 ?_); (case h0 => (dsimp only [List.cons_append, List.nil_append, List.append_nil] <;> exact rfl)))
  | ((with_reducible refine' extend_ ?h0 ?h1 ?h2 (fun H' hp hb => ?_)); (case h0 => walk_at "lk"); (case h1 => walk_at "lk"); (case h2 => walk_at "sd"))
  | ((with_reducible refine' m1_ ?_))
  | ((with_reducible refine' zm1_ ?_))
  | ((with_reducible refine' count_ ?_))
  | ((with_reducible refine' strI_ ?h0 ?h1 ?_); (case h0 => walk_at "sd"); (case h1 => walk_at "sd"))
  | ((with_reducible refine' divmod_ ?h0 ?h1 (fun p H' hn he hp => ?_)); (case h0 => walk_at "sd"); (case h1 => walk_at "sd"))
  | ((with_reducible refine' abs_ ?_))
  | ((with_reducible refine' min2_ ?_))
  | ((with_reducible refine' max2_ ?_))
  | ((with_reducible refine' seq_for ?_))
  | ((with_reducible refine' for_ ?_))
  | ((with_reducible refine' ilist_ ?_))
  | ((with_reducible refine' zlist_ ?h0 ?_); (case h0 => walk_at "lk"))
  | ((with_reducible refine' zlistQ_ ?h0 ?_); (case h0 => assumption))
  | ((with_reducible refine' istr_ ?_))
  | ((with_reducible refine' zstr_ ?_))
  | ((with_reducible refine' irng1_ ?_))
  | ((with_reducible refine' irng2_ ?_))
  | ((with_reducible refine' zrng1_ ?h0 ?h1 ?_); (case h0 => walk_at "sd"); (case h1 => walk_at "sd"))
  | ((with_reducible refine' zrng2_ ?h0 ?h1 ?h2 ?h3 ?_); (case h0 => walk_at "sd"); (case h1 => walk_at "sd"); (case h2 => walk_at "sd"); (case h3 => walk_at "sd"))
  | ((with_reducible refine' ient_ ?_))
  | ((with_reducible refine' zent_ ?_))
  | ((with_reducible refine' revS_ ?_))
  | ((with_reducible refine' zrevS_ ?h0 ?_); (case h0 => walk_at "sd"))
  | ((with_reducible refine' intI_ ?_))
  | ((with_reducible refine' intB_ ?_))
  | ((with_reducible refine' intS_ ?h0 ?_); (case h0 => assumption))
  | ((with_reducible refine' seq_par3 ?_))
  | ((with_reducible refine' par3_ ?_))
  | ((with_reducible refine' zpar3_ ?_))
  | ((with_reducible refine' isSS_ ?_))
  | ((with_reducible refine' ientK_ ?_))
  | ((with_reducible refine' zenK_ ?h0 ?h1 ?_); (case h0 => walk_at "sd"); (case h1 => walk_at "sd"))
  | ((with_reducible refine' lc_ ?_))
  | ((with_reducible refine' tyes_ ?_))
  | ((with_reducible refine' zput_t ?_))
  | ((with_reducible refine' ifE_ ?_))
  | ((with_reducible refine' andV_ ?_))
  | ((with_reducible refine' zandv_t ?_))
  | ((with_reducible refine' zandv_f ?_))
  | ((with_reducible refine' zorv_t ?_))
  | ((with_reducible refine' zorv_f ?_))
  | ((with_reducible refine' zand_t ?_))
  | ((with_reducible refine' zand_f ?_))
  | ((with_reducible refine' zor_t ?_))
  | ((with_reducible refine' zor_f ?_))
  | ((with_reducible refine' orV_ ?_))
  | ((with_reducible refine' next_ ?_))
  | ((with_reducible refine' nx_ ?h0 ?_); (case h0 => (dsimp only <;> exact rfl)))
  | ((with_reducible refine' rt_ ?h0 ?_); (case h0 => (dsimp only <;> exact rfl)))
  | ((with_reducible refine' brk_ ?_))
  | ((with_reducible refine' cont_ ?_))
  | ((with_reducible refine' bk_ ?h0 ?_); (case h0 => (dsimp only <;> exact rfl)))
  | ((with_reducible refine' ct_ ?h0 ?_); (case h0 => (dsimp only <;> exact rfl)))
  | ((with_reducible refine' seq_ ?_)))
local macro_rules | `(tactic| walk_at "go") => `(tactic| repeat (walk_at "s"))
set_option maxHeartbeats 4000000 in
theorem ok_law_number_code {f : Addr} {fd : FuncData} {dV kV : Value} (g : G mg)
    (F : Txt K "_law_number_code" "_law_number_code" (defArgs st_law_number_code) (defBody st_law_number_code) (defScope st_law_number_code) dV kV f fd) :
    FnG P w K mg base 1 f fd ["_law_number"] (sp_law_number_code) := by
  refine z_fn F sc_law_number_code (fun vs H Q E h => by
    obtain ⟨i, rfl, h1, h2, k⟩ := h
    rfl) (fun cd A outer s H vs Q E hr ng h => ?_)
  obtain ⟨i, rfl, h1, h2, k⟩ := h
  refine ⟨_, [_, none], rfl, (pss_cons (ps_set (i := 1) sc_law_number_code.nd rfl (Or.inl rfl) (z_str lit_0))
      (pss_cons (ps_while (passes_of rfl) (pt_cmpR z_gt (pv 0) pe_int (nomark _)) (pss_cons (ps_set (i := 1) sc_law_number_code.nd rfl (Or.inl rfl) (pe_op z_add (pe_callTy z_str_of (by rfl) g.b_str (by decide +kernel) (pa_cons (pe_op z_mod (pv 0) pe_int) pa_nil)) (pv 1)))
      (pss_one (ps_set (i := 0) sc_law_number_code.nd rfl (Or.inl rfl) (pe_op z_fdiv (pv 0) pe_int)))))
      (pss_one (ps_ret (pe_op z_add (pe_op z_mul (z_str lit_1) (pe_op z_sub (pe_callB z_len (by rfl) g.b_len (by decide +kernel) (pa_cons (pv 1) pa_nil)) pe_int)) (pv 1)))))), ?_⟩
  walk_at "go"
  refine seq_while (fun n σ H' => ∃ (t : List Nat), σ = [some (.int (n : Int)), some (T t)] ∧ figs i.toNat = figs n ++ t ∧ n < 1048576 ∧ Ex H H') i.toNat ⟨[], by rw [Int.toNat_of_nonneg (by omega)], by simp, by omega, Ex.refl H⟩ ?_
  rintro n σ H1 ⟨t, rfl, e, hn, ex⟩
  have hl : t.length ≤ 20 := by
    have := figs_len (k := 20) (n := i.toNat) (by omega)
    rw [e, List.length_append] at this
    omega
  walk_at "go"
  refine zwh_d (fun hp => ?_) (fun hp => ?_)
  · have ha : intL ((n : Int) % 2) = [48 + n % 2] := by
      rcases Nat.mod_two_eq_zero_or_one n with z | z
      · have : ((n : Int) % 2) = 0 := by omega
        rw [this, z]; decide +kernel
      · have : ((n : Int) % 2) = 1 := by omega
        rw [this, z]; decide +kernel
    have hl2 : (intL ((n : Int) % 2)).length = 1 := by rw [ha]; rfl
    walk_at "go"
    refine less_ (n / 2) (by omega) ⟨[48 + n % 2] ++ t, by rw [ha]; rfl, ?_, by omega, ex⟩
    rw [e, figs_step (by omega : 0 < n), List.append_assoc]
  · have z : n = 0 := by omega
    subst z
    rw [figs_zero, List.nil_append] at e
    have hl := figs_len (k := 20) (n := i.toNat) (by omega)
    have hp := figs_pos (n := i.toNat) (by omega)
    subst e
    walk_at "go"
    have e2 : (((figs i.toNat).length : Nat) : Int) - 1 = (((figs i.toNat).length - 1 : Nat) : Int) := by omega
    rw [e2, Int.toNat_natCast]
    exact k _ ex
end
end My
namespace My
open PySem PySem.Spec PyProof.Rows L2 Z
section
variable {P : Program} {w : World} {K : PySem.W.Frag} {mg : Str → Option Value} {base : Heap}
/-! the steps by name -/
local macro_rules | `(tactic| walk_at "sd") => `(tactic| first
  | with_reducible assumption
  | omega
  | (simp only [List.length_append, List.length_cons, List.length_nil, List.length_replicate, rep_len, List.length_map, List.length_set]; omega)
  | decide)
local macro_rules | `(tactic| walk_at "lk") => `(tactic| first
  | with_reducible assumption
  | exact Ex.at_ (by with_reducible assumption) (by walk_at "lk")
  | exact But.at_ (by with_reducible assumption) (by walk_at "ne") (by walk_at "lk"))
local macro_rules | `(tactic| walk_at "ne") => `(tactic| first
  | with_reducible assumption
  | exact Ne.symm (by with_reducible assumption)
  | exact ne_new (by with_reducible assumption) (by walk_at "lk")
  | exact Ne.symm (ne_new (by with_reducible assumption) (by walk_at "lk"))
  | exact Urn.ne_new (by with_reducible assumption) (by walk_at "ur")
  | exact Ne.symm (Urn.ne_new (by with_reducible assumption) (by walk_at "ur")))
local macro_rules | `(tactic| walk_at "ur") => `(tactic| first
  | with_reducible assumption
  | exact Urn.ex (by with_reducible assumption) (by walk_at "ur")
  | exact Urn.but (by with_reducible assumption) (by walk_at "ne") (by walk_at "ur"))
local macro_rules | `(tactic| walk_at "dp") => `(tactic| first
  | with_reducible exact Dp.str _
  | with_reducible exact Dp.int _
  | with_reducible exact Dp.bl _
  | with_reducible exact Dp.non
  | with_reducible assumption
  | ((with_reducible refine' Dp.lst (SqL.of ?h0) ?h1); (case h0 => walk_at "lk"); (case h1 => walk_at "da"))
  | ((with_reducible refine' Dp.tup (SqT.of ?h0) ?h1); (case h0 => walk_at "lk"); (case h1 => walk_at "da"))
  | exact Dp.int _
  | exact Dp.str _)
local macro_rules | `(tactic| walk_at "da") => `(tactic| first
  | exact DpAll.nil
  | ((with_reducible refine' DpAll.cons ?h0 ?h1); (case h0 => walk_at "dp"); (case h1 => walk_at "da"))
  | with_reducible assumption)
local macro_rules | `(tactic| walk_at "ex") => `(tactic| first
  | with_reducible assumption
  | exact Ex.refl _
  | (refine Ex.trans ?_ (by with_reducible assumption); walk_at "ex"))
local macro_rules | `(tactic| walk_at "at") => `(tactic| first
  | with_reducible assumption
  | exact rfl
  | exact atI_nat (by with_reducible assumption)
  | exact atI_last _ _)
local macro_rules | `(tactic| walk_at "s") => `(tactic| first
  | ((with_reducible refine' norm ?h0 ?_); (case h0 => (dsimp only [List.set_cons_zero, List.set_cons_succ] <;> exact rfl)))
  | ((with_reducible refine' var_ ?h0 ?_); (case h0 => exact rfl))
  | ((with_reducible refine' c_ ?_))
  | ((with_reducible refine' op_ ?_))
  | ((with_reducible refine' cons_ ?_))
  | ((with_reducible refine' nil_ ?_))
  | ((with_reducible refine' seq_asg ?_))
  | ((with_reducible refine' asg_ ?_))
  | ((with_reducible refine' ret_ ?_))
  | ((with_reducible refine' cb_ ?_))
  | ((with_reducible refine' c1_ ?_))
  | ((with_reducible refine' addI ?_))
  | ((with_reducible refine' subI ?_))
  | ((with_reducible refine' addS ?h0 ?_); (case h0 => walk_at "sd"))
  | ((with_reducible refine' lenS ?h0 ?_); (case h0 => walk_at "sd"))
  | ((with_reducible refine' ixS ?h0 ?h1 ?_); (case h0 => walk_at "sd"); (case h1 => walk_at "at"))
  | ((with_reducible refine' ixL ?h0 ?h1 ?_); (case h0 => walk_at "lk"); (case h1 => walk_at "at"))
  | ((with_reducible refine' ixU ?h0 ?h1 ?_); (case h0 => walk_at "lk"); (case h1 => walk_at "at"))
  | ((with_reducible refine' ixSq ?h0 ?h1 ?_); (case h0 => assumption); (case h1 => walk_at "at"))
  | ((with_reducible refine' lenL ?h0 ?_); (case h0 => walk_at "lk"))
  | ((with_reducible refine' lenU ?h0 ?_); (case h0 => walk_at "lk"))
  | ((with_reducible refine' lenSq ?h0 ?_); (case h0 => assumption))
  | ((with_reducible refine' mulI ?h0 ?_); (case h0 => first | exact mul_ok1 (by omega) (by omega) | exact mul_ok2 (by omega) (by omega) | with_reducible assumption))
  | ((with_reducible refine' mulS ?h0 ?h1 ?h2 ?_); (case h0 => walk_at "sd"); (case h1 => walk_at "sd"); (case h2 => walk_at "sd"))
  | ((with_reducible refine' divI ?h0 ?h1 ?_); (case h0 => walk_at "sd"); (case h1 => walk_at "sd"))
  | ((with_reducible refine' modI ?h0 ?_); (case h0 => walk_at "sd"))
  | ((with_reducible refine' powI ?h0 ?_); (case h0 => first | with_reducible assumption | exact pow_ok (by decide)))
  | ((with_reducible refine' test_ ?_))
  | ((with_reducible refine' zb_ ?_))
  | ((with_reducible refine' tb_ ?_))
  | ((with_reducible refine' ltI ?_))
  | ((with_reducible refine' leI ?_))
  | ((with_reducible refine' gtI ?_))
  | ((with_reducible refine' geI ?_))
  | ((with_reducible refine' eqII ?_))
  | ((with_reducible refine' eqSS ?_))
  | ((with_reducible refine' neSS ?_))
  | ((with_reducible refine' eqI ?_))
  | ((with_reducible refine' eqS ?_))
  | ((with_reducible refine' neI ?_))
  | ((with_reducible refine' neS ?_))
  | ((with_reducible refine' orT_ ?_))
  | ((with_reducible refine' truth_ ?_))
  | ((with_reducible refine' ztru_b ?_))
  | ((with_reducible refine' ztru_S ?h0 ?_); (case h0 => walk_at "sd"))
  | ((with_reducible refine' inS ?_))
  | ((with_reducible refine' niS ?_))
  | ((with_reducible refine' seq_if ?_))
  | ((with_reducible refine' if_ ?_))
  | ((with_reducible refine' zif_t ?_))
  | ((with_reducible refine' zif_f ?_))
  | ((with_reducible refine' zif_nT ?_))
  | ((with_reducible refine' zif_nF ?_))
  | ((with_reducible refine' zif_dt ?h0 ?_); (case h0 => walk_at "sd"))
  | ((with_reducible refine' zif_df ?h0 ?_); (case h0 => walk_at "sd"))
  | ((with_reducible refine' zif_nt ?h0 ?_); (case h0 => walk_at "sd"))
  | ((with_reducible refine' zif_nf ?h0 ?_); (case h0 => walk_at "sd"))
  | ((with_reducible refine' not_ ?_))
  | ((with_reducible refine' and_ ?_))
  | ((with_reducible refine' or_ ?_))
  | ((with_reducible refine' tup_ ?_))
  | ((with_reducible refine' lst_ ?_))
  | ((with_reducible refine' ztup_ ?h0 (fun p H' hn he hp => ?_)); (case h0 => walk_at "sd"))
  | ((with_reducible refine' zlst_ ?h0 (fun p H' hn he hp => ?_)); (case h0 => walk_at "sd"))
  | ((with_reducible refine' addL ?h0 ?h1 ?h2 (fun p H' hn he hp => ?_)); (case h0 => walk_at "lk"); (case h1 => walk_at "lk"); (case h2 => walk_at "sd"))
  | ((with_reducible refine' un_ ?_))
  | ((with_reducible refine' negI ?_))
  | ((with_reducible refine' sl_ ?_))
  | ((with_reducible refine' nopart_ ?_))
  | ((with_reducible refine' part_ ?_))
  | ((with_reducible refine' zpart_ ?_))
  | ((with_reducible refine' slS ?h0 ?_); (case h0 => walk_at "sd"))
  | ((with_reducible refine' slL ?h0 (fun p H' hn he hp => ?_)); (case h0 => walk_at "lk"))
  | ((with_reducible refine' seq_asgG ?_))
  | ((with_reducible refine' asgG_ ?_))
  | ((with_reducible refine' gtup_ ?h0 ?h1 ?_); (case h0 => walk_at "lk"); (case h1 => rfl))
  | ((with_reducible refine' gcons_ ?_))
  | ((with_reducible refine' gname_ ?_))
  | ((with_reducible refine' gnil_ ?_))
  | ((with_reducible refine' gsub_ ?_))
  | ((with_reducible refine' setL_ ?h0 ?h1 (fun H' hp hb => ?_)); (case h0 => walk_at "lk"); (case h1 => first | rfl | assumption))
  | ((with_reducible refine' seq_par ?_))
  | ((with_reducible refine' par_ ?_))
  | ((with_reducible refine' zpar_ ?_))
  | ((with_reducible refine' seq_aug ?h0 ?_); (case h0 => exact rfl))
  | ((with_reducible refine' aug_ ?h0 ?_); (case h0 => exact rfl))
  | ((with_reducible refine' augS_ ?_))
  | ((with_reducible refine' getL_ ?h0 ?h1 ?_); (case h0 => walk_at "lk"); (case h1 => walk_at "at"))
  | ((with_reducible refine' iaddI ?_))
  | ((with_reducible refine' iaddS ?h0 ?_); (case h0 => walk_at "sd"))
  | ((with_reducible refine' isubI ?_))
  | ((with_reducible refine' imulI ?h0 ?h1 ?_); (case h0 => walk_at "sd"); (case h1 => walk_at "sd"))
  | ((with_reducible refine' idivI ?h0 ?h1 ?_); (case h0 => walk_at "sd"); (case h1 => walk_at "sd"))
  | ((with_reducible refine' seq_drop ?_))
  | ((with_reducible refine' drop_ ?_))
  | ((with_reducible refine' bm_ ?_))
  | ((with_reducible refine' zbmL_ ?h0 ?_); (case h0 => walk_at "lk"))
  | ((with_reducible refine' append_ ?h0 ?h1 (fun H' hp hb => ?_)); (case h0 => walk_at "lk"); (case h1 => walk_at "sd"))
  | ((with_reducible refine' fld_ ?_))
  | ((with_reducible refine' zfld_ ?h0 ?h1 ?h2 ?h3 ?_); (case h0 => walk_at "lk"); (case h1 => assumption); (case h2 => assumption); (case h3 => exact rfl))
  | ((with_reducible refine' seq_fld ?_))
  | ((with_reducible refine' fldS_ ?_))
  | ((with_reducible refine' zset_ ?h0 ?h1 ?h2 ?h3 ?h4 (fun H' hp hb => ?_)); (case h0 => walk_at "lk"); (case h1 => assumption); (case h2 => assumption); (case h3 => decide); (case h4 => exact rfl))
  | ((with_reducible refine' ck_ ?_))
  | ((with_reducible refine' zck_ ?h0 ?h1 ?h2 ?_); (case h0 => rfl); (case h1 => rfl); (case h2 => (dsimp only [List.cons_append, List.nil_append, List.append_nil] <;> exact rfl)))
  | ((with_reducible refine' mk_ ?_))
  | ((with_reducible refine' zmeth_ ?h0 ?h1 ?_); (case h0 => walk_at "lk"); (case h1 => exact rfl))
  | ((with_reducible refine' kk_ ?_))
  | ((with_reducible refine' zkk_ ?h0 ?h1 (fun x dx H' nx ndx ne he hx => ?_)); (case h0 => rfl); (case h1 => rfl))
  | ((with_reducible refine' zsp_ ?h0 ?_); (case h0 => (dsimp only [List.cons_append, List.nil_append, List.append_nil] <;> exact rfl)))
  | ((with_reducible refine' extend_ ?h0 ?h1 ?h2 (fun H' hp hb => ?_)); (case h0 => walk_at "lk"); (case h1 => walk_at "lk"); (case h2 => walk_at "sd"))
  | ((with_reducible refine' m1_ ?_))
  | ((with_reducible refine' zm1_ ?_))
  | ((with_reducible refine' count_ ?_))
  | ((with_reducible refine' strI_ ?h0 ?h1 ?_); (case h0 => walk_at "sd"); (case h1 => walk_at "sd"))
  | ((with_reducible refine' divmod_ ?h0 ?h1 (fun p H' hn he hp => ?_)); (case h0 => walk_at "sd"); (case h1 => walk_at "sd"))
  | ((with_reducible refine' abs_ ?_))
  | ((with_reducible refine' min2_ ?_))
  | ((with_reducible refine' max2_ ?_))
  | ((with_reducible refine' seq_for ?_))
  | ((with_reducible refine' for_ ?_))
  | ((with_reducible refine' ilist_ ?_))
  | ((with_reducible refine' zlist_ ?h0 ?_); (case h0 => walk_at "lk"))
  | ((with_reducible refine' zlistQ_ ?h0 ?_); (case h0 => assumption))
  | ((with_reducible refine' istr_ ?_))
  | ((with_reducible refine' zstr_ ?_))
  | ((with_reducible refine' irng1_ ?_))
  | ((with_reducible refine' irng2_ ?_))
  | ((with_reducible refine' zrng1_ ?h0 ?h1 ?_); (case h0 => walk_at "sd"); (case h1 => walk_at "sd"))
  | ((with_reducible refine' zrng2_ ?h0 ?h1 ?h2 ?h3 ?_); (case h0 => walk_at "sd"); (case h1 => walk_at "sd"); (case h2 => walk_at "sd"); (case h3 => walk_at "sd"))
  | ((with_reducible refine' ient_ ?_))
  | ((with_reducible refine' zent_ ?_))
  | ((with_reducible refine' revS_ ?_))
  | ((with_reducible refine' zrevS_ ?h0 ?_); (case h0 => walk_at "sd"))
  | ((with_reducible refine' intI_ ?_))
  | ((with_reducible refine' intB_ ?_))
  | ((with_reducible refine' intS_ ?h0 ?_); (case h0 => assumption))
  | ((with_reducible refine' seq_par3 ?_))
  | ((with_reducible refine' par3_ ?_))
  | ((with_reducible refine' zpar3_ ?_))
  | ((with_reducible refine' isSS_ ?_))
  | ((with_reducible refine' ientK_ ?_))
  | ((with_reducible refine' zenK_ ?h0 ?h1 ?_); (case h0 => walk_at "sd"); (case h1 => walk_at "sd"))
  | ((with_reducible refine' lc_ ?_))
  | ((with_reducible refine' tyes_ ?_))
  | ((with_reducible refine' zput_t ?_))
  | ((with_reducible refine' ifE_ ?_))
  | ((with_reducible refine' andV_ ?_))
  | ((with_reducible refine' zandv_t ?_))
  | ((with_reducible refine' zandv_f ?_))
  | ((with_reducible refine' zorv_t ?_))
  | ((with_reducible refine' zorv_f ?_))
  | ((with_reducible refine' zand_t ?_))
  | ((with_reducible refine' zand_f ?_))
  | ((with_reducible refine' zor_t ?_))
  | ((with_reducible refine' zor_f ?_))
  | ((with_reducible refine' orV_ ?_))
  | ((with_reducible refine' next_ ?_))
  | ((with_reducible refine' nx_ ?h0 ?_); (case h0 => (dsimp only <;> exact rfl)))
  | ((with_reducible refine' rt_ ?h0 ?_); (case h0 => (dsimp only <;> exact rfl)))
  | ((with_reducible refine' brk_ ?_))
  | ((with_reducible refine' cont_ ?_))
  | ((with_reducible refine' bk_ ?h0 ?_); (case h0 => (dsimp only <;> exact rfl)))
  | ((with_reducible refine' ct_ ?h0 ?_); (case h0 => (dsimp only <;> exact rfl)))
  | ((with_reducible refine' seq_ ?_)))
local macro_rules | `(tactic| walk_at "go") => `(tactic| repeat (walk_at "s"))
set_option maxHeartbeats 4000000 in
theorem ok_law_runs {f : Addr} {fd : FuncData} {dV kV : Value} (g : G mg)
    (F : Txt K "_law_runs" "_law_runs" (defArgs st_law_runs) (defBody st_law_runs) (defScope st_law_runs) dV kV f fd) :
    FnG P w K mg base 1 f fd ["_law_row_text"] (sp_law_runs) := by
  refine z_fn F sc_law_runs (fun vs H Q E h => by
    obtain ⟨l, rfl, h1, k⟩ := h
    rfl) (fun cd A outer s H vs Q E hr ng h => ?_)
  obtain ⟨l, rfl, h1, k⟩ := h
  refine ⟨_, [_, none, none, none], rfl, (pss_cons (ps_set (i := 1) sc_law_runs.nd rfl (Or.inl rfl) (pe_lst pa_nil))
      (pss_cons (ps_for (passes_of rfl) rfl (z_enumS (by rfl) g.b_enumerate (pa_cons (pv 0) pa_nil)) (pg_tup (by rfl) (pgs_cons (pg_name (i := 2) sc_law_runs.nd rfl (Or.inl rfl)) (pgs_cons (pg_name (i := 3) sc_law_runs.nd rfl (Or.inl rfl)) pgs_nil))) (pss_one (ps_if (PW.pt (pw_and (pt_cmpR z_gt (pv 2) pe_int (nomark _)) (pw_and1 (pt_cmpR (z_eq hr.units) (pe_ix z_ix (pv 0) (pe_op z_sub (pv 2) pe_int) (fun _ _ => rfl)) (pv 3) (nomark _))))) (pss_one (ps_asg (pe_op z_add (pe_ix z_ix (pv 1) (pe_un un_neg pe_int) (fun _ _ => rfl)) pe_int) (pg_sub (pv 1) (pe_un un_neg pe_int) set_list))) (pss_one (ps_expr (pe_bm PySem.F.plainAttrs_list PySem.F.slot_list_append PySem.F.type_list_append mt_append (pv 1) (pa_cons pe_int pa_nil)))))))
      (pss_one (ps_ret (pv 1))))), ?_⟩
  walk_at "go"
  rename_i p H1 hn he hp
  refine forEnT (fun i σ H' => ∃ v w : Option V, σ = [some (T l), some (.ref p), v, w] ∧ Ex H H' ∧ H' p = some (.lst ((rsAll (l.take i)).1.map fun n => V.int (n : Nat)))) ⟨none, none, rfl, he, hp⟩ ?_ ?_
  · rintro i c σ H2 H3 hc ⟨v, w, rfl, ex, hp2⟩ hx
    have hi : i < l.length := (List.getElem?_eq_some_iff.mp hc).1
    have hl := rsAll_len l i (by omega)
    have hpx : H3 p = _ := hx.at_ hp2
    have ex3 := ex.trans hx
    have hlast : 0 < i → ∃ d, atI l ((0 + (i : Int)) - 1) = some d ∧ (rsAll (l.take i)).2 = [d] := fun hi0 => by
      refine ⟨l[i - 1], ?_, ?_⟩
      · have : (0 + (i : Int)) - 1 = ((i - 1 : Nat) : Int) := by omega
        rw [this]
        exact atI_nat (List.getElem?_eq_getElem (by omega))
      · rw [rsAll_last, List.length_take, Nat.min_eq_left (by omega), List.drop_take]
        have e1 : i - (i - 1) = 1 := by omega
        rw [e1, List.drop_eq_getElem_cons (by omega)]
        rfl
    have app : ¬ [c] = (rsAll (l.take i)).2 → rsAll (l.take (i + 1)) = ((rsAll (l.take i)).1 ++ [1], [c]) := fun hq => by rw [rsAll_take hc]; unfold rs; rw [if_neg hq]
    walk_at "go"
    refine zand_d (fun hq => ?_) (fun hq => ?_)
    · obtain ⟨d, hd1, hd2⟩ := hlast (by omega)
      walk_at "go"
      refine zif_d (fun hq2 => ?_) (fun hq2 => ?_)
      · have hlen := hl.2 (by omega)
        have er : rsAll (l.take (i + 1)) = (bump (rsAll (l.take i)).1, [c]) := by rw [rsAll_take hc]; unfold rs; rw [if_pos (by rw [hd2]; exact hq2.symm)]
        generalize ea : rsAll (l.take i) = s at *
        have hat : atI (s.1.map fun n => V.int (n : Nat)) (-1) = some (V.int ((s.1.getD (s.1.length - 1) 0 : Nat) : Int)) := by
          unfold atI ixN
          simp only [List.length_map]
          rw [if_neg (by omega), if_pos (by omega)]
          have e : ((-1 : Int) + (s.1.length : Int)).toNat = s.1.length - 1 := by omega
          rw [e]
          show (s.1.map fun n => V.int (n : Nat))[s.1.length - 1]? = _
          rw [List.getElem?_map, List.getD_eq_getElem?_getD, List.getElem?_eq_getElem (by omega)]
          rfl
        have hix : ixN (s.1.map fun n => V.int (n : Nat)).length (-1) = some (s.1.length - 1) := by
          unfold ixN
          simp only [List.length_map]
          rw [if_neg (by omega), if_pos (by omega)]
          congr 1
          omega
        walk_at "go"
        rename_i H4 hp3 hb
        refine ⟨_, _, rfl, But.ex hb ex3 hn, ?_⟩
        rw [hp3, er]
        unfold bump
        rw [List.map_set]
        rfl
      · walk_at "go"
        rename_i H4 hp3 hb
        refine ⟨_, _, rfl, But.ex hb ex3 hn, ?_⟩
        rw [hp3, app (by rw [hd2]; exact fun z => hq2 z.symm), List.map_append]
        rfl
    · have hi0 : i = 0 := by omega
      subst hi0
      walk_at "go"
      rename_i H4 hp3 hb
      refine ⟨_, _, rfl, But.ex hb ex3 hn, ?_⟩
      rw [hp3, app (by simp [rsAll]), List.map_append]
      rfl
  · rintro σ H2 ⟨v, w, rfl, ex, hp2⟩
    walk_at "go"
    rw [List.take_length] at hp2
    exact k _ _ hn ex hp2
end
end My
namespace My
open PySem PySem.Spec PyProof.Rows L2 Z
section
variable {P : Program} {w : World} {K : PySem.W.Frag} {mg : Str → Option Value} {base : Heap}
/-! the steps by name -/
local macro_rules | `(tactic| walk_at "sd") => `(tactic| first
  | with_reducible assumption
  | omega
  | (simp only [List.length_append, List.length_cons, List.length_nil, List.length_replicate, rep_len, List.length_map, List.length_set]; omega)
  | decide)
local macro_rules | `(tactic| walk_at "lk") => `(tactic| first
  | with_reducible assumption
  | exact Ex.at_ (by with_reducible assumption) (by walk_at "lk")
  | exact But.at_ (by with_reducible assumption) (by walk_at "ne") (by walk_at "lk"))
local macro_rules | `(tactic| walk_at "ne") => `(tactic| first
  | with_reducible assumption
  | exact Ne.symm (by with_reducible assumption)
  | exact ne_new (by with_reducible assumption) (by walk_at "lk")
  | exact Ne.symm (ne_new (by with_reducible assumption) (by walk_at "lk"))
  | exact Urn.ne_new (by with_reducible assumption) (by walk_at "ur")
  | exact Ne.symm (Urn.ne_new (by with_reducible assumption) (by walk_at "ur")))
local macro_rules | `(tactic| walk_at "ur") => `(tactic| first
  | with_reducible assumption
  | exact Urn.ex (by with_reducible assumption) (by walk_at "ur")
  | exact Urn.but (by with_reducible assumption) (by walk_at "ne") (by walk_at "ur"))
local macro_rules | `(tactic| walk_at "dp") => `(tactic| first
  | with_reducible exact Dp.str _
  | with_reducible exact Dp.int _
  | with_reducible exact Dp.bl _
  | with_reducible exact Dp.non
  | with_reducible assumption
  | ((with_reducible refine' Dp.lst (SqL.of ?h0) ?h1); (case h0 => walk_at "lk"); (case h1 => walk_at "da"))
  | ((with_reducible refine' Dp.tup (SqT.of ?h0) ?h1); (case h0 => walk_at "lk"); (case h1 => walk_at "da"))
  | exact Dp.int _
  | exact Dp.str _)
local macro_rules | `(tactic| walk_at "da") => `(tactic| first
  | exact DpAll.nil
  | ((with_reducible refine' DpAll.cons ?h0 ?h1); (case h0 => walk_at "dp"); (case h1 => walk_at "da"))
  | with_reducible assumption)
local macro_rules | `(tactic| walk_at "ex") => `(tactic| first
  | with_reducible assumption
  | exact Ex.refl _
  | (refine Ex.trans ?_ (by with_reducible assumption); walk_at "ex"))
local macro_rules | `(tactic| walk_at "at") => `(tactic| first
  | with_reducible assumption
  | exact rfl
  | exact atI_nat (by with_reducible assumption)
  | exact atI_last _ _)
local macro_rules | `(tactic| walk_at "s") => `(tactic| first
  | ((with_reducible refine' call_law_number_code ?h0 ?h1 (fun H' he => ?_)); (case h0 => walk_at "sd"); (case h1 => walk_at "sd"))
  | ((with_reducible refine' call_law_runs ?h0 (fun p H' hn he hp => ?_)); (case h0 => walk_at "sd"))
  | ((with_reducible refine' norm ?h0 ?_); (case h0 => (dsimp only [List.set_cons_zero, List.set_cons_succ] <;> exact rfl)))
  | ((with_reducible refine' var_ ?h0 ?_); (case h0 => exact rfl))
  | ((with_reducible refine' c_ ?_))
  | ((with_reducible refine' op_ ?_))
  | ((with_reducible refine' cons_ ?_))
  | ((with_reducible refine' nil_ ?_))
  | ((with_reducible refine' seq_asg ?_))
  | ((with_reducible refine' asg_ ?_))
  | ((with_reducible refine' ret_ ?_))
  | ((with_reducible refine' cb_ ?_))
  | ((with_reducible refine' c1_ ?_))
  | ((with_reducible refine' addI ?_))
  | ((with_reducible refine' subI ?_))
  | ((with_reducible refine' addS ?h0 ?_); (case h0 => walk_at "sd"))
  | ((with_reducible refine' lenS ?h0 ?_); (case h0 => walk_at "sd"))
  | ((with_reducible refine' ixS ?h0 ?h1 ?_); (case h0 => walk_at "sd"); (case h1 => walk_at "at"))
  | ((with_reducible refine' ixL ?h0 ?h1 ?_); (case h0 => walk_at "lk"); (case h1 => walk_at "at"))
  | ((with_reducible refine' ixU ?h0 ?h1 ?_); (case h0 => walk_at "lk"); (case h1 => walk_at "at"))
  | ((with_reducible refine' ixSq ?h0 ?h1 ?_); (case h0 => assumption); (case h1 => walk_at "at"))
  | ((with_reducible refine' lenL ?h0 ?_); (case h0 => walk_at "lk"))
  | ((with_reducible refine' lenU ?h0 ?_); (case h0 => walk_at "lk"))
  | ((with_reducible refine' lenSq ?h0 ?_); (case h0 => assumption))
  | ((with_reducible refine' mulI ?h0 ?_); (case h0 => first | exact mul_ok1 (by omega) (by omega) | exact mul_ok2 (by omega) (by omega) | with_reducible assumption))
  | ((with_reducible refine' mulS ?h0 ?h1 ?h2 ?_); (case h0 => walk_at "sd"); (case h1 => walk_at "sd"); (case h2 => walk_at "sd"))
  | ((with_reducible refine' divI ?h0 ?h1 ?_); (case h0 => walk_at "sd"); (case h1 => walk_at "sd"))
  | ((with_reducible refine' modI ?h0 ?_); (case h0 => walk_at "sd"))
  | ((with_reducible refine' powI ?h0 ?_); (case h0 => first | with_reducible assumption | exact pow_ok (by decide)))
  | ((with_reducible refine' test_ ?_))
  | ((with_reducible refine' zb_ ?_))
  | ((with_reducible refine' tb_ ?_))
  | ((with_reducible refine' ltI ?_))
  | ((with_reducible refine' leI ?_))
  | ((with_reducible refine' gtI ?_))
  | ((with_reducible refine' geI ?_))
  | ((with_reducible refine' eqII ?_))
  | ((with_reducible refine' eqSS ?_))
  | ((with_reducible refine' neSS ?_))
  | ((with_reducible refine' eqI ?_))
  | ((with_reducible refine' eqS ?_))
  | ((with_reducible refine' neI ?_))
  | ((with_reducible refine' neS ?_))
  | ((with_reducible refine' orT_ ?_))
  | ((with_reducible refine' truth_ ?_))
  | ((with_reducible refine' ztru_b ?_))
  | ((with_reducible refine' ztru_S ?h0 ?_); (case h0 => walk_at "sd"))
  | ((with_reducible refine' inS ?_))
  | ((with_reducible refine' niS ?_))
  | ((with_reducible refine' seq_if ?_))
  | ((with_reducible refine' if_ ?_))
  | ((with_reducible refine' zif_t ?_))
  | ((with_reducible refine' zif_f ?_))
  | ((with_reducible refine' zif_nT ?_))
  | ((with_reducible refine' zif_nF ?_))
  | ((with_reducible refine' zif_dt ?h0 ?_); (case h0 => walk_at "sd"))
  | ((with_reducible refine' zif_df ?h0 ?_); (case h0 => walk_at "sd"))
  | ((with_reducible refine' zif_nt ?h0 ?_); (case h0 => walk_at "sd"))
  | ((with_reducible refine' zif_nf ?h0 ?_); (case h0 => walk_at "sd"))
  | ((with_reducible refine' not_ ?_))
  | ((with_reducible refine' and_ ?_))
  | ((with_reducible refine' or_ ?_))
  | ((with_reducible refine' tup_ ?_))
  | ((with_reducible refine' lst_ ?_))
  | ((with_reducible refine' ztup_ ?h0 (fun p H' hn he hp => ?_)); (case h0 => walk_at "sd"))
  | ((with_reducible refine' zlst_ ?h0 (fun p H' hn he hp => ?_)); (case h0 => walk_at "sd"))
  | ((with_reducible refine' addL ?h0 ?h1 ?h2 (fun p H' hn he hp => ?_)); (case h0 => walk_at "lk"); (case h1 => walk_at "lk"); (case h2 => walk_at "sd"))
  | ((with_reducible refine' un_ ?_))
  | ((with_reducible refine' negI ?_))
  | ((with_reducible refine' sl_ ?_))
  | ((with_reducible refine' nopart_ ?_))
  | ((with_reducible refine' part_ ?_))
  | ((with_reducible refine' zpart_ ?_))
  | ((with_reducible refine' slS ?h0 ?_); (case h0 => walk_at "sd"))
  | ((with_reducible refine' slL ?h0 (fun p H' hn he hp => ?_)); (case h0 => walk_at "lk"))
  | ((with_reducible refine' seq_asgG ?_))
  | ((with_reducible refine' asgG_ ?_))
  | ((with_reducible refine' gtup_ ?h0 ?h1 ?_); (case h0 => walk_at "lk"); (case h1 => rfl))
  | ((with_reducible refine' gcons_ ?_))
  | ((with_reducible refine' gname_ ?_))
  | ((with_reducible refine' gnil_ ?_))
  | ((with_reducible refine' gsub_ ?_))
  | ((with_reducible refine' setL_ ?h0 ?h1 (fun H' hp hb => ?_)); (case h0 => walk_at "lk"); (case h1 => first | rfl | assumption))
  | ((with_reducible refine' seq_par ?_))
  | ((with_reducible refine' par_ ?_))
  | ((with_reducible refine' zpar_ ?_))
  | ((with_reducible refine' seq_aug ?h0 ?_); (case h0 => exact rfl))
  | ((with_reducible refine' aug_ ?h0 ?_); (case h0 => exact rfl))
  | ((with_reducible refine' augS_ ?_))
  | ((with_reducible refine' getL_ ?h0 ?h1 ?_); (case h0 => walk_at "lk"); (case h1 => walk_at "at"))
  | ((with_reducible refine' iaddI ?_))
  | ((with_reducible refine' iaddS ?h0 ?_); (case h0 => walk_at "sd"))
  | ((with_reducible refine' isubI ?_))
  | ((with_reducible refine' imulI ?h0 ?h1 ?_); (case h0 => walk_at "sd"); (case h1 => walk_at "sd"))
  | ((with_reducible refine' idivI ?h0 ?h1 ?_); (case h0 => walk_at "sd"); (case h1 => walk_at "sd"))
  | ((with_reducible refine' seq_drop ?_))
  | ((with_reducible refine' drop_ ?_))
  | ((with_reducible refine' bm_ ?_))
  | ((with_reducible refine' zbmL_ ?h0 ?_); (case h0 => walk_at "lk"))
  | ((with_reducible refine' append_ ?h0 ?h1 (fun H' hp hb => ?_)); (case h0 => walk_at "lk"); (case h1 => walk_at "sd"))
  | ((with_reducible refine' fld_ ?_))
  | ((with_reducible refine' zfld_ ?h0 ?h1 ?h2 ?h3 ?_); (case h0 => walk_at "lk"); (case h1 => assumption); (case h2 => assumption); (case h3 => exact rfl))
  | ((with_reducible refine' seq_fld ?_))
  | ((with_reducible refine' fldS_ ?_))
  | ((with_reducible refine' zset_ ?h0 ?h1 ?h2 ?h3 ?h4 (fun H' hp hb => ?_)); (case h0 => walk_at "lk"); (case h1 => assumption); (case h2 => assumption); (case h3 => decide); (case h4 => exact rfl))
  | ((with_reducible refine' ck_ ?_))
  | ((with_reducible refine' zck_ ?h0 ?h1 ?h2 ?_); (case h0 => rfl); (case h1 => rfl); (case h2 => (dsimp only [List.cons_append, List.nil_append, List.append_nil] <;> exact rfl)))
  | ((with_reducible refine' mk_ ?_))
  | ((with_reducible refine' zmeth_ ?h0 ?h1 ?_); (case h0 => walk_at "lk"); (case h1 => exact rfl))
  | ((with_reducible refine' kk_ ?_))
  | ((with_reducible refine' zkk_ ?h0 ?h1 (fun x dx H' nx ndx ne he hx => ?_)); (case h0 => rfl); (case h1 => rfl))
  | ((with_reducible refine' zsp_ ?h0 ?_); (case h0 => (dsimp only [List.cons_append, List.nil_append, List.append_nil] <;> exact rfl)))
  | ((with_reducible refine' extend_ ?h0 ?h1 ?h2 (fun H' hp hb => ?_)); (case h0 => walk_at "lk"); (case h1 => walk_at "lk"); (case h2 => walk_at "sd"))
  | ((with_reducible refine' m1_ ?_))
  | ((with_reducible refine' zm1_ ?_))
  | ((with_reducible refine' count_ ?_))
  | ((with_reducible refine' strI_ ?h0 ?h1 ?_); (case h0 => walk_at "sd"); (case h1 => walk_at "sd"))
  | ((with_reducible refine' divmod_ ?h0 ?h1 (fun p H' hn he hp => ?_)); (case h0 => walk_at "sd"); (case h1 => walk_at "sd"))
  | ((with_reducible refine' abs_ ?_))
  | ((with_reducible refine' min2_ ?_))
  | ((with_reducible refine' max2_ ?_))
  | ((with_reducible refine' seq_for ?_))
  | ((with_reducible refine' for_ ?_))
  | ((with_reducible refine' ilist_ ?_))
  | ((with_reducible refine' zlist_ ?h0 ?_); (case h0 => walk_at "lk"))
  | ((with_reducible refine' zlistQ_ ?h0 ?_); (case h0 => assumption))
  | ((with_reducible refine' istr_ ?_))
  | ((with_reducible refine' zstr_ ?_))
  | ((with_reducible refine' irng1_ ?_))
  | ((with_reducible refine' irng2_ ?_))
  | ((with_reducible refine' zrng1_ ?h0 ?h1 ?_); (case h0 => walk_at "sd"); (case h1 => walk_at "sd"))
  | ((with_reducible refine' zrng2_ ?h0 ?h1 ?h2 ?h3 ?_); (case h0 => walk_at "sd"); (case h1 => walk_at "sd"); (case h2 => walk_at "sd"); (case h3 => walk_at "sd"))
  | ((with_reducible refine' ient_ ?_))
  | ((with_reducible refine' zent_ ?_))
  | ((with_reducible refine' revS_ ?_))
  | ((with_reducible refine' zrevS_ ?h0 ?_); (case h0 => walk_at "sd"))
  | ((with_reducible refine' intI_ ?_))
  | ((with_reducible refine' intB_ ?_))
  | ((with_reducible refine' intS_ ?h0 ?_); (case h0 => assumption))
  | ((with_reducible refine' seq_par3 ?_))
  | ((with_reducible refine' par3_ ?_))
  | ((with_reducible refine' zpar3_ ?_))
  | ((with_reducible refine' isSS_ ?_))
  | ((with_reducible refine' ientK_ ?_))
  | ((with_reducible refine' zenK_ ?h0 ?h1 ?_); (case h0 => walk_at "sd"); (case h1 => walk_at "sd"))
  | ((with_reducible refine' lc_ ?_))
  | ((with_reducible refine' tyes_ ?_))
  | ((with_reducible refine' zput_t ?_))
  | ((with_reducible refine' ifE_ ?_))
  | ((with_reducible refine' andV_ ?_))
  | ((with_reducible refine' zandv_t ?_))
  | ((with_reducible refine' zandv_f ?_))
  | ((with_reducible refine' zorv_t ?_))
  | ((with_reducible refine' zorv_f ?_))
  | ((with_reducible refine' zand_t ?_))
  | ((with_reducible refine' zand_f ?_))
  | ((with_reducible refine' zor_t ?_))
  | ((with_reducible refine' zor_f ?_))
  | ((with_reducible refine' orV_ ?_))
  | ((with_reducible refine' next_ ?_))
  | ((with_reducible refine' nx_ ?h0 ?_); (case h0 => (dsimp only <;> exact rfl)))
  | ((with_reducible refine' rt_ ?h0 ?_); (case h0 => (dsimp only <;> exact rfl)))
  | ((with_reducible refine' brk_ ?_))
  | ((with_reducible refine' cont_ ?_))
  | ((with_reducible refine' bk_ ?h0 ?_); (case h0 => (dsimp only <;> exact rfl)))
  | ((with_reducible refine' ct_ ?h0 ?_); (case h0 => (dsimp only <;> exact rfl)))
  | ((with_reducible refine' seq_ ?_)))
local macro_rules | `(tactic| walk_at "go") => `(tactic| repeat (walk_at "s"))
set_option maxHeartbeats 4000000 in
theorem ok_law_codes {f : Addr} {fd : FuncData} {dV kV : Value} (g : G mg)
    (F : Txt K "_law_codes" "_law_codes" (defArgs st_law_codes) (defBody st_law_codes) (defScope st_law_codes) dV kV f fd)
    (D_law_number_code : Def P w K mg base 1 "_law_number_code" [] (sp_law_number_code))
    (D_law_runs : Def P w K mg base 1 "_law_runs" [] (sp_law_runs)) :
    FnG P w K mg base 2 f fd ["_law_row_text"] (sp_law_codes) := by
  refine z_fn F sc_law_codes (fun vs H Q E h => by
    obtain ⟨l, rfl, h0, h1, k⟩ := h
    rfl) (fun cd A outer s H vs Q E hr ng h => ?_)
  obtain ⟨l, rfl, h0, h1, k⟩ := h
  refine ⟨_, [_, none, none], rfl, (pss_cons (ps_setLc (i := 1) (own := [("_law_number", 2)]) rfl sc_law_codes.nd rfl rfl (sw_true rfl rfl rfl (by decide +kernel)) (pi_list (pe_f D_law_runs (hr.mono (by decide)) ng (by rfl) tk0 (pa_cons (pv 0) pa_nil))) (blkOk_by (own := [("_law_number", 2)]) (N := nm_law_codes) (sc := defScope st_law_codes) (by decide +kernel)) (fun _ _ _ _ _ => (pg_name (i := 2) sc_law_codes.nd rfl (Or.inl rfl))) (fun _ _ _ _ _ => pts_nil) (fun _ _ _ _ _ => (pe_f D_law_number_code (hr.mono (by decide)) ng (by rfl) tk0 (pa_cons (pv 2) pa_nil))))
      (pss_one (ps_ret (pe_tup (pa_cons (pe_op z_add (z_str lit_2) (pv 0)) (pa_cons (pe_op z_add (pe_op z_add (z_str lit_3) (pe_ix z_ix (pv 0) pe_int (fun _ _ => rfl))) (z_join (z_str lit_0) (pv 1))) pa_nil)))))), ?_⟩
  have hat : atI l 0 = some (l.getD 0 48) := by
    refine atI_nat (j := 0) ?_
    rw [List.getD_eq_getElem?_getD, List.getElem?_eq_getElem h0]
    rfl
  have hr := runs_len l
  have hz : ∀ n ∈ runs l, (ncode n).length ≤ 20 := fun n hn => ncode_len (k := 10) (by have := runs_le l n hn; omega)
  have hf := flat_len hz
  walk_at "go"
  refine lcL (ys := (runs l).map fun n => T (ncode n)) (SqL.of (by assumption)) (by simp) (by simp; omega) (fun _ => rfl) ?_ ?_
  · intro D i x H1 hD hx m
    rw [List.getElem?_map] at hx
    obtain ⟨n, hn, rfl⟩ := Option.map_eq_some_iff.mp hx
    have hm : n ∈ runs l := List.mem_of_getElem? hn
    have h2 := runs_pos l n hm
    have h3 := runs_le l n hm
    walk_at "go"
    refine lm_put hD m (by assumption) ?_ (by simp; omega)
    rw [List.getElem?_map, hn, Int.toNat_natCast]
    rfl
  · intro D H1 hD ex hd
    have e : ((runs l).map fun n => T (ncode n)) = ((runs l).map ncode).map T := by rw [List.map_map]; rfl
    rw [e] at hd
    walk_at "go"
    refine join_ hd (by rw [hf.2, List.length_nil]; omega) ?_
    rw [joinT_nil]
    walk_at "go"
    rename_i p1 H2 hn1 he1 hp1 p2 H3 hn2 he2 hp2
    exact k _ _ ((Ex.trans he1 ex).back hn2) (Ex.trans (Ex.trans he1 ex) he2) hp2
end
end My
namespace My
open PySem PySem.Spec PyProof.Rows L2 Z
section
variable {P : Program} {w : World} {K : PySem.W.Frag} {mg : Str → Option Value} {base : Heap}
/-! the steps by name -/
local macro_rules | `(tactic| walk_at "sd") => `(tactic| first
  | with_reducible assumption
  | omega
  | (simp only [List.length_append, List.length_cons, List.length_nil, List.length_replicate, rep_len, List.length_map, List.length_set]; omega)
  | decide)
local macro_rules | `(tactic| walk_at "lk") => `(tactic| first
  | with_reducible assumption
  | exact Ex.at_ (by with_reducible assumption) (by walk_at "lk")
  | exact But.at_ (by with_reducible assumption) (by walk_at "ne") (by walk_at "lk"))
local macro_rules | `(tactic| walk_at "ne") => `(tactic| first
  | with_reducible assumption
  | exact Ne.symm (by with_reducible assumption)
  | exact ne_new (by with_reducible assumption) (by walk_at "lk")
  | exact Ne.symm (ne_new (by with_reducible assumption) (by walk_at "lk"))
  | exact Urn.ne_new (by with_reducible assumption) (by walk_at "ur")
  | exact Ne.symm (Urn.ne_new (by with_reducible assumption) (by walk_at "ur")))
local macro_rules | `(tactic| walk_at "ur") => `(tactic| first
  | with_reducible assumption
  | exact Urn.ex (by with_reducible assumption) (by walk_at "ur")
  | exact Urn.but (by with_reducible assumption) (by walk_at "ne") (by walk_at "ur"))
local macro_rules | `(tactic| walk_at "dp") => `(tactic| first
  | with_reducible exact Dp.str _
  | with_reducible exact Dp.int _
  | with_reducible exact Dp.bl _
  | with_reducible exact Dp.non
  | with_reducible assumption
  | ((with_reducible refine' Dp.lst (SqL.of ?h0) ?h1); (case h0 => walk_at "lk"); (case h1 => walk_at "da"))
  | ((with_reducible refine' Dp.tup (SqT.of ?h0) ?h1); (case h0 => walk_at "lk"); (case h1 => walk_at "da"))
  | exact Dp.int _
  | exact Dp.str _)
local macro_rules | `(tactic| walk_at "da") => `(tactic| first
  | exact DpAll.nil
  | ((with_reducible refine' DpAll.cons ?h0 ?h1); (case h0 => walk_at "dp"); (case h1 => walk_at "da"))
  | with_reducible assumption)
local macro_rules | `(tactic| walk_at "ex") => `(tactic| first
  | with_reducible assumption
  | exact Ex.refl _
  | (refine Ex.trans ?_ (by with_reducible assumption); walk_at "ex"))
local macro_rules | `(tactic| walk_at "at") => `(tactic| first
  | with_reducible assumption
  | exact rfl
  | exact atI_nat (by with_reducible assumption)
  | exact atI_last _ _)
local macro_rules | `(tactic| walk_at "s") => `(tactic| first
  | ((with_reducible refine' call_law_codes ?h0 ?h1 (fun p H' hn he hp => ?_)); (case h0 => walk_at "sd"); (case h1 => walk_at "sd"))
  | ((with_reducible refine' norm ?h0 ?_); (case h0 => (dsimp only [List.set_cons_zero, List.set_cons_succ] <;> exact rfl)))
  | ((with_reducible refine' var_ ?h0 ?_); (case h0 => exact rfl))
  | ((with_reducible refine' c_ ?_))
  | ((with_reducible refine' op_ ?_))
  | ((with_reducible refine' cons_ ?_))
  | ((with_reducible refine' nil_ ?_))
  | ((with_reducible refine' seq_asg ?_))
  | ((with_reducible refine' asg_ ?_))
  | ((with_reducible refine' ret_ ?_))
  | ((with_reducible refine' cb_ ?_))
  | ((with_reducible refine' c1_ ?_))
  | ((with_reducible refine' addI ?_))
  | ((with_reducible refine' subI ?_))
  | ((with_reducible refine' addS ?h0 ?_); (case h0 => walk_at "sd"))
  | ((with_reducible refine' lenS ?h0 ?_); (case h0 => walk_at "sd"))
  | ((with_reducible refine' ixS ?h0 ?h1 ?_); (case h0 => walk_at "sd"); (case h1 => walk_at "at"))
  | ((with_reducible refine' ixL ?h0 ?h1 ?_); (case h0 => walk_at "lk"); (case h1 => walk_at "at"))
  | ((with_reducible refine' ixU ?h0 ?h1 ?_); (case h0 => walk_at "lk"); (case h1 => walk_at "at"))
  | ((with_reducible refine' ixSq ?h0 ?h1 ?_); (case h0 => assumption); (case h1 => walk_at "at"))
  | ((with_reducible refine' lenL ?h0 ?_); (case h0 => walk_at "lk"))
  | ((with_reducible refine' lenU ?h0 ?_); (case h0 => walk_at "lk"))
  | ((with_reducible refine' lenSq ?h0 ?_); (case h0 => assumption))
  | ((with_reducible refine' mulI ?h0 ?_); (case h0 => first | exact mul_ok1 (by omega) (by omega) | exact mul_ok2 (by omega) (by omega) | with_reducible assumption))
  | ((with_reducible refine' mulS ?h0 ?h1 ?h2 ?_); (case h0 => walk_at "sd"); (case h1 => walk_at "sd"); (case h2 => walk_at "sd"))
  | ((with_reducible refine' divI ?h0 ?h1 ?_); (case h0 => walk_at "sd"); (case h1 => walk_at "sd"))
  | ((with_reducible refine' modI ?h0 ?_); (case h0 => walk_at "sd"))
  | ((with_reducible refine' powI ?h0 ?_); (case h0 => first | with_reducible assumption | exact pow_ok (by decide)))
  | ((with_reducible refine' test_ ?_))
  | ((with_reducible refine' zb_ ?_))
  | ((with_reducible refine' tb_ ?_))
  | ((with_reducible refine' ltI ?_))
  | ((with_reducible refine' leI ?_))
  | ((with_reducible refine' gtI ?_))
  | ((with_reducible refine' geI ?_))
  | ((with_reducible refine' eqII ?_))
  | ((with_reducible refine' eqSS ?_))
  | ((with_reducible refine' neSS ?_))
  | ((with_reducible refine' eqI ?_))
  | ((with_reducible refine' eqS ?_))
  | ((with_reducible refine' neI ?_))
  | ((with_reducible refine' neS ?_))
  | ((with_reducible refine' orT_ ?_))
  | ((with_reducible refine' truth_ ?_))
  | ((with_reducible refine' ztru_b ?_))
  | ((with_reducible refine' ztru_S ?h0 ?_); (case h0 => walk_at "sd"))
  | ((with_reducible refine' inS ?_))
  | ((with_reducible refine' niS ?_))
  | ((with_reducible refine' seq_if ?_))
  | ((with_reducible refine' if_ ?_))
  | ((with_reducible refine' zif_t ?_))
  | ((with_reducible refine' zif_f ?_))
  | ((with_reducible refine' zif_nT ?_))
  | ((with_reducible refine' zif_nF ?_))
  | ((with_reducible refine' zif_dt ?h0 ?_); (case h0 => walk_at "sd"))
  | ((with_reducible refine' zif_df ?h0 ?_); (case h0 => walk_at "sd"))
  | ((with_reducible refine' zif_nt ?h0 ?_); (case h0 => walk_at "sd"))
  | ((with_reducible refine' zif_nf ?h0 ?_); (case h0 => walk_at "sd"))
  | ((with_reducible refine' not_ ?_))
  | ((with_reducible refine' and_ ?_))
  | ((with_reducible refine' or_ ?_))
  | ((with_reducible refine' tup_ ?_))
  | ((with_reducible refine' lst_ ?_))
  | ((with_reducible refine' ztup_ ?h0 (fun p H' hn he hp => ?_)); (case h0 => walk_at "sd"))
  | ((with_reducible refine' zlst_ ?h0 (fun p H' hn he hp => ?_)); (case h0 => walk_at "sd"))
  | ((with_reducible refine' addL ?h0 ?h1 ?h2 (fun p H' hn he hp => ?_)); (case h0 => walk_at "lk"); (case h1 => walk_at "lk"); (case h2 => walk_at "sd"))
  | ((with_reducible refine' un_ ?_))
  | ((with_reducible refine' negI ?_))
  | ((with_reducible refine' sl_ ?_))
  | ((with_reducible refine' nopart_ ?_))
  | ((with_reducible refine' part_ ?_))
  | ((with_reducible refine' zpart_ ?_))
  | ((with_reducible refine' slS ?h0 ?_); (case h0 => walk_at "sd"))
  | ((with_reducible refine' slL ?h0 (fun p H' hn he hp => ?_)); (case h0 => walk_at "lk"))
  | ((with_reducible refine' seq_asgG ?_))
  | ((with_reducible refine' asgG_ ?_))
  | ((with_reducible refine' gtup_ ?h0 ?h1 ?_); (case h0 => walk_at "lk"); (case h1 => rfl))
  | ((with_reducible refine' gcons_ ?_))
  | ((with_reducible refine' gname_ ?_))
  | ((with_reducible refine' gnil_ ?_))
  | ((with_reducible refine' gsub_ ?_))
  | ((with_reducible refine' setL_ ?h0 ?h1 (fun H' hp hb => ?_)); (case h0 => walk_at "lk"); (case h1 => first | rfl | assumption))
  | ((with_reducible refine' seq_par ?_))
  | ((with_reducible refine' par_ ?_))
  | ((with_reducible refine' zpar_ ?_))
  | ((with_reducible refine' seq_aug ?h0 ?_); (case h0 => exact rfl))
  | ((with_reducible refine' aug_ ?h0 ?_); (case h0 => exact rfl))
  | ((with_reducible refine' augS_ ?_))
  | ((with_reducible refine' getL_ ?h0 ?h1 ?_); (case h0 => walk_at "lk"); (case h1 => walk_at "at"))
  | ((with_reducible refine' iaddI ?_))
  | ((with_reducible refine' iaddS ?h0 ?_); (case h0 => walk_at "sd"))
  | ((with_reducible refine' isubI ?_))
  | ((with_reducible refine' imulI ?h0 ?h1 ?_); (case h0 => walk_at "sd"); (case h1 => walk_at "sd"))
  | ((with_reducible refine' idivI ?h0 ?h1 ?_); (case h0 => walk_at "sd"); (case h1 => walk_at "sd"))
  | ((with_reducible refine' seq_drop ?_))
  | ((with_reducible refine' drop_ ?_))
  | ((with_reducible refine' bm_ ?_))
  | ((with_reducible refine' zbmL_ ?h0 ?_); (case h0 => walk_at "lk"))
  | ((with_reducible refine' append_ ?h0 ?h1 (fun H' hp hb => ?_)); (case h0 => walk_at "lk"); (case h1 => walk_at "sd"))
  | ((with_reducible refine' fld_ ?_))
  | ((with_reducible refine' zfld_ ?h0 ?h1 ?h2 ?h3 ?_); (case h0 => walk_at "lk"); (case h1 => assumption); (case h2 => assumption); (case h3 => exact rfl))
  | ((with_reducible refine' seq_fld ?_))
  | ((with_reducible refine' fldS_ ?_))
  | ((with_reducible refine' zset_ ?h0 ?h1 ?h2 ?h3 ?h4 (fun H' hp hb => ?_)); (case h0 => walk_at "lk"); (case h1 => assumption); (case h2 => assumption); (case h3 => decide); (case h4 => exact rfl))
  | ((with_reducible refine' ck_ ?_))
  | ((with_reducible refine' zck_ ?h0 ?h1 ?h2 ?_); (case h0 => rfl); (case h1 => rfl); (case h2 => (dsimp only [List.cons_append, List.nil_append, List.append_nil] <;> exact rfl)))
  | ((with_reducible refine' mk_ ?_))
  | ((with_reducible refine' zmeth_ ?h0 ?h1 ?_); (case h0 => walk_at "lk"); (case h1 => exact rfl))
  | ((with_reducible refine' kk_ ?_))
  | ((with_reducible refine' zkk_ ?h0 ?h1 (fun x dx H' nx ndx ne he hx => ?_)); (case h0 => rfl); (case h1 => rfl))
  | ((with_reducible refine' zsp_ ?h0 ?_); (case h0 => (dsimp only [List.cons_append, List.nil_append, List.append_nil] <;> exact rfl)))
  | ((with_reducible refine' extend_ ?h0 ?h1 ?h2 (fun H' hp hb => ?_)); (case h0 => walk_at "lk"); (case h1 => walk_at "lk"); (case h2 => walk_at "sd"))
  | ((with_reducible refine' m1_ ?_))
  | ((with_reducible refine' zm1_ ?_))
  | ((with_reducible refine' count_ ?_))
  | ((with_reducible refine' strI_ ?h0 ?h1 ?_); (case h0 => walk_at "sd"); (case h1 => walk_at "sd"))
  | ((with_reducible refine' divmod_ ?h0 ?h1 (fun p H' hn he hp => ?_)); (case h0 => walk_at "sd"); (case h1 => walk_at "sd"))
  | ((with_reducible refine' abs_ ?_))
  | ((with_reducible refine' min2_ ?_))
  | ((with_reducible refine' max2_ ?_))
  | ((with_reducible refine' seq_for ?_))
  | ((with_reducible refine' for_ ?_))
  | ((with_reducible refine' ilist_ ?_))
  | ((with_reducible refine' zlist_ ?h0 ?_); (case h0 => walk_at "lk"))
  | ((with_reducible refine' zlistQ_ ?h0 ?_); (case h0 => assumption))
  | ((with_reducible refine' istr_ ?_))
  | ((with_reducible refine' zstr_ ?_))
  | ((with_reducible refine' irng1_ ?_))
  | ((with_reducible refine' irng2_ ?_))
  | ((with_reducible refine' zrng1_ ?h0 ?h1 ?_); (case h0 => walk_at "sd"); (case h1 => walk_at "sd"))
  | ((with_reducible refine' zrng2_ ?h0 ?h1 ?h2 ?h3 ?_); (case h0 => walk_at "sd"); (case h1 => walk_at "sd"); (case h2 => walk_at "sd"); (case h3 => walk_at "sd"))
  | ((with_reducible refine' ient_ ?_))
  | ((with_reducible refine' zent_ ?_))
  | ((with_reducible refine' revS_ ?_))
  | ((with_reducible refine' zrevS_ ?h0 ?_); (case h0 => walk_at "sd"))
  | ((with_reducible refine' intI_ ?_))
  | ((with_reducible refine' intB_ ?_))
  | ((with_reducible refine' intS_ ?h0 ?_); (case h0 => assumption))
  | ((with_reducible refine' seq_par3 ?_))
  | ((with_reducible refine' par3_ ?_))
  | ((with_reducible refine' zpar3_ ?_))
  | ((with_reducible refine' isSS_ ?_))
  | ((with_reducible refine' ientK_ ?_))
  | ((with_reducible refine' zenK_ ?h0 ?h1 ?_); (case h0 => walk_at "sd"); (case h1 => walk_at "sd"))
  | ((with_reducible refine' lc_ ?_))
  | ((with_reducible refine' tyes_ ?_))
  | ((with_reducible refine' zput_t ?_))
  | ((with_reducible refine' ifE_ ?_))
  | ((with_reducible refine' andV_ ?_))
  | ((with_reducible refine' zandv_t ?_))
  | ((with_reducible refine' zandv_f ?_))
  | ((with_reducible refine' zorv_t ?_))
  | ((with_reducible refine' zorv_f ?_))
  | ((with_reducible refine' zand_t ?_))
  | ((with_reducible refine' zand_f ?_))
  | ((with_reducible refine' zor_t ?_))
  | ((with_reducible refine' zor_f ?_))
  | ((with_reducible refine' orV_ ?_))
  | ((with_reducible refine' next_ ?_))
  | ((with_reducible refine' nx_ ?h0 ?_); (case h0 => (dsimp only <;> exact rfl)))
  | ((with_reducible refine' rt_ ?h0 ?_); (case h0 => (dsimp only <;> exact rfl)))
  | ((with_reducible refine' brk_ ?_))
  | ((with_reducible refine' cont_ ?_))
  | ((with_reducible refine' bk_ ?h0 ?_); (case h0 => (dsimp only <;> exact rfl)))
  | ((with_reducible refine' ct_ ?h0 ?_); (case h0 => (dsimp only <;> exact rfl)))
  | ((with_reducible refine' seq_ ?_)))
local macro_rules | `(tactic| walk_at "go") => `(tactic| repeat (walk_at "s"))
set_option maxHeartbeats 4000000 in
theorem ok_law_code {f : Addr} {fd : FuncData} {dV kV : Value} (g : G mg)
    (F : Txt K "_law_code" "_law_code" (defArgs st_law_code) (defBody st_law_code) (defScope st_law_code) dV kV f fd)
    (D_law_codes : Def P w K mg base 2 "_law_codes" [] (sp_law_codes)) :
    FnG P w K mg base 3 f fd ["_law_row_text"] (sp_law_code) := by
  refine z_fn F sc_law_code (fun vs H Q E h => by
    obtain ⟨l, rfl, h0, h1, k⟩ := h
    rfl) (fun cd A outer s H vs Q E hr ng h => ?_)
  obtain ⟨l, rfl, h0, h1, k⟩ := h
  refine ⟨_, [_, none, none], rfl, (pss_cons (ps_asg (pe_f D_law_codes (hr.mono (by decide)) ng (by rfl) tk0 (pa_cons (pv 0) pa_nil)) (pg_tup (by rfl) (pgs_cons (pg_name (i := 1) sc_law_code.nd rfl (Or.inl rfl)) (pgs_cons (pg_name (i := 2) sc_law_code.nd rfl (Or.inl rfl)) pgs_nil))))
      (pss_one (ps_ret (pe_ix z_ix (pe_lst (pa_cons (pv 2) (pa_cons (pv 1) pa_nil))) (pe_callTy z_int_of (by rfl) g.b_int (by decide +kernel) (pa_cons (pe_cmpR z_le (pe_callB z_len (by rfl) g.b_len (by decide +kernel) (pa_cons (pv 1) pa_nil)) (pe_callB z_len (by rfl) g.b_len (by decide +kernel) (pa_cons (pv 2) pa_nil)) (nomark _)) pa_nil)) (fun _ _ => rfl))))), ?_⟩
  have hr := rcode_len h1
  by_cases hq : (112 :: l).length ≤ (rcode l).length
  · have e : scode l = 112 :: l := if_pos hq
    have hat : ∀ x y : V, atI [x, y] (if decide ((((112 :: l).length : Nat) : Int) ≤ (((rcode l).length : Nat) : Int)) = true then 1 else 0) = some y := by
      intro x y
      rw [decide_eq_true (by omega)]
      rfl
    rw [e] at k
    walk_at "go"
    rename_i p H1 hn he hp q H2 hn2 he2 hp2
    refine ixL hp2 (hat _ _) ?_
    walk_at "go"
    exact k _ (he.trans he2)
  · have e : scode l = rcode l := if_neg hq
    have hat : ∀ x y : V, atI [x, y] (if decide ((((112 :: l).length : Nat) : Int) ≤ (((rcode l).length : Nat) : Int)) = true then 1 else 0) = some x := by
      intro x y
      rw [decide_eq_false (by omega)]
      rfl
    rw [e] at k
    walk_at "go"
    rename_i p H1 hn he hp q H2 hn2 he2 hp2
    refine ixL hp2 (hat _ _) ?_
    walk_at "go"
    exact k _ (he.trans he2)
end
end My
namespace My
open PySem PySem.Spec PyProof.Rows L2 Z
section
variable {P : Program} {w : World} {K : PySem.W.Frag} {mg : Str → Option Value} {base : Heap}
/-! the steps by name -/
local macro_rules | `(tactic| walk_at "sd") => `(tactic| first
  | with_reducible assumption
  | omega
  | (simp only [List.length_append, List.length_cons, List.length_nil, List.length_replicate, rep_len, List.length_map, List.length_set]; omega)
  | decide)
local macro_rules | `(tactic| walk_at "lk") => `(tactic| first
  | with_reducible assumption
  | exact Ex.at_ (by with_reducible assumption) (by walk_at "lk")
  | exact But.at_ (by with_reducible assumption) (by walk_at "ne") (by walk_at "lk"))
local macro_rules | `(tactic| walk_at "ne") => `(tactic| first
  | with_reducible assumption
  | exact Ne.symm (by with_reducible assumption)
  | exact ne_new (by with_reducible assumption) (by walk_at "lk")
  | exact Ne.symm (ne_new (by with_reducible assumption) (by walk_at "lk"))
  | exact Urn.ne_new (by with_reducible assumption) (by walk_at "ur")
  | exact Ne.symm (Urn.ne_new (by with_reducible assumption) (by walk_at "ur")))
local macro_rules | `(tactic| walk_at "ur") => `(tactic| first
  | with_reducible assumption
  | exact Urn.ex (by with_reducible assumption) (by walk_at "ur")
  | exact Urn.but (by with_reducible assumption) (by walk_at "ne") (by walk_at "ur"))
local macro_rules | `(tactic| walk_at "dp") => `(tactic| first
  | with_reducible exact Dp.str _
  | with_reducible exact Dp.int _
  | with_reducible exact Dp.bl _
  | with_reducible exact Dp.non
  | with_reducible assumption
  | ((with_reducible refine' Dp.lst (SqL.of ?h0) ?h1); (case h0 => walk_at "lk"); (case h1 => walk_at "da"))
  | ((with_reducible refine' Dp.tup (SqT.of ?h0) ?h1); (case h0 => walk_at "lk"); (case h1 => walk_at "da"))
  | exact Dp.int _
  | exact Dp.str _)
local macro_rules | `(tactic| walk_at "da") => `(tactic| first
  | exact DpAll.nil
  | ((with_reducible refine' DpAll.cons ?h0 ?h1); (case h0 => walk_at "dp"); (case h1 => walk_at "da"))
  | with_reducible assumption)
local macro_rules | `(tactic| walk_at "ex") => `(tactic| first
  | with_reducible assumption
  | exact Ex.refl _
  | (refine Ex.trans ?_ (by with_reducible assumption); walk_at "ex"))
local macro_rules | `(tactic| walk_at "at") => `(tactic| first
  | with_reducible assumption
  | exact rfl
  | exact atI_nat (by with_reducible assumption)
  | exact atI_last _ _)
local macro_rules | `(tactic| walk_at "s") => `(tactic| first
  | ((with_reducible refine' call_law_urn ?h0 ?h1 ?h2 ?h3 (fun u H' hn he hu => ?_)); (case h0 => assumption); (case h1 => walk_at "sd"); (case h2 => walk_at "sd"); (case h3 => walk_at "sd"))
  | ((with_reducible refine' call_code_of ?h0 ?h1 (fun H' he => ?_)); (case h0 => walk_at "sd"); (case h1 => walk_at "sd"))
  | ((with_reducible refine' call_law_block ?h0 ?h1 (fun l H' h0 h1 h2 hu hb => ?_)); (case h0 => walk_at "ur"); (case h1 => walk_at "sd"))
  | ((with_reducible refine' call_law_near ?h0 ?h1 (fun l H' h0 h1 h2 hu hb => ?_)); (case h0 => walk_at "ur"); (case h1 => walk_at "sd"))
  | ((with_reducible refine' call_read_code ?h0 ?h1 ?h2 ?h3 (fun H' he => ?_)); (case h0 => first | exact .inl rfl | exact .inr rfl); (case h1 => assumption); (case h2 => walk_at "sd"); (case h3 => walk_at "sd"))
  | ((with_reducible refine' call_law_code ?h0 ?h1 (fun H' he => ?_)); (case h0 => walk_at "sd"); (case h1 => walk_at "sd"))
  | ((with_reducible refine' norm ?h0 ?_); (case h0 => (dsimp only [List.set_cons_zero, List.set_cons_succ] <;> exact rfl)))
  | ((with_reducible refine' var_ ?h0 ?_); (case h0 => exact rfl))
  | ((with_reducible refine' c_ ?_))
  | ((with_reducible refine' op_ ?_))
  | ((with_reducible refine' cons_ ?_))
  | ((with_reducible refine' nil_ ?_))
  | ((with_reducible refine' seq_asg ?_))
  | ((with_reducible refine' asg_ ?_))
  | ((with_reducible refine' ret_ ?_))
  | ((with_reducible refine' cb_ ?_))
  | ((with_reducible refine' c1_ ?_))
  | ((with_reducible refine' addI ?_))
  | ((with_reducible refine' subI ?_))
  | ((with_reducible refine' addS ?h0 ?_); (case h0 => walk_at "sd"))
  | ((with_reducible refine' lenS ?h0 ?_); (case h0 => walk_at "sd"))
  | ((with_reducible refine' ixS ?h0 ?h1 ?_); (case h0 => walk_at "sd"); (case h1 => walk_at "at"))
  | ((with_reducible refine' ixL ?h0 ?h1 ?_); (case h0 => walk_at "lk"); (case h1 => walk_at "at"))
  | ((with_reducible refine' ixU ?h0 ?h1 ?_); (case h0 => walk_at "lk"); (case h1 => walk_at "at"))
  | ((with_reducible refine' ixSq ?h0 ?h1 ?_); (case h0 => assumption); (case h1 => walk_at "at"))
  | ((with_reducible refine' lenL ?h0 ?_); (case h0 => walk_at "lk"))
  | ((with_reducible refine' lenU ?h0 ?_); (case h0 => walk_at "lk"))
  | ((with_reducible refine' lenSq ?h0 ?_); (case h0 => assumption))
  | ((with_reducible refine' mulI ?h0 ?_); (case h0 => first | exact mul_ok1 (by omega) (by omega) | exact mul_ok2 (by omega) (by omega) | with_reducible assumption))
  | ((with_reducible refine' mulS ?h0 ?h1 ?h2 ?_); (case h0 => walk_at "sd"); (case h1 => walk_at "sd"); (case h2 => walk_at "sd"))
  | ((with_reducible refine' divI ?h0 ?h1 ?_); (case h0 => walk_at "sd"); (case h1 => walk_at "sd"))
  | ((with_reducible refine' modI ?h0 ?_); (case h0 => walk_at "sd"))
  | ((with_reducible refine' powI ?h0 ?_); (case h0 => first | with_reducible assumption | exact pow_ok (by decide)))
  | ((with_reducible refine' test_ ?_))
  | ((with_reducible refine' zb_ ?_))
  | ((with_reducible refine' tb_ ?_))
  | ((with_reducible refine' ltI ?_))
  | ((with_reducible refine' leI ?_))
  | ((with_reducible refine' gtI ?_))
  | ((with_reducible refine' geI ?_))
  | ((with_reducible refine' eqII ?_))
  | ((with_reducible refine' eqSS ?_))
  | ((with_reducible refine' neSS ?_))
  | ((with_reducible refine' eqI ?_))
  | ((with_reducible refine' eqS ?_))
  | ((with_reducible refine' neI ?_))
  | ((with_reducible refine' neS ?_))
  | ((with_reducible refine' orT_ ?_))
  | ((with_reducible refine' truth_ ?_))
  | ((with_reducible refine' ztru_b ?_))
  | ((with_reducible refine' ztru_S ?h0 ?_); (case h0 => walk_at "sd"))
  | ((with_reducible refine' inS ?_))
  | ((with_reducible refine' niS ?_))
  | ((with_reducible refine' seq_if ?_))
  | ((with_reducible refine' if_ ?_))
  | ((with_reducible refine' zif_t ?_))
  | ((with_reducible refine' zif_f ?_))
  | ((with_reducible refine' zif_nT ?_))
  | ((with_reducible refine' zif_nF ?_))
  | ((with_reducible refine' zif_dt ?h0 ?_); (case h0 => walk_at "sd"))
  | ((with_reducible refine' zif_df ?h0 ?_); (case h0 => walk_at "sd"))
  | ((with_reducible refine' zif_nt ?h0 ?_); (case h0 => walk_at "sd"))
  | ((with_reducible refine' zif_nf ?h0 ?_); (case h0 => walk_at "sd"))
  | ((with_reducible refine' not_ ?_))
  | ((with_reducible refine' and_ ?_))
  | ((with_reducible refine' or_ ?_))
  | ((with_reducible refine' tup_ ?_))
  | ((with_reducible refine' lst_ ?_))
  | ((with_reducible refine' ztup_ ?h0 (fun p H' hn he hp => ?_)); (case h0 => walk_at "sd"))
  | ((with_reducible refine' zlst_ ?h0 (fun p H' hn he hp => ?_)); (case h0 => walk_at "sd"))
  | ((with_reducible refine' addL ?h0 ?h1 ?h2 (fun p H' hn he hp => ?_)); (case h0 => walk_at "lk"); (case h1 => walk_at "lk"); (case h2 => walk_at "sd"))
  | ((with_reducible refine' un_ ?_))
  | ((with_reducible refine' negI ?_))
  | ((with_reducible refine' sl_ ?_))
  | ((with_reducible refine' nopart_ ?_))
  | ((with_reducible refine' part_ ?_))
  | ((with_reducible refine' zpart_ ?_))
  | ((with_reducible refine' slS ?h0 ?_); (case h0 => walk_at "sd"))
  | ((with_reducible refine' slL ?h0 (fun p H' hn he hp => ?_)); (case h0 => walk_at "lk"))
  | ((with_reducible refine' seq_asgG ?_))
  | ((with_reducible refine' asgG_ ?_))
  | ((with_reducible refine' gtup_ ?h0 ?h1 ?_); (case h0 => walk_at "lk"); (case h1 => rfl))
  | ((with_reducible refine' gcons_ ?_))
  | ((with_reducible refine' gname_ ?_))
  | ((with_reducible refine' gnil_ ?_))
  | ((with_reducible refine' gsub_ ?_))
  | ((with_reducible refine' setL_ ?h0 ?h1 (fun H' hp hb => ?_)); (case h0 => walk_at "lk"); (case h1 => first | rfl | assumption))
  | ((with_reducible refine' seq_par ?_))
  | ((with_reducible refine' par_ ?_))
  | ((with_reducible refine' zpar_ ?_))
  | ((with_reducible refine' seq_aug ?h0 ?_); (case h0 => exact rfl))
  | ((with_reducible refine' aug_ ?h0 ?_); (case h0 => exact rfl))
  | ((with_reducible refine' augS_ ?_))
  | ((with_reducible refine' getL_ ?h0 ?h1 ?_); (case h0 => walk_at "lk"); (case h1 => walk_at "at"))
  | ((with_reducible refine' iaddI ?_))
  | ((with_reducible refine' iaddS ?h0 ?_); (case h0 => walk_at "sd"))
  | ((with_reducible refine' isubI ?_))
  | ((with_reducible refine' imulI ?h0 ?h1 ?_); (case h0 => walk_at "sd"); (case h1 => walk_at "sd"))
  | ((with_reducible refine' idivI ?h0 ?h1 ?_); (case h0 => walk_at "sd"); (case h1 => walk_at "sd"))
  | ((with_reducible refine' seq_drop ?_))
  | ((with_reducible refine' drop_ ?_))
  | ((with_reducible refine' bm_ ?_))
  | ((with_reducible refine' zbmL_ ?h0 ?_); (case h0 => walk_at "lk"))
  | ((with_reducible refine' append_ ?h0 ?h1 (fun H' hp hb => ?_)); (case h0 => walk_at "lk"); (case h1 => walk_at "sd"))
  | ((with_reducible refine' fld_ ?_))
  | ((with_reducible refine' zfld_ ?h0 ?h1 ?h2 ?h3 ?_); (case h0 => walk_at "lk"); (case h1 => assumption); (case h2 => assumption); (case h3 => exact rfl))
  | ((with_reducible refine' seq_fld ?_))
  | ((with_reducible refine' fldS_ ?_))
  | ((with_reducible refine' zset_ ?h0 ?h1 ?h2 ?h3 ?h4 (fun H' hp hb => ?_)); (case h0 => walk_at "lk"); (case h1 => assumption); (case h2 => assumption); (case h3 => decide); (case h4 => exact rfl))
  | ((with_reducible refine' ck_ ?_))
  | ((with_reducible refine' zck_ ?h0 ?h1 ?h2 ?_); (case h0 => rfl); (case h1 => rfl); (case h2 => (dsimp only [List.cons_append, List.nil_append, List.append_nil] <;> exact rfl)))
  | ((with_reducible refine' mk_ ?_))
  | ((with_reducible refine' zmeth_ ?h0 ?h1 ?_); (case h0 => walk_at "lk"); (case h1 => exact rfl))
  | ((with_reducible refine' kk_ ?_))
  | ((with_reducible refine' zkk_ ?h0 ?h1 (fun x dx H' nx ndx ne he hx => ?_)); (case h0 => rfl); (case h1 => rfl))
  | ((with_reducible refine' zsp_ ?h0 ?_); (case h0 => (dsimp only [List.cons_append, List.nil_append, List.append_nil] <;> exact rfl)))
  | ((with_reducible refine' extend_ ?h0 ?h1 ?h2 (fun H' hp hb => ?_)); (case h0 => walk_at "lk"); (case h1 => walk_at "lk"); (case h2 => walk_at "sd"))
  | ((with_reducible refine' m1_ ?_))
  | ((with_reducible refine' zm1_ ?_))
  | ((with_reducible refine' count_ ?_))
  | ((with_reducible refine' strI_ ?h0 ?h1 ?_); (case h0 => walk_at "sd"); (case h1 => walk_at "sd"))
  | ((with_reducible refine' divmod_ ?h0 ?h1 (fun p H' hn he hp => ?_)); (case h0 => walk_at "sd"); (case h1 => walk_at "sd"))
  | ((with_reducible refine' abs_ ?_))
  | ((with_reducible refine' min2_ ?_))
  | ((with_reducible refine' max2_ ?_))
  | ((with_reducible refine' seq_for ?_))
  | ((with_reducible refine' for_ ?_))
  | ((with_reducible refine' ilist_ ?_))
  | ((with_reducible refine' zlist_ ?h0 ?_); (case h0 => walk_at "lk"))
  | ((with_reducible refine' zlistQ_ ?h0 ?_); (case h0 => assumption))
  | ((with_reducible refine' istr_ ?_))
  | ((with_reducible refine' zstr_ ?_))
  | ((with_reducible refine' irng1_ ?_))
  | ((with_reducible refine' irng2_ ?_))
  | ((with_reducible refine' zrng1_ ?h0 ?h1 ?_); (case h0 => walk_at "sd"); (case h1 => walk_at "sd"))
  | ((with_reducible refine' zrng2_ ?h0 ?h1 ?h2 ?h3 ?_); (case h0 => walk_at "sd"); (case h1 => walk_at "sd"); (case h2 => walk_at "sd"); (case h3 => walk_at "sd"))
  | ((with_reducible refine' ient_ ?_))
  | ((with_reducible refine' zent_ ?_))
  | ((with_reducible refine' revS_ ?_))
  | ((with_reducible refine' zrevS_ ?h0 ?_); (case h0 => walk_at "sd"))
  | ((with_reducible refine' intI_ ?_))
  | ((with_reducible refine' intB_ ?_))
  | ((with_reducible refine' intS_ ?h0 ?_); (case h0 => assumption))
  | ((with_reducible refine' seq_par3 ?_))
  | ((with_reducible refine' par3_ ?_))
  | ((with_reducible refine' zpar3_ ?_))
  | ((with_reducible refine' isSS_ ?_))
  | ((with_reducible refine' ientK_ ?_))
  | ((with_reducible refine' zenK_ ?h0 ?h1 ?_); (case h0 => walk_at "sd"); (case h1 => walk_at "sd"))
  | ((with_reducible refine' lc_ ?_))
  | ((with_reducible refine' tyes_ ?_))
  | ((with_reducible refine' zput_t ?_))
  | ((with_reducible refine' ifE_ ?_))
  | ((with_reducible refine' andV_ ?_))
  | ((with_reducible refine' zandv_t ?_))
  | ((with_reducible refine' zandv_f ?_))
  | ((with_reducible refine' zorv_t ?_))
  | ((with_reducible refine' zorv_f ?_))
  | ((with_reducible refine' zand_t ?_))
  | ((with_reducible refine' zand_f ?_))
  | ((with_reducible refine' zor_t ?_))
  | ((with_reducible refine' zor_f ?_))
  | ((with_reducible refine' orV_ ?_))
  | ((with_reducible refine' next_ ?_))
  | ((with_reducible refine' nx_ ?h0 ?_); (case h0 => (dsimp only <;> exact rfl)))
  | ((with_reducible refine' rt_ ?h0 ?_); (case h0 => (dsimp only <;> exact rfl)))
  | ((with_reducible refine' brk_ ?_))
  | ((with_reducible refine' cont_ ?_))
  | ((with_reducible refine' bk_ ?h0 ?_); (case h0 => (dsimp only <;> exact rfl)))
  | ((with_reducible refine' ct_ ?h0 ?_); (case h0 => (dsimp only <;> exact rfl)))
  | ((with_reducible refine' seq_ ?_)))
local macro_rules | `(tactic| walk_at "go") => `(tactic| repeat (walk_at "s"))
set_option maxHeartbeats 4000000 in
theorem ok_law {f : Addr} {fd : FuncData} {dV kV : Value} (g : G mg)
    (F : Txt K "law" "law" (defArgs st_law) (defBody st_law) (defScope st_law) dV kV f fd)
    (D_law_urn : Def P w K mg base 1 "_law_urn" [] (sp_law_urn K))
    (D_code_of : Def P w K mg base 4 "code_of" [] (sp_code_of))
    (D_law_block : Def P w K mg base 3 "_law_block" [] (sp_law_block))
    (D_law_near : Def P w K mg base 2 "_law_near" [] (sp_law_near))
    (D_read_code : Def P w K mg base 6 "read_code" [] (sp_read_code))
    (D_law_code : Def P w K mg base 3 "_law_code" [] (sp_law_code)) :
    FnG P w K mg base 7 f fd ["_law_script"] (sp_law K) := by
  refine z_fn F sc_law (fun vs H Q E h => by
    obtain ⟨a, ns, rfl, hs, hl, k⟩ := h
    rfl) (fun cd A outer s H vs Q E hr ng h => ?_)
  obtain ⟨a, ns, rfl, hs, hl, k⟩ := h
  refine ⟨_, [_, none, none, none, none, none, none], rfl, (pss_cons (ps_for (passes_of rfl) rfl (pi_range1 (by rfl) g.b_range (pa_cons (pe_callB (z_max2 rfl) (by rfl) g.b_max (by decide +kernel) (pa_cons pe_int (pa_cons (pe_callB (z_min2 rfl) (by rfl) g.b_min (by decide +kernel) (pa_cons pe_int (pa_cons (pe_callB z_len (by rfl) g.b_len (by decide +kernel) (pa_cons (pv 0) pa_nil)) pa_nil))) pa_nil))) pa_nil)) (pg_name (i := 1) sc_law.nd rfl (Or.inl rfl)) (pss_cons (ps_set (i := 2) sc_law.nd rfl (Or.inl rfl) (pe_f D_law_urn (hr.mono (by decide)) ng (by rfl) tk0 (pa_cons (pv 0) (pa_cons (pv 1) pa_nil))))
      (pss_cons (ps_set (i := 3) sc_law.nd rfl (Or.inl rfl) (pe_lst pa_nil))
      (pss_cons (ps_for (passes_of rfl) rfl (pi_range1 (by rfl) g.b_range (pa_cons pe_int pa_nil)) (pg_name (i := 4) sc_law.nd rfl (Or.inl rfl)) (pss_one (ps_expr (pe_bm PySem.F.plainAttrs_list PySem.F.slot_list_extend PySem.F.type_list_extend mt_extend (pv 3) (pa_cons (pe_lst (pa_cons (pe_f D_law_block (hr.mono (by decide)) ng (by rfl) tk0 (pa_cons (pv 2) pa_nil)) (pa_cons (pe_f D_law_near (hr.mono (by decide)) ng (by rfl) tk0 (pa_cons (pv 2) pa_nil)) pa_nil))) pa_nil)))))
      (pss_one (ps_for (passes_of rfl) rfl (pi_list (pe_op z_add (pv 3) (pe_slice z_sl (pv 3) po_none (po_some pe_int)))) (pg_name (i := 5) sc_law.nd rfl (Or.inl rfl)) (pss_cons (ps_set (i := 6) sc_law.nd rfl (Or.inl rfl) (pe_f D_code_of (hr.mono (by decide)) ng (by rfl) tk0 (pa_cons (pv 5) pa_nil)))
      (pss_cons (ps_if (PW.pt (pw_or (pt_cmpR (z_ne hr.units) (pe_callB (z_repr hr.units ng) (by rfl) g.b_repr (by decide +kernel) (pa_cons (pv 6) pa_nil)) (pe_callB (z_repr hr.units ng) (by rfl) g.b_repr (by decide +kernel) (pa_cons (pe_f D_law_code (hr.mono (by decide)) ng (by rfl) tk0 (pa_cons (pv 5) pa_nil)) pa_nil)) (nomark _)) (pw_or1 (pt_cmpR (z_ne hr.units) (pe_f D_read_code (hr.mono (by decide)) ng (by rfl) tk0 (pa_cons (pv 6) pa_nil)) (pv 5) (nomark _))))) (pss_one (ps_ret pe_bl)) pss_nil)
      (pss_one (ps_if (pt_cmpR z_gt (pe_callB z_len (by rfl) g.b_len (by decide +kernel) (pa_cons (pv 6) pa_nil)) (pe_op z_add (pe_callB z_len (by rfl) g.b_len (by decide +kernel) (pa_cons (pv 5) pa_nil)) pe_int) (nomark _)) (pss_one (ps_ret pe_bl)) pss_nil))))))))))
      (pss_one (ps_ret (pe_cmpR (z_eq hr.units) (pe_f D_code_of (hr.mono (by decide)) ng (by rfl) tk0 (pa_cons (z_str lit_1) pa_nil)) (z_str lit_6) (nomark _))))), ?_⟩
  walk_at "go"
  rw [List.length_map]
  walk_at "go"
  have hn : ∃ m : Nat, (if (if (ns.length : Int) < 4 then (ns.length : Int) else 4) > 2 then (if (ns.length : Int) < 4 then (ns.length : Int) else 4) else 2) = (m : Int) ∧ m ≤ 4 := by
    by_cases h4 : (ns.length : Int) < 4
    · rw [if_pos h4]
      by_cases h2 : (ns.length : Int) > 2
      · rw [if_pos h2]; exact ⟨_, rfl, by omega⟩
      · rw [if_neg h2]; exact ⟨2, rfl, by omega⟩
    · rw [if_neg h4]; exact ⟨4, by simp, by omega⟩
  obtain ⟨m, hm, hm4⟩ := hn
  rw [hm]
  walk_at "go"
  rw [Int.toNat_natCast]
  refine forR (fun i σ H' => ∃ v1 v2 v3 v4 v5 v6 : Option V, σ = [some (.ref a), v1, v2, v3, v4, v5, v6] ∧ Ex H H') ⟨none, none, none, none, none, none, rfl, Ex.refl H⟩ ?_ ?_
  · rintro i σ H1 hi ⟨v1, v2, v3, v4, v5, v6, rfl, ex1⟩
    have hs1 : SqL K H1 a (ns.map V.int) := ex1.seqL hs
    walk_at "go"
    rename_i u H2 hnu exu hu p H3 hnp exp hp
    refine forR (fun j σ H' => ∃ (v4 : Option V) (ts : List (List Nat)), σ = [some (.ref a), some (.int (0 + i)), some (.ref u), some (.ref p), v4, v5, v6] ∧ H' p = some (.lst (ts.map T)) ∧ ts.length = 2 * j ∧ (∀ t ∈ ts, Good t) ∧ Urn H' u (j * 2112) ∧ But u H2 H') ⟨_, [], rfl, hp, rfl, by simp, by simpa using hu.ex exp, exp.but (But.refl _ _)⟩ ?_ ?_
    · rintro j σ H4 hj ⟨v4, ts, rfl, hp4, tl, tg, hu4, hb4⟩
      have hj4 : j < 4 := hj
      have hpu : p ≠ u := Urn.ne_new hnp hu
      have hup : u ≠ p := Ne.symm hpu
      walk_at "go"
      rename_i l1 H5 a0 a1 a2 hu5 hb5 l2 H6 b0 b1 b2 hu6 hb6 q H7 hnq exq hq H8 hp8 hb8
      refine ⟨_, ts ++ [l1, l2], rfl, by rw [hp8]; simp, by simp; omega, ?_, (Urn.but hb8 hup (hu6.ex exq)).mono (by omega), fun c o nc hc => hb8 c o (ne_of_none hc hnp) (exq _ _ (hb6 _ _ nc (hb5 _ _ nc (hb4 _ _ nc hc))))⟩
      intro t ht
      rcases List.mem_append.mp ht with z | z
      · exact tg t z
      · rcases List.mem_cons.mp z with rfl | z
        · exact ⟨a0, a1, a2⟩
        · rw [List.mem_singleton.mp z]; exact ⟨b0, b1, b2⟩
    · rintro σ H4 ⟨v4, ts, rfl, hp4, tl, tg, hu4, hb4⟩
      walk_at "go"
      rename_i q1 G1 n1 x1 h1
      rw [cutV_to _ _ (by omega), ← List.map_take] at h1
      refine addL (x1.at_ hp4) h1 (by simp; omega) fun q2 G2 n2 x2 h2 => ?_
      rw [← List.map_append] at h2
      refine zlist_ h2 ?_
      have wg : ∀ t ∈ ts ++ ts.take (2 : Int).toNat, Good t := by
        intro t ht
        rcases List.mem_append.mp ht with z | z
        · exact tg t z
        · exact tg t (List.mem_of_mem_take z)
      generalize ts ++ ts.take (2 : Int).toNat = ws at *
      have exA : Ex H G2 := (ex1.trans ((hb4.ext (x1.trans x2)).ex exu hnu))
      refine forL (xs := ws.map T) (fun j σ H' => ∃ w4 w5 w6, σ = [some (.ref a), some (.int (0 + i)), some (.ref u), some (.ref p), w4, w5, w6] ∧ Ex G2 H') ⟨_, _, _, rfl, Ex.refl _⟩ ?_ ?_ ?_
      · rintro j σ H7 _ ⟨w4, w5, w6, rfl, x7⟩
        exact SqL.of (x7.at_ h2)
      · rintro j x σ H7 hj ⟨w4, w5, w6, rfl, x7⟩
        rw [List.getElem?_map] at hj
        obtain ⟨t, ht, rfl⟩ := Option.map_eq_some_iff.mp hj
        obtain ⟨t0, t1, t2⟩ := wg t (List.mem_of_getElem? ht)
        have hsl := scode_len t
        have rp : Rp (Dt (scode t)) (10 * (scode t).length + 2) 1 := .str (scode_lt t0)
        walk_at "go"
        refine repr_ (d := Dt (scode t)) (by walk_at "dp") (.more rp (Nat.le_refl _) (by decide)) (by omega) ?_
        walk_at "go"
        refine repr_ (d := Dt (scode t)) (by walk_at "dp") (.more rp (Nat.le_refl _) (by decide)) (by omega) ?_
        walk_at "go"
        refine call_read_code (scode_or t) t0 t1 t2 fun H9 x10 => ?_
        walk_at "go"
        rename_i K1 y1 K2 y2
        exact ⟨_, _, _, rfl, x7.trans (y1.trans (y2.trans x10))⟩
      · rintro σ H7 ⟨w4, w5, w6, rfl, x7⟩
        exact ⟨_, _, _, _, _, _, rfl, exA.trans x7⟩
  · rintro σ H1 ⟨v1, v2, v3, v4, v5, v6, rfl, ex1⟩
    have e0 : scode [48] = [112, 48] := if_pos (by simp [rcode])
    walk_at "go"
    rw [e0]
    walk_at "go"
    exact k _
end
end My
namespace My
open PySem PySem.Spec PyProof.Rows L2 Z
theorem all_mk {w : World} {K : PySem.W.Frag} {h : Heap} {mg : Str → Option Value} {fa : Addr} (X : K.In h) (Gm : h.Ns mainGlobals mg) (hfa : mg "law" = some (.ref fa))
    {f_law_urn f_code_plain f_figures_of f_number_code f_runs_of f_code_runs f_code_of f_law_draw f_law_bits f_law_block f_law_near f_read_plain f_read_number f_other_bit f_read_runs f_read_code f_law_number_code f_law_runs f_law_codes f_law_code f_law : Addr}
    {od_law_urn an_law_urn od_code_plain an_code_plain od_figures_of an_figures_of od_number_code an_number_code od_runs_of an_runs_of od_code_runs an_code_runs od_code_of an_code_of od_law_draw an_law_draw od_law_bits an_law_bits od_law_block an_law_block od_law_near an_law_near od_read_plain an_read_plain od_read_number an_read_number od_other_bit an_other_bit od_read_runs an_read_runs od_read_code an_read_code od_law_number_code an_law_number_code od_law_runs an_law_runs od_law_codes an_law_codes od_law_code an_law_code od_law an_law : Option Addr}
    {sl_law_urn sl_code_plain sl_figures_of sl_number_code sl_runs_of sl_code_runs sl_code_of sl_law_draw sl_law_bits sl_law_block sl_law_near sl_read_plain sl_read_number sl_other_bit sl_read_runs sl_read_code sl_law_number_code sl_law_runs sl_law_codes sl_law_code sl_law : Array (Option Value)}
    {oc_law_urn kV_law_urn dc_law_urn pm_law_urn cd_law_urn ct_law_urn oc_code_plain kV_code_plain dc_code_plain pm_code_plain cd_code_plain ct_code_plain oc_figures_of kV_figures_of dc_figures_of pm_figures_of cd_figures_of ct_figures_of oc_number_code kV_number_code dc_number_code pm_number_code cd_number_code ct_number_code oc_runs_of kV_runs_of dc_runs_of pm_runs_of cd_runs_of ct_runs_of oc_code_runs kV_code_runs dc_code_runs pm_code_runs cd_code_runs ct_code_runs oc_code_of kV_code_of dc_code_of pm_code_of cd_code_of ct_code_of oc_law_draw kV_law_draw dc_law_draw pm_law_draw cd_law_draw ct_law_draw oc_law_bits kV_law_bits dc_law_bits pm_law_bits cd_law_bits ct_law_bits oc_law_block kV_law_block dc_law_block pm_law_block cd_law_block ct_law_block oc_law_near kV_law_near dc_law_near pm_law_near cd_law_near ct_law_near oc_read_plain kV_read_plain dc_read_plain pm_read_plain cd_read_plain ct_read_plain oc_read_number kV_read_number dc_read_number pm_read_number cd_read_number ct_read_number oc_other_bit kV_other_bit dc_other_bit pm_other_bit cd_other_bit ct_other_bit oc_read_runs kV_read_runs dc_read_runs pm_read_runs cd_read_runs ct_read_runs oc_read_code kV_read_code dc_read_code pm_read_code cd_read_code ct_read_code oc_law_number_code kV_law_number_code dc_law_number_code pm_law_number_code cd_law_number_code ct_law_number_code oc_law_runs kV_law_runs dc_law_runs pm_law_runs cd_law_runs ct_law_runs oc_law_codes kV_law_codes dc_law_codes pm_law_codes cd_law_codes ct_law_codes oc_law_code kV_law_code dc_law_code pm_law_code cd_law_code ct_law_code oc_law kV_law dc_law pm_law cd_law ct_law : Value}
    {t_k_MOST_BITS : _}
    {t_k_BITS : _}
    {d_READERS : Addr} {es_READERS : Array DictEntry} {m_READERS : Nat}
    (n_abs : PySem.W.nsIn K mainGlobals "abs" = some none)
    (n_divmod : PySem.W.nsIn K mainGlobals "divmod" = some none)
    (n_enumerate : PySem.W.nsIn K mainGlobals "enumerate" = some none)
    (n_int : PySem.W.nsIn K mainGlobals "int" = some none)
    (n_isinstance : PySem.W.nsIn K mainGlobals "isinstance" = some none)
    (n_len : PySem.W.nsIn K mainGlobals "len" = some none)
    (n_max : PySem.W.nsIn K mainGlobals "max" = some none)
    (n_min : PySem.W.nsIn K mainGlobals "min" = some none)
    (n_range : PySem.W.nsIn K mainGlobals "range" = some none)
    (n_repr : PySem.W.nsIn K mainGlobals "repr" = some none)
    (n_str : PySem.W.nsIn K mainGlobals "str" = some none)
    (k_MOST_BITS : PySem.W.nsIn K mainGlobals "MOST_BITS" = some (some (.int 64 t_k_MOST_BITS)))
    (k_BITS : PySem.W.nsIn K mainGlobals "BITS" = some (some (.str (Str.ofString "01") t_k_BITS)))
    (a_law_urn : PySem.W.nsIn K mainGlobals "_law_urn" = some (some (.ref f_law_urn)))
    (l_law_urn : K.lookup f_law_urn = some ⟨oc_law_urn, od_law_urn, .func (PySem.W.fnOf "_law_urn" "_law_urn" (defArgs st_law_urn) (defBody st_law_urn) (defScope st_law_urn) .none kV_law_urn dc_law_urn pm_law_urn an_law_urn cd_law_urn ct_law_urn), sl_law_urn⟩)
    (c_law_urn : PySem.W.codeIn K cd_law_urn "_law_urn" = true)
    (q_law_urn : PySem.W.keepIn K (.ref f_law_urn) = true)
    (a_code_plain : PySem.W.nsIn K mainGlobals "code_plain" = some (some (.ref f_code_plain)))
    (l_code_plain : K.lookup f_code_plain = some ⟨oc_code_plain, od_code_plain, .func (PySem.W.fnOf "code_plain" "code_plain" (defArgs st_code_plain) (defBody st_code_plain) (defScope st_code_plain) .none kV_code_plain dc_code_plain pm_code_plain an_code_plain cd_code_plain ct_code_plain), sl_code_plain⟩)
    (c_code_plain : PySem.W.codeIn K cd_code_plain "code_plain" = true)
    (q_code_plain : PySem.W.keepIn K (.ref f_code_plain) = true)
    (a_figures_of : PySem.W.nsIn K mainGlobals "figures_of" = some (some (.ref f_figures_of)))
    (l_figures_of : K.lookup f_figures_of = some ⟨oc_figures_of, od_figures_of, .func (PySem.W.fnOf "figures_of" "figures_of" (defArgs st_figures_of) (defBody st_figures_of) (defScope st_figures_of) .none kV_figures_of dc_figures_of pm_figures_of an_figures_of cd_figures_of ct_figures_of), sl_figures_of⟩)
    (c_figures_of : PySem.W.codeIn K cd_figures_of "figures_of" = true)
    (q_figures_of : PySem.W.keepIn K (.ref f_figures_of) = true)
    (a_number_code : PySem.W.nsIn K mainGlobals "number_code" = some (some (.ref f_number_code)))
    (l_number_code : K.lookup f_number_code = some ⟨oc_number_code, od_number_code, .func (PySem.W.fnOf "number_code" "number_code" (defArgs st_number_code) (defBody st_number_code) (defScope st_number_code) .none kV_number_code dc_number_code pm_number_code an_number_code cd_number_code ct_number_code), sl_number_code⟩)
    (c_number_code : PySem.W.codeIn K cd_number_code "number_code" = true)
    (q_number_code : PySem.W.keepIn K (.ref f_number_code) = true)
    (a_runs_of : PySem.W.nsIn K mainGlobals "runs_of" = some (some (.ref f_runs_of)))
    (l_runs_of : K.lookup f_runs_of = some ⟨oc_runs_of, od_runs_of, .func (PySem.W.fnOf "runs_of" "runs_of" (defArgs st_runs_of) (defBody st_runs_of) (defScope st_runs_of) .none kV_runs_of dc_runs_of pm_runs_of an_runs_of cd_runs_of ct_runs_of), sl_runs_of⟩)
    (c_runs_of : PySem.W.codeIn K cd_runs_of "runs_of" = true)
    (q_runs_of : PySem.W.keepIn K (.ref f_runs_of) = true)
    (a_code_runs : PySem.W.nsIn K mainGlobals "code_runs" = some (some (.ref f_code_runs)))
    (l_code_runs : K.lookup f_code_runs = some ⟨oc_code_runs, od_code_runs, .func (PySem.W.fnOf "code_runs" "code_runs" (defArgs st_code_runs) (defBody st_code_runs) (defScope st_code_runs) .none kV_code_runs dc_code_runs pm_code_runs an_code_runs cd_code_runs ct_code_runs), sl_code_runs⟩)
    (c_code_runs : PySem.W.codeIn K cd_code_runs "code_runs" = true)
    (q_code_runs : PySem.W.keepIn K (.ref f_code_runs) = true)
    (a_code_of : PySem.W.nsIn K mainGlobals "code_of" = some (some (.ref f_code_of)))
    (l_code_of : K.lookup f_code_of = some ⟨oc_code_of, od_code_of, .func (PySem.W.fnOf "code_of" "code_of" (defArgs st_code_of) (defBody st_code_of) (defScope st_code_of) .none kV_code_of dc_code_of pm_code_of an_code_of cd_code_of ct_code_of), sl_code_of⟩)
    (c_code_of : PySem.W.codeIn K cd_code_of "code_of" = true)
    (q_code_of : PySem.W.keepIn K (.ref f_code_of) = true)
    (a_law_draw : PySem.W.nsIn K mainGlobals "_law_draw" = some (some (.ref f_law_draw)))
    (l_law_draw : K.lookup f_law_draw = some ⟨oc_law_draw, od_law_draw, .func (PySem.W.fnOf "_law_draw" "_law_draw" (defArgs st_law_draw) (defBody st_law_draw) (defScope st_law_draw) .none kV_law_draw dc_law_draw pm_law_draw an_law_draw cd_law_draw ct_law_draw), sl_law_draw⟩)
    (c_law_draw : PySem.W.codeIn K cd_law_draw "_law_draw" = true)
    (q_law_draw : PySem.W.keepIn K (.ref f_law_draw) = true)
    (a_law_bits : PySem.W.nsIn K mainGlobals "_law_bits" = some (some (.ref f_law_bits)))
    (l_law_bits : K.lookup f_law_bits = some ⟨oc_law_bits, od_law_bits, .func (PySem.W.fnOf "_law_bits" "_law_bits" (defArgs st_law_bits) (defBody st_law_bits) (defScope st_law_bits) .none kV_law_bits dc_law_bits pm_law_bits an_law_bits cd_law_bits ct_law_bits), sl_law_bits⟩)
    (c_law_bits : PySem.W.codeIn K cd_law_bits "_law_bits" = true)
    (q_law_bits : PySem.W.keepIn K (.ref f_law_bits) = true)
    (a_law_block : PySem.W.nsIn K mainGlobals "_law_block" = some (some (.ref f_law_block)))
    (l_law_block : K.lookup f_law_block = some ⟨oc_law_block, od_law_block, .func (PySem.W.fnOf "_law_block" "_law_block" (defArgs st_law_block) (defBody st_law_block) (defScope st_law_block) .none kV_law_block dc_law_block pm_law_block an_law_block cd_law_block ct_law_block), sl_law_block⟩)
    (c_law_block : PySem.W.codeIn K cd_law_block "_law_block" = true)
    (q_law_block : PySem.W.keepIn K (.ref f_law_block) = true)
    (a_law_near : PySem.W.nsIn K mainGlobals "_law_near" = some (some (.ref f_law_near)))
    (l_law_near : K.lookup f_law_near = some ⟨oc_law_near, od_law_near, .func (PySem.W.fnOf "_law_near" "_law_near" (defArgs st_law_near) (defBody st_law_near) (defScope st_law_near) .none kV_law_near dc_law_near pm_law_near an_law_near cd_law_near ct_law_near), sl_law_near⟩)
    (c_law_near : PySem.W.codeIn K cd_law_near "_law_near" = true)
    (q_law_near : PySem.W.keepIn K (.ref f_law_near) = true)
    (a_read_plain : PySem.W.nsIn K mainGlobals "read_plain" = some (some (.ref f_read_plain)))
    (l_read_plain : K.lookup f_read_plain = some ⟨oc_read_plain, od_read_plain, .func (PySem.W.fnOf "read_plain" "read_plain" (defArgs st_read_plain) (defBody st_read_plain) (defScope st_read_plain) .none kV_read_plain dc_read_plain pm_read_plain an_read_plain cd_read_plain ct_read_plain), sl_read_plain⟩)
    (c_read_plain : PySem.W.codeIn K cd_read_plain "read_plain" = true)
    (q_read_plain : PySem.W.keepIn K (.ref f_read_plain) = true)
    (a_read_number : PySem.W.nsIn K mainGlobals "read_number" = some (some (.ref f_read_number)))
    (l_read_number : K.lookup f_read_number = some ⟨oc_read_number, od_read_number, .func (PySem.W.fnOf "read_number" "read_number" (defArgs st_read_number) (defBody st_read_number) (defScope st_read_number) .none kV_read_number dc_read_number pm_read_number an_read_number cd_read_number ct_read_number), sl_read_number⟩)
    (c_read_number : PySem.W.codeIn K cd_read_number "read_number" = true)
    (q_read_number : PySem.W.keepIn K (.ref f_read_number) = true)
    (a_other_bit : PySem.W.nsIn K mainGlobals "other_bit" = some (some (.ref f_other_bit)))
    (l_other_bit : K.lookup f_other_bit = some ⟨oc_other_bit, od_other_bit, .func (PySem.W.fnOf "other_bit" "other_bit" (defArgs st_other_bit) (defBody st_other_bit) (defScope st_other_bit) .none kV_other_bit dc_other_bit pm_other_bit an_other_bit cd_other_bit ct_other_bit), sl_other_bit⟩)
    (c_other_bit : PySem.W.codeIn K cd_other_bit "other_bit" = true)
    (q_other_bit : PySem.W.keepIn K (.ref f_other_bit) = true)
    (a_read_runs : PySem.W.nsIn K mainGlobals "read_runs" = some (some (.ref f_read_runs)))
    (l_read_runs : K.lookup f_read_runs = some ⟨oc_read_runs, od_read_runs, .func (PySem.W.fnOf "read_runs" "read_runs" (defArgs st_read_runs) (defBody st_read_runs) (defScope st_read_runs) .none kV_read_runs dc_read_runs pm_read_runs an_read_runs cd_read_runs ct_read_runs), sl_read_runs⟩)
    (c_read_runs : PySem.W.codeIn K cd_read_runs "read_runs" = true)
    (q_read_runs : PySem.W.keepIn K (.ref f_read_runs) = true)
    (a_read_code : PySem.W.nsIn K mainGlobals "read_code" = some (some (.ref f_read_code)))
    (l_read_code : K.lookup f_read_code = some ⟨oc_read_code, od_read_code, .func (PySem.W.fnOf "read_code" "read_code" (defArgs st_read_code) (defBody st_read_code) (defScope st_read_code) .none kV_read_code dc_read_code pm_read_code an_read_code cd_read_code ct_read_code), sl_read_code⟩)
    (c_read_code : PySem.W.codeIn K cd_read_code "read_code" = true)
    (q_read_code : PySem.W.keepIn K (.ref f_read_code) = true)
    (a_law_number_code : PySem.W.nsIn K mainGlobals "_law_number_code" = some (some (.ref f_law_number_code)))
    (l_law_number_code : K.lookup f_law_number_code = some ⟨oc_law_number_code, od_law_number_code, .func (PySem.W.fnOf "_law_number_code" "_law_number_code" (defArgs st_law_number_code) (defBody st_law_number_code) (defScope st_law_number_code) .none kV_law_number_code dc_law_number_code pm_law_number_code an_law_number_code cd_law_number_code ct_law_number_code), sl_law_number_code⟩)
    (c_law_number_code : PySem.W.codeIn K cd_law_number_code "_law_number_code" = true)
    (q_law_number_code : PySem.W.keepIn K (.ref f_law_number_code) = true)
    (a_law_runs : PySem.W.nsIn K mainGlobals "_law_runs" = some (some (.ref f_law_runs)))
    (l_law_runs : K.lookup f_law_runs = some ⟨oc_law_runs, od_law_runs, .func (PySem.W.fnOf "_law_runs" "_law_runs" (defArgs st_law_runs) (defBody st_law_runs) (defScope st_law_runs) .none kV_law_runs dc_law_runs pm_law_runs an_law_runs cd_law_runs ct_law_runs), sl_law_runs⟩)
    (c_law_runs : PySem.W.codeIn K cd_law_runs "_law_runs" = true)
    (q_law_runs : PySem.W.keepIn K (.ref f_law_runs) = true)
    (a_law_codes : PySem.W.nsIn K mainGlobals "_law_codes" = some (some (.ref f_law_codes)))
    (l_law_codes : K.lookup f_law_codes = some ⟨oc_law_codes, od_law_codes, .func (PySem.W.fnOf "_law_codes" "_law_codes" (defArgs st_law_codes) (defBody st_law_codes) (defScope st_law_codes) .none kV_law_codes dc_law_codes pm_law_codes an_law_codes cd_law_codes ct_law_codes), sl_law_codes⟩)
    (c_law_codes : PySem.W.codeIn K cd_law_codes "_law_codes" = true)
    (q_law_codes : PySem.W.keepIn K (.ref f_law_codes) = true)
    (a_law_code : PySem.W.nsIn K mainGlobals "_law_code" = some (some (.ref f_law_code)))
    (l_law_code : K.lookup f_law_code = some ⟨oc_law_code, od_law_code, .func (PySem.W.fnOf "_law_code" "_law_code" (defArgs st_law_code) (defBody st_law_code) (defScope st_law_code) .none kV_law_code dc_law_code pm_law_code an_law_code cd_law_code ct_law_code), sl_law_code⟩)
    (c_law_code : PySem.W.codeIn K cd_law_code "_law_code" = true)
    (q_law_code : PySem.W.keepIn K (.ref f_law_code) = true)
    (a_law : PySem.W.nsIn K mainGlobals "law" = some (some (.ref f_law)))
    (l_law : K.lookup f_law = some ⟨oc_law, od_law, .func (PySem.W.fnOf "law" "law" (defArgs st_law) (defBody st_law) (defScope st_law) .none kV_law dc_law pm_law an_law cd_law ct_law), sl_law⟩)
    (c_law : PySem.W.codeIn K cd_law "law" = true)
    (q_law : PySem.W.keepIn K (.ref f_law) = true)
    (r1 : PySem.W.nsIn K mainGlobals "READERS" = some (some (.ref d_READERS)))
    (r2 : K.lookup d_READERS = some ⟨.type "dict", none, .dict es_READERS m_READERS, #[]⟩)
    (r3 : PySem.W.KeysLit w.params es_READERS.toList)
    (r4 : (d_READERS == sysModules) = false)
    (r5 : PySem.W.nsIn K d_READERS "p" = some (some (.ref f_read_plain)))
    (r6 : PySem.W.nsIn K d_READERS "r" = some (some (.ref f_read_runs)))
    : ∃ fd : FuncData, (∀ (s : Shared) (v : Value), BindsTo s fd ⟨[v], []⟩ [("_law_script", v)]) ∧ ∀ base : Heap, K.In base → base.Ns mainGlobals mg → FnG PySem.Challenge.rw_countedbits_k02_the_shorter_codes.prog w K mg base 7 fa fd ["_law_script"] (sp_law K) := by
  have e := hfa.symm.trans (PySem.W.mg_of X Gm a_law)
  cases e
  have gg : G mg := ⟨PySem.W.mg_none_of X Gm n_abs, PySem.W.mg_none_of X Gm n_divmod, PySem.W.mg_none_of X Gm n_enumerate, PySem.W.mg_none_of X Gm n_int, PySem.W.mg_none_of X Gm n_isinstance, PySem.W.mg_none_of X Gm n_len, PySem.W.mg_none_of X Gm n_max, PySem.W.mg_none_of X Gm n_min, PySem.W.mg_none_of X Gm n_range, PySem.W.mg_none_of X Gm n_repr, PySem.W.mg_none_of X Gm n_str, ⟨_, PySem.W.mg_of X Gm k_MOST_BITS⟩, ⟨_, (PySem.W.mg_of X Gm k_BITS).trans (by rw [show (Str.ofString "01") = (⟨([48, 49] : List Nat).toArray⟩ : Str) by decide +kernel])⟩⟩
  have F_law_urn : Txt K "_law_urn" "_law_urn" (defArgs st_law_urn) (defBody st_law_urn) (defScope st_law_urn) .none kV_law_urn f_law_urn _ := ⟨⟨_, _, _, _, _, _, _, _, rfl, l_law_urn, c_law_urn⟩, q_law_urn⟩
  have F_code_plain : Txt K "code_plain" "code_plain" (defArgs st_code_plain) (defBody st_code_plain) (defScope st_code_plain) .none kV_code_plain f_code_plain _ := ⟨⟨_, _, _, _, _, _, _, _, rfl, l_code_plain, c_code_plain⟩, q_code_plain⟩
  have F_figures_of : Txt K "figures_of" "figures_of" (defArgs st_figures_of) (defBody st_figures_of) (defScope st_figures_of) .none kV_figures_of f_figures_of _ := ⟨⟨_, _, _, _, _, _, _, _, rfl, l_figures_of, c_figures_of⟩, q_figures_of⟩
  have F_number_code : Txt K "number_code" "number_code" (defArgs st_number_code) (defBody st_number_code) (defScope st_number_code) .none kV_number_code f_number_code _ := ⟨⟨_, _, _, _, _, _, _, _, rfl, l_number_code, c_number_code⟩, q_number_code⟩
  have F_runs_of : Txt K "runs_of" "runs_of" (defArgs st_runs_of) (defBody st_runs_of) (defScope st_runs_of) .none kV_runs_of f_runs_of _ := ⟨⟨_, _, _, _, _, _, _, _, rfl, l_runs_of, c_runs_of⟩, q_runs_of⟩
  have F_code_runs : Txt K "code_runs" "code_runs" (defArgs st_code_runs) (defBody st_code_runs) (defScope st_code_runs) .none kV_code_runs f_code_runs _ := ⟨⟨_, _, _, _, _, _, _, _, rfl, l_code_runs, c_code_runs⟩, q_code_runs⟩
  have F_code_of : Txt K "code_of" "code_of" (defArgs st_code_of) (defBody st_code_of) (defScope st_code_of) .none kV_code_of f_code_of _ := ⟨⟨_, _, _, _, _, _, _, _, rfl, l_code_of, c_code_of⟩, q_code_of⟩
  have F_law_draw : Txt K "_law_draw" "_law_draw" (defArgs st_law_draw) (defBody st_law_draw) (defScope st_law_draw) .none kV_law_draw f_law_draw _ := ⟨⟨_, _, _, _, _, _, _, _, rfl, l_law_draw, c_law_draw⟩, q_law_draw⟩
  have F_law_bits : Txt K "_law_bits" "_law_bits" (defArgs st_law_bits) (defBody st_law_bits) (defScope st_law_bits) .none kV_law_bits f_law_bits _ := ⟨⟨_, _, _, _, _, _, _, _, rfl, l_law_bits, c_law_bits⟩, q_law_bits⟩
  have F_law_block : Txt K "_law_block" "_law_block" (defArgs st_law_block) (defBody st_law_block) (defScope st_law_block) .none kV_law_block f_law_block _ := ⟨⟨_, _, _, _, _, _, _, _, rfl, l_law_block, c_law_block⟩, q_law_block⟩
  have F_law_near : Txt K "_law_near" "_law_near" (defArgs st_law_near) (defBody st_law_near) (defScope st_law_near) .none kV_law_near f_law_near _ := ⟨⟨_, _, _, _, _, _, _, _, rfl, l_law_near, c_law_near⟩, q_law_near⟩
  have F_read_plain : Txt K "read_plain" "read_plain" (defArgs st_read_plain) (defBody st_read_plain) (defScope st_read_plain) .none kV_read_plain f_read_plain _ := ⟨⟨_, _, _, _, _, _, _, _, rfl, l_read_plain, c_read_plain⟩, q_read_plain⟩
  have F_read_number : Txt K "read_number" "read_number" (defArgs st_read_number) (defBody st_read_number) (defScope st_read_number) .none kV_read_number f_read_number _ := ⟨⟨_, _, _, _, _, _, _, _, rfl, l_read_number, c_read_number⟩, q_read_number⟩
  have F_other_bit : Txt K "other_bit" "other_bit" (defArgs st_other_bit) (defBody st_other_bit) (defScope st_other_bit) .none kV_other_bit f_other_bit _ := ⟨⟨_, _, _, _, _, _, _, _, rfl, l_other_bit, c_other_bit⟩, q_other_bit⟩
  have F_read_runs : Txt K "read_runs" "read_runs" (defArgs st_read_runs) (defBody st_read_runs) (defScope st_read_runs) .none kV_read_runs f_read_runs _ := ⟨⟨_, _, _, _, _, _, _, _, rfl, l_read_runs, c_read_runs⟩, q_read_runs⟩
  have F_read_code : Txt K "read_code" "read_code" (defArgs st_read_code) (defBody st_read_code) (defScope st_read_code) .none kV_read_code f_read_code _ := ⟨⟨_, _, _, _, _, _, _, _, rfl, l_read_code, c_read_code⟩, q_read_code⟩
  have F_law_number_code : Txt K "_law_number_code" "_law_number_code" (defArgs st_law_number_code) (defBody st_law_number_code) (defScope st_law_number_code) .none kV_law_number_code f_law_number_code _ := ⟨⟨_, _, _, _, _, _, _, _, rfl, l_law_number_code, c_law_number_code⟩, q_law_number_code⟩
  have F_law_runs : Txt K "_law_runs" "_law_runs" (defArgs st_law_runs) (defBody st_law_runs) (defScope st_law_runs) .none kV_law_runs f_law_runs _ := ⟨⟨_, _, _, _, _, _, _, _, rfl, l_law_runs, c_law_runs⟩, q_law_runs⟩
  have F_law_codes : Txt K "_law_codes" "_law_codes" (defArgs st_law_codes) (defBody st_law_codes) (defScope st_law_codes) .none kV_law_codes f_law_codes _ := ⟨⟨_, _, _, _, _, _, _, _, rfl, l_law_codes, c_law_codes⟩, q_law_codes⟩
  have F_law_code : Txt K "_law_code" "_law_code" (defArgs st_law_code) (defBody st_law_code) (defScope st_law_code) .none kV_law_code f_law_code _ := ⟨⟨_, _, _, _, _, _, _, _, rfl, l_law_code, c_law_code⟩, q_law_code⟩
  have F_law : Txt K "law" "law" (defArgs st_law) (defBody st_law) (defScope st_law) .none kV_law fa _ := ⟨⟨_, _, _, _, _, _, _, _, rfl, l_law, c_law⟩, q_law⟩
  have go : ∀ base : Heap, FnG PySem.Challenge.rw_countedbits_k02_the_shorter_codes.prog w K mg base 7 fa (PySem.W.fnOf "law" "law" (defArgs st_law) (defBody st_law) (defScope st_law) .none kV_law dc_law pm_law an_law cd_law ct_law) ["_law_script"] (sp_law K) := fun base => by
    have D_law_urn : Def PySem.Challenge.rw_countedbits_k02_the_shorter_codes.prog w K mg base 1 "_law_urn" [] (sp_law_urn K) := ⟨_, _, _, _, ok_law_urn gg F_law_urn  , PySem.W.mg_of X Gm a_law_urn, q_law_urn, Binds.all (fun us hl => match us, hl with | [_, _], _ => rfl), .nil⟩
    have D_code_plain : Def PySem.Challenge.rw_countedbits_k02_the_shorter_codes.prog w K mg base 1 "code_plain" [] (sp_code_plain) := ⟨_, _, _, _, ok_code_plain gg F_code_plain  , PySem.W.mg_of X Gm a_code_plain, q_code_plain, Binds.all (fun us hl => match us, hl with | [_], _ => rfl), .nil⟩
    have D_figures_of : Def PySem.Challenge.rw_countedbits_k02_the_shorter_codes.prog w K mg base 1 "figures_of" [] (sp_figures_of) := ⟨_, _, _, _, ok_figures_of gg F_figures_of  , PySem.W.mg_of X Gm a_figures_of, q_figures_of, Binds.all (fun us hl => match us, hl with | [_], _ => rfl), .nil⟩
    have D_number_code : Def PySem.Challenge.rw_countedbits_k02_the_shorter_codes.prog w K mg base 2 "number_code" [] (sp_number_code) := ⟨_, _, _, _, ok_number_code gg F_number_code D_figures_of , PySem.W.mg_of X Gm a_number_code, q_number_code, Binds.all (fun us hl => match us, hl with | [_], _ => rfl), .nil⟩
    have D_runs_of : Def PySem.Challenge.rw_countedbits_k02_the_shorter_codes.prog w K mg base 1 "runs_of" [] (sp_runs_of) := ⟨_, _, _, _, ok_runs_of gg F_runs_of  , PySem.W.mg_of X Gm a_runs_of, q_runs_of, Binds.all (fun us hl => match us, hl with | [_], _ => rfl), .nil⟩
    have D_code_runs : Def PySem.Challenge.rw_countedbits_k02_the_shorter_codes.prog w K mg base 3 "code_runs" [] (sp_code_runs) := ⟨_, _, _, _, ok_code_runs gg F_code_runs D_number_code D_runs_of , PySem.W.mg_of X Gm a_code_runs, q_code_runs, Binds.all (fun us hl => match us, hl with | [_], _ => rfl), .nil⟩
    have D_code_of : Def PySem.Challenge.rw_countedbits_k02_the_shorter_codes.prog w K mg base 4 "code_of" [] (sp_code_of) := ⟨_, _, _, _, ok_code_of gg F_code_of D_code_plain D_code_runs , PySem.W.mg_of X Gm a_code_of, q_code_of, Binds.all (fun us hl => match us, hl with | [_], _ => rfl), .nil⟩
    have D_law_draw : Def PySem.Challenge.rw_countedbits_k02_the_shorter_codes.prog w K mg base 1 "_law_draw" [] (sp_law_draw) := ⟨_, _, _, _, ok_law_draw gg F_law_draw  , PySem.W.mg_of X Gm a_law_draw, q_law_draw, Binds.all (fun us hl => match us, hl with | [_, _], _ => rfl), .nil⟩
    have D_law_bits : Def PySem.Challenge.rw_countedbits_k02_the_shorter_codes.prog w K mg base 2 "_law_bits" [] (sp_law_bits) := ⟨_, _, _, _, ok_law_bits gg F_law_bits D_law_draw , PySem.W.mg_of X Gm a_law_bits, q_law_bits, Binds.all (fun us hl => match us, hl with | [_, _], _ => rfl), .nil⟩
    have D_law_block : Def PySem.Challenge.rw_countedbits_k02_the_shorter_codes.prog w K mg base 3 "_law_block" [] (sp_law_block) := ⟨_, _, _, _, ok_law_block gg F_law_block D_law_bits D_law_draw , PySem.W.mg_of X Gm a_law_block, q_law_block, Binds.all (fun us hl => match us, hl with | [_], _ => rfl), .nil⟩
    have D_law_near : Def PySem.Challenge.rw_countedbits_k02_the_shorter_codes.prog w K mg base 2 "_law_near" [] (sp_law_near) := ⟨_, _, _, _, ok_law_near gg F_law_near D_law_draw , PySem.W.mg_of X Gm a_law_near, q_law_near, Binds.all (fun us hl => match us, hl with | [_], _ => rfl), .nil⟩
    have D_read_plain : Def PySem.Challenge.rw_countedbits_k02_the_shorter_codes.prog w K mg base 4 "read_plain" [] (sp_read_plain) := ⟨_, _, _, _, ok_read_plain gg F_read_plain  , PySem.W.mg_of X Gm a_read_plain, q_read_plain, Binds.all (fun us hl => match us, hl with | [_], _ => rfl), .nil⟩
    have D_read_number : Def PySem.Challenge.rw_countedbits_k02_the_shorter_codes.prog w K mg base 4 "read_number" [] (sp_read_number) := ⟨_, _, _, _, ok_read_number gg F_read_number  , PySem.W.mg_of X Gm a_read_number, q_read_number, Binds.all (fun us hl => match us, hl with | [_, _, _], _ => rfl), .nil⟩
    have D_other_bit : Def PySem.Challenge.rw_countedbits_k02_the_shorter_codes.prog w K mg base 1 "other_bit" [] (sp_other_bit) := ⟨_, _, _, _, ok_other_bit gg F_other_bit  , PySem.W.mg_of X Gm a_other_bit, q_other_bit, Binds.all (fun us hl => match us, hl with | [_], _ => rfl), .nil⟩
    have D_read_runs : Def PySem.Challenge.rw_countedbits_k02_the_shorter_codes.prog w K mg base 5 "read_runs" [] (sp_read_runs) := ⟨_, _, _, _, ok_read_runs gg F_read_runs D_read_number D_other_bit , PySem.W.mg_of X Gm a_read_runs, q_read_runs, Binds.all (fun us hl => match us, hl with | [_], _ => rfl), .nil⟩
    have e_p : (Str.ofString "p") = (⟨([112] : List Nat).toArray⟩ : Str) := by decide +kernel
    have e_r : (Str.ofString "r") = (⟨([114] : List Nat).toArray⟩ : Str) := by decide +kernel
    have A_reader : ∀ f sp, S_read_code f_read_plain f_read_runs f sp → HeldG PySem.Challenge.rw_countedbits_k02_the_shorter_codes.prog w K mg base 5 f sp := by
      rintro f sp (⟨rfl, rfl⟩ | ⟨rfl, rfl⟩)
      · exact ⟨⟨_, _, (ok_read_plain gg F_read_plain).mono (by decide), q_read_plain, Binds.all (fun us hl => match us, hl with | [_], _ => rfl)⟩⟩
      · exact ⟨⟨_, _, (ok_read_runs gg F_read_runs D_read_number D_other_bit).mono (by decide), q_read_runs, Binds.all (fun us hl => match us, hl with | [_], _ => rfl)⟩⟩
    have D_read_code : Def PySem.Challenge.rw_countedbits_k02_the_shorter_codes.prog w K mg base 6 "read_code" [] (sp_read_code) := ⟨_, _, _, _, ok_read_code gg F_read_code  (PySem.W.mg_of X Gm r1) ⟨_, _, ⟨r2, r3, r4⟩, e_p ▸ r5⟩ ⟨_, _, ⟨r2, r3, r4⟩, e_r ▸ r6⟩ A_reader, PySem.W.mg_of X Gm a_read_code, q_read_code, Binds.all (fun us hl => match us, hl with | [_], _ => rfl), .nil⟩
    have D_law_number_code : Def PySem.Challenge.rw_countedbits_k02_the_shorter_codes.prog w K mg base 1 "_law_number_code" [] (sp_law_number_code) := ⟨_, _, _, _, ok_law_number_code gg F_law_number_code  , PySem.W.mg_of X Gm a_law_number_code, q_law_number_code, Binds.all (fun us hl => match us, hl with | [_], _ => rfl), .nil⟩
    have D_law_runs : Def PySem.Challenge.rw_countedbits_k02_the_shorter_codes.prog w K mg base 1 "_law_runs" [] (sp_law_runs) := ⟨_, _, _, _, ok_law_runs gg F_law_runs  , PySem.W.mg_of X Gm a_law_runs, q_law_runs, Binds.all (fun us hl => match us, hl with | [_], _ => rfl), .nil⟩
    have D_law_codes : Def PySem.Challenge.rw_countedbits_k02_the_shorter_codes.prog w K mg base 2 "_law_codes" [] (sp_law_codes) := ⟨_, _, _, _, ok_law_codes gg F_law_codes D_law_number_code D_law_runs , PySem.W.mg_of X Gm a_law_codes, q_law_codes, Binds.all (fun us hl => match us, hl with | [_], _ => rfl), .nil⟩
    have D_law_code : Def PySem.Challenge.rw_countedbits_k02_the_shorter_codes.prog w K mg base 3 "_law_code" [] (sp_law_code) := ⟨_, _, _, _, ok_law_code gg F_law_code D_law_codes , PySem.W.mg_of X Gm a_law_code, q_law_code, Binds.all (fun us hl => match us, hl with | [_], _ => rfl), .nil⟩
    exact ok_law gg F_law D_law_urn D_code_of D_law_block D_law_near D_read_code D_law_code 
  exact ⟨_, fun s v => .of_eq rfl, fun base _ _ => go base⟩
end My
open PySem PySem.W PyProof.Rows Z My in
set_option maxRecDepth 100000 in
set_option maxHeartbeats 0 in
theorem PySem.Challenge.cw_countedbits_k02_the_shorter_codes_holds : PySem.Challenge.rw_countedbits_k02_the_shorter_codes.Holds := by
  w_on; o_law; k_head; (case hw => w_witness2)
  k_fill
  refine Z.walk_g (l := PySem.Challenge.rw_countedbits_k02_the_shorter_codes) (n := 63) (k := 7) (x := "_law_script") (sp := fun K => sp_law K) rfl (by decide) rfl ⟨rfl, by decide, by decide⟩ (fun w h Y => PySem.W.kIn_of Y) ?F ?W
  case W => exact fun K H a ns hl hS => ⟨a, ns, rfl, hS, hl, fun _ => rfl⟩
  case F =>
    intro w mg fa h KX G hmg
    refine' My.all_mk KX G hmg ?n_abs ?n_divmod ?n_enumerate ?n_int ?n_isinstance ?n_len ?n_max ?n_min ?n_range ?n_repr ?n_str ?k_MOST_BITS ?k_BITS ?a_law_urn ?l_law_urn ?c_law_urn ?q_law_urn ?a_code_plain ?l_code_plain ?c_code_plain ?q_code_plain ?a_figures_of ?l_figures_of ?c_figures_of ?q_figures_of ?a_number_code ?l_number_code ?c_number_code ?q_number_code ?a_runs_of ?l_runs_of ?c_runs_of ?q_runs_of ?a_code_runs ?l_code_runs ?c_code_runs ?q_code_runs ?a_code_of ?l_code_of ?c_code_of ?q_code_of ?a_law_draw ?l_law_draw ?c_law_draw ?q_law_draw ?a_law_bits ?l_law_bits ?c_law_bits ?q_law_bits ?a_law_block ?l_law_block ?c_law_block ?q_law_block ?a_law_near ?l_law_near ?c_law_near ?q_law_near ?a_read_plain ?l_read_plain ?c_read_plain ?q_read_plain ?a_read_number ?l_read_number ?c_read_number ?q_read_number ?a_other_bit ?l_other_bit ?c_other_bit ?q_other_bit ?a_read_runs ?l_read_runs ?c_read_runs ?q_read_runs ?a_read_code ?l_read_code ?c_read_code ?q_read_code ?a_law_number_code ?l_law_number_code ?c_law_number_code ?q_law_number_code ?a_law_runs ?l_law_runs ?c_law_runs ?q_law_runs ?a_law_codes ?l_law_codes ?c_law_codes ?q_law_codes ?a_law_code ?l_law_code ?c_law_code ?q_law_code ?a_law ?l_law ?c_law ?q_law ?r1 ?r2 ?r3 ?r4 ?r5 ?r6
    (case n_abs => k_is)
    (case n_divmod => k_is)
    (case n_enumerate => k_is)
    (case n_int => k_is)
    (case n_isinstance => k_is)
    (case n_len => k_is)
    (case n_max => k_is)
    (case n_min => k_is)
    (case n_range => k_is)
    (case n_repr => k_is)
    (case n_str => k_is)
    (case k_MOST_BITS => k_is)
    (case k_BITS => k_is)
    (case a_law_urn => k_is)
    (case l_law_urn => k_is)
    (case c_law_urn => k_is)
    (case q_law_urn => k_is)
    (case a_code_plain => k_is)
    (case l_code_plain => k_is)
    (case c_code_plain => k_is)
    (case q_code_plain => k_is)
    (case a_figures_of => k_is)
    (case l_figures_of => k_is)
    (case c_figures_of => k_is)
    (case q_figures_of => k_is)
    (case a_number_code => k_is)
    (case l_number_code => k_is)
    (case c_number_code => k_is)
    (case q_number_code => k_is)
    (case a_runs_of => k_is)
    (case l_runs_of => k_is)
    (case c_runs_of => k_is)
    (case q_runs_of => k_is)
    (case a_code_runs => k_is)
    (case l_code_runs => k_is)
    (case c_code_runs => k_is)
    (case q_code_runs => k_is)
    (case a_code_of => k_is)
    (case l_code_of => k_is)
    (case c_code_of => k_is)
    (case q_code_of => k_is)
    (case a_law_draw => k_is)
    (case l_law_draw => k_is)
    (case c_law_draw => k_is)
    (case q_law_draw => k_is)
    (case a_law_bits => k_is)
    (case l_law_bits => k_is)
    (case c_law_bits => k_is)
    (case q_law_bits => k_is)
    (case a_law_block => k_is)
    (case l_law_block => k_is)
    (case c_law_block => k_is)
    (case q_law_block => k_is)
    (case a_law_near => k_is)
    (case l_law_near => k_is)
    (case c_law_near => k_is)
    (case q_law_near => k_is)
    (case a_read_plain => k_is)
    (case l_read_plain => k_is)
    (case c_read_plain => k_is)
    (case q_read_plain => k_is)
    (case a_read_number => k_is)
    (case l_read_number => k_is)
    (case c_read_number => k_is)
    (case q_read_number => k_is)
    (case a_other_bit => k_is)
    (case l_other_bit => k_is)
    (case c_other_bit => k_is)
    (case q_other_bit => k_is)
    (case a_read_runs => k_is)
    (case l_read_runs => k_is)
    (case c_read_runs => k_is)
    (case q_read_runs => k_is)
    (case a_read_code => k_is)
    (case l_read_code => k_is)
    (case c_read_code => k_is)
    (case q_read_code => k_is)
    (case a_law_number_code => k_is)
    (case l_law_number_code => k_is)
    (case c_law_number_code => k_is)
    (case q_law_number_code => k_is)
    (case a_law_runs => k_is)
    (case l_law_runs => k_is)
    (case c_law_runs => k_is)
    (case q_law_runs => k_is)
    (case a_law_codes => k_is)
    (case l_law_codes => k_is)
    (case c_law_codes => k_is)
    (case q_law_codes => k_is)
    (case a_law_code => k_is)
    (case l_law_code => k_is)
    (case c_law_code => k_is)
    (case q_law_code => k_is)
    (case a_law => k_is)
    (case l_law => k_is)
    (case c_law => k_is)
    (case q_law => k_is)
    (case r1 => k_is)
    (case r2 => k_is)
    (case r3 => exact ⟨⟨_, _, rfl, rfl⟩, ⟨_, _, rfl, rfl⟩, trivial⟩)
    (case r4 => decide)
    (case r5 => k_is)
    (case r6 => k_is)
#print axioms PySem.Challenge.cw_countedbits_k02_the_shorter_codes_holds
