import PyProof.Rows.All
import Wide.All
import OpenK.AllK
import Wide.FinOn
import HandS.ForMost
import HandS.ForExc
import HandS.EndBits
import HandS.OwnEq
import HandS.IsInst
import HandS.Property
import HandS.ExcInit
import HandS.ExcField
import KE.KExcSuper
import KE.KOpsOwn
import HandS.Defaults
import HandS.ExcIs
import PyProof.ReprLen
import OpenK.KMeth
import OpenK.KOps
import KE.KStar
import HandS.ExcOwn
import HandS.More
import HandS.Lambda
import HandS.EndTab
import KE.KNestM
import HandS.SetFor
import HandS.MakeKwOnly
import HandS.Walk
import HandS.Head0
import HandS.Head1
import HandS.Head2
import HandS.HeadEnd
import HandS.HeadHook1
import HandS.HeadHook2
import HandS.Nested
import HandS.NestedK
import HandS.Zip
import HandS.TupAny
import HandS.TupMul
import HandS.Star
import HandS.Conv
import HandS.Codes
import PyProof.StrLawsIn
import PyProof.InstNe
import HandS.Style
import HandS.Evl
import PySem.Challenge.RW_tapedonce_k25_setups_refused
set_option Elab.async false
set_option linter.all false
set_option maxRecDepth 100000
set_option maxHeartbeats 4000000
/-! Layer A: promises of defs that are called where no text of a container is being made (so that repr may be used in them). -/
namespace L2.TP
open PySem PySem.Spec PyProof.Rows

/-- the promise of a def, where nothing shows itself -/
structure FnG (P : Program) (w : World) (K : PySem.W.Frag) (mg : Str → Option Value) (base : Heap) (CX : CXT) (k : Nat)
    (f : Addr) (fd : FuncData) (ps : List Str) (sp : Sp) : Prop where
  len : ∀ vs H Q E, sp vs H Q E → vs.length = ps.length
  run : ∀ (A : Around) (outer : List Env) (s : Shared) (H : Hp) (args : Args) (us : List Value) (vs : List V) (Q : VK) (E : XK),
    A.guards = some [] → Room k A → Env0 P w K mg base A outer s H → BindsTo s fd args (ps.zip us) → Vals vs us → sp vs H Q E →
    codeAny (model P w) A (.call (.ref f) args) (CR CX outer P w H s Q E) s

section
variable {P : Program} {w : World} {K : PySem.W.Frag} {mg : Str → Option Value} {base : Heap} {CX : CXT}
theorem FnG.of {k : Nat} {f : Addr} {fd : FuncData} {ps : List Str} {sp : Sp} (F : FnOk P w K mg base CX k f fd ps sp) : FnG P w K mg base CX k f fd ps sp :=
  ⟨F.len, fun A outer s H args us vs Q E _ hr => F.run A outer s H args us vs Q E hr⟩
theorem FnG.mono {j k : Nat} {f : Addr} {fd : FuncData} {ps : List Str} {sp : Sp} (F : FnG P w K mg base CX j f fd ps sp) (h : j ≤ k) : FnG P w K mg base CX k f fd ps sp :=
  ⟨F.len, fun A outer s H args us vs Q E hg hr => F.run A outer s H args us vs Q E hg (hr.mono h)⟩

/-- a def by its body, the body's around shows nothing -/
theorem fnG_of {k : Nat} {f : Addr} {name qual : Str} {params : Arguments} {body : List Stmt} {scope : Scope} {dV kV doc pm cdv ct oc : Value} {an od : Option Addr}
    {osl : Array (Option Value)} {N ps : List Str} {sp : Sp}
    (lk : K.lookup f = some ⟨oc, od, .func (PySem.W.fnOf name qual params body scope dV kV doc pm an cdv ct), osl⟩)
    (hcd : PySem.W.codeIn K cdv qual = true) (S : FnScope N ps scope) (len : ∀ vs H Q E, sp vs H Q E → vs.length = ps.length)
    (hbody : ∀ (A : Around) (outer : List Env) (s : Shared) (H : Hp) (vs : List V) (Q : VK) (E : XK), A.guards = some [] →
      Room k (A.deeper (envOfC qual scope s.heap.objs.size f cdv)) → sp vs H Q E →
      ∃ t, PSs (cxOf CX P w K mg base N qual scope f cdv A outer s H E) body t ∧ t { nx := fun _ H' => Q .non H', rt := Q } (start N vs) H) :
    FnG P w K mg base CX (k + 1) f (PySem.W.fnOf name qual params body scope dV kV doc pm an cdv ct) ps sp := by
  refine ⟨len, fun A outer s H args us vs Q E gA hr e0 hb r hsp => ?_⟩
  have sameLen := len _ _ _ _ hsp
  have inK : K.In s.heap := e0.mod.kin.keeps fun b o e => (e0.bs b o e).1
  have noLim : s.heap.NoLimit := e0.mod.nolimit.keeps fun b o e => (e0.bs b o e).1
  have kinds : ∀ y ∈ ps.zip us, scope.names.lookup y.1 = some .local ∨
      (scope.names.lookup y.1 = some .cell ∧ ((cellsFrom (s.heap.objs.size + 1) scope.names []).lookup y.1).isSome = true) := by
    rintro ⟨n, v⟩ hy
    rcases S.par n (List.of_mem_zip hy).1 with z | z
    · exact .inl z
    · exact .inr ⟨z, PySem.W.cellsFrom_some _ _ _ (.inl z)⟩
  refine codeAny_call_function hr.depth (inK _ _ lk) rfl S.co S.gen rfl (PySem.W.codeRec_of inK hcd) (hb _ _ _ _ ?_)
  refine wpAny_newFunctionEnv_cells S.kind kinds fun env he s1 x => ?_
  subst he
  refine ⟨noLim.keeps x.toInCall.keep, codeAny_func ?_⟩
  obtain ⟨t, ht, hq⟩ := hbody A outer s H vs Q E gA (hr.deeper _) hsp
  have I := inv_start (CX := CX) (E := E) S hr.hd e0 sameLen r x
  refine wpAny_mono (ht.run [] s1 (start N vs) H _ I hq) (fun fl s' hs => ?_) fun e s' hs => hs
  cases fl with
  | ret u =>
    obtain ⟨v, σ', H', J, rv, q⟩ := hs
    exact ⟨v, H', J.os, J.bare, J.base, J.hok, rv, q⟩
  | next =>
    obtain ⟨σ', H', J, q⟩ := hs
    exact ⟨.non, H', J.os, J.bare, J.base, J.hok, rfl, q⟩
  | brk =>
    obtain ⟨_, _, _, q⟩ := hs
    exact q.elim
  | cont =>
    obtain ⟨_, _, _, q⟩ := hs
    exact q.elim
end

section
variable {X : Cx} {CX : CXT} {k : Nat} {f : Addr} {fd : FuncData} {ps : List Str} {sp : Sp} {dvs : List V} {ds : List Value} {E : XK} {x : Str} {p pos : Pos} {e : Expr} {es : List Expr} {t : TA}
theorem run_fnG {pins : List (Addr × Obj)} {σ : St} {H : Hp} {s : Shared} {Q : VK} {us : List Value} {vs : List V}
    (F : FnG X.prog X.w X.K X.mg X.base CX k f fd ps sp) (gA : X.A.guards = some []) (hr : Room k X.A) (hb : Binds X.K fd ps ds) (hd : Vals dvs ds) (hx : Passes CX X E)
    (I : Inv X pins σ H s) (r : Vals vs us) (h : sp (vs ++ dvs) H Q E) : wpAny (model X.prog X.w) X.A (call (.ref f) us) (EP X pins σ Q) X.xe s := by
  have both : Vals (vs ++ dvs) (us ++ ds) := r.append hd
  have sz : (us ++ ds).length = ps.length := both.length.symm.trans (F.len _ _ _ _ h)
  refine wpAny_call (codeAny_mono (F.run X.A X.stack s H ⟨us, []⟩ (us ++ ds) (vs ++ dvs) Q E gA hr I.env0 (hb s us I.kIn sz) both h) fun r s' hq => ?_)
  cases r with
  | error e => exact hx pins σ H s e s' I hq
  | ok fl =>
    cases fl with
    | ret u => exact I.after hq
    | next => exact hq.elim
    | brk => exact hq.elim
    | cont => exact hq.elim
theorem pe_callG (F : FnG X.prog X.w X.K X.mg X.base CX k f fd ps sp) (gA : X.A.guards = some []) (hr : Room k X.A) (hg : Gl X x) (hm : X.mg x = some (.ref f))
    (hk : PySem.W.keepIn X.K (.ref f) = true) (hb : Binds X.K fd ps ds) (hd : Vals dvs ds) (hx : Passes CX X E)
    (ha : PA X (e :: es) t) (hdb : (x == ("__debug__" : Str)) = false := by decide)
    (he : starEach (e :: es) X.env = (false, eval e X.env) :: starEach es X.env := by rfl) (hpl : (backTo pos (starEach es X.env)).any (·.1) = false := by rfl) :
    PE X (.Call (.Name x p) (e :: es) [] pos) (tCall sp dvs E t) := by
  refine ⟨fun pins s σ H Q I h => wpAny_Call_Name_kw (ld_glob I hg hm ?_ hdb)⟩
  refine PySem.W.callWith_K (h₀ := X.base) I.ok.mod.kin hk (thn (ha.run pos pins s σ H _ I h) fun us s1 hh => ?_) he hpl
  obtain ⟨vs, H1, I1, r, q⟩ := hh
  exact ⟨I1.kIn, run_fnG F gA hr hb hd hx I1 r q⟩
end

/-! ### the def as it stands, and its promise -/
section
variable {P : Program} {w : World} {K : PySem.W.Frag} {mg : Str → Option Value} {base : Heap}
theorem okG {x qual : Str} {st : Stmt} {f : Addr} {fd : FuncData} {N ps : List Str} {k : Nat} {sp : Sp} (F : Fun K x qual st f fd) (S : FnScope N ps (defScope st))
    (len : ∀ vs H Q E, sp vs H Q E → vs.length = ps.length)
    (hbody : ∀ (cdv : Value) (A : Around) (outer : List Env) (s : Shared) (H : Hp) (vs : List V) (Q : VK) (E : XK), A.guards = some [] →
      Room k (A.deeper (envOfC qual (defScope st) s.heap.objs.size f cdv)) → sp vs H Q E →
      ∃ t, PSs (cxOf CX0 P w K mg base N qual (defScope st) f cdv A outer s H E).nox (defBody st) t ∧ t { nx := fun _ H' => Q .non H', rt := Q } (start N vs) H) :
    FnG P w K mg base CX0 (k + 1) f fd ps sp := by
  obtain ⟨oc, od, kV, doc, pm, an, cdv, ct, osl, rfl, lk, hcd⟩ := F.ex
  refine fnG_of lk hcd S len fun A outer s H vs Q E gA hr hsp => ?_
  obtain ⟨t, h, q⟩ := hbody cdv A outer s H vs Q E gA hr hsp
  exact ⟨t, h.nox, q⟩
end

/-! ### the law's own call -/
theorem law_callG {P : Program} {w : World} {K : PySem.W.Frag} {mg mb : Str → Option Value} {CX : CXT} {k : Nat} {fa a : Addr} {fd : FuncData} {x : Str} {sp : Sp} {s1 : Shared} {vs : List Value} {ns : List Int}
    (KX : K.In s1.heap) (hns : s1.heap.Ns mainGlobals mg) (hb : s1.heap.Ns builtinsNs mb) (hbb : ∀ x : Str, x ≠ "__name__" → mb x = bootBuiltins x) (hlim : s1.heap.NoLimit) (hg : s1.gens = #[])
    (ha : s1.heap.get? a = some { cls := .type "list", data := .seq vs.toArray }) (hi : IntsAre vs ns) (hl : ns.length ≤ sizeLine) (hr : Room k callerA)
    (F : ∀ base : Heap, K.In base → base.Ns mainGlobals mg → FnG P w K mg base CX k fa fd [x] sp) (hbind : ∀ (s : Shared) (u : Value), BindsTo s fd ⟨[u], []⟩ [(x, u)])
    (hsp : ∀ H : Hp, Only H → SqL K H a (ns.map V.int) → sp [.ref a] H (fun v _ => v = .bl true) fun _ _ _ => False)
    (hCX : ∀ H e s', CX [] H s1 (fun _ _ _ => False) e s' → False) :
    codeAny (model P w) callerA (.call (.ref fa) ⟨[.ref a], []⟩) (fun r s' => r = .ok (.ret (.bool true)) ∧ OldK s1.heap s'.heap ∧ s'.os = s1.os ∧ AllBare s'.gens) s1 := by
  have rv := vals_ints hi
  have lenV := hi.length
  have core : ∀ H : Hp, Only H → SqL K H a (ns.map V.int) → HOk P w H s1.heap → (∀ b, H b ≠ none → b = a) → (H a ≠ none → K.lookup a = none) →
      codeAny (model P w) callerA (.call (.ref fa) ⟨[.ref a], []⟩) (fun r s' => r = .ok (.ret (.bool true)) ∧ OldK s1.heap s'.heap ∧ s'.os = s1.os ∧ AllBare s'.gens) s1 := by
    intro H hO hS hok hA hK
    have notA : ∀ {b : Addr} {o : Obj} {es : Array DictEntry} {ep : Nat}, s1.heap.get? b = some o → o.data = .dict es ep → H b = none := by
      intro b o es ep e d
      cases q : H b with
      | none => rfl
      | some u =>
        have e' : b = a := hA b (by rw [q]; simp)
        subst e'
        rw [ha] at e
        cases e
        cases d
    have nsK : ∀ {b : Addr} {m : Str → Option Value}, s1.heap.Ns b m → (hidT s1.heap H).Ns b m := by
      rintro b m ⟨o, es, ep, e, d, r⟩
      exact ⟨o, es, ep, hidT_get e (notA e d), d, r⟩
    have hKb : K.In (hidT s1.heap H) := by
      intro b o e
      refine hidT_get (KX b o e) ?_
      cases q : H b with
      | none => rfl
      | some u =>
        have e' : b = a := hA b (by rw [q]; simp)
        subst e'
        rw [hK (by rw [q]; simp)] at e
        cases e
    have hM : Mod K mg (hidT s1.heap H) := ⟨hKb, nsK hns, ⟨mb, nsK hb, hbb⟩, let ⟨mc, h1, h2⟩ := hlim; ⟨mc, nsK h1, h2⟩⟩
    have e0 : Env0 P w K mg (hidT s1.heap H) callerA [] s1 H :=
      ⟨rfl, hM, fun b o e => of_hidT e, Nat.le_of_eq (hidT_size _ _), trivial, fun b hb => absurd (show b ∈ ([] : List Addr) from hb) (by simp), hok, .of_eq hg⟩
    refine codeAny_mono ((F _ hKb (nsK hns)).run callerA [] s1 H ⟨[.ref a], []⟩ [.ref a] [.ref a] _ _ rfl hr e0 (hbind s1 (.ref a)) (.cons rfl .nil) (hsp H hO hS)) fun r s' h => ?_
    cases r with
    | error e => exact (hCX H e s' h).elim
    | ok fl =>
      cases fl with
      | next => exact h.elim
      | brk => exact h.elim
      | cont => exact h.elim
      | ret u =>
        obtain ⟨v, H', os, bare, un, hok', r', q⟩ := h
        have q' : v = .bl true := q
        subst q'
        obtain rfl : u = Value.bool true := r'
        refine ⟨rfl, OldK.of_keep fun b o e => ?_, os, bare⟩
        cases q : H b with
        | none => exact un.keep b o e q (fun z => absurd (show b ∈ ([] : List Addr) from z) (by simp)) (by simp)
        | some u =>
          rcases hO b with z | ⟨ob, xs, z⟩
          · rw [q] at z
            cases z
          · have z2 := un.frzs b ob _ z
            obtain ⟨e1, _⟩ := hok b _ z
            obtain ⟨e2, _⟩ := hok' b _ z2
            rw [e] at e1
            cases e1
            exact e2
  cases hk : K.lookup a with
  | some o =>
    have e := KX a o hk
    rw [ha] at e
    cases e
    exact core (fun _ => none) (fun _ => .inl rfl) (.inr ⟨_, vs.toArray, _, hk, rfl, rfl, rfl, by rw [List.size_toArray, lenV]; exact hl, by simpa using rv⟩)
      (fun b u z => by cases (show (none : Option HO) = some u from z)) (fun b z => absurd rfl z) fun z => absurd rfl z
  | none =>
    refine core (fun b => if b = a then some (.frz { cls := .type "list", data := .seq vs.toArray } (.lst (ns.map V.int))) else none) (fun b => ?_)
      (.inl (.inr ⟨{ cls := .type "list", data := .seq vs.toArray }, if_pos rfl⟩)) (fun b u z => ?_) (fun b z => ?_) fun _ => hk
    · by_cases hb : b = a
      · exact .inr ⟨_, _, if_pos hb⟩
      · exact .inl (if_neg hb)
    · by_cases hb : b = a
      · cases (if_pos hb).symm.trans z
        subst hb
        exact ⟨ha, by rw [List.length_map]; exact hl, vs, _, rv, ha⟩
      · cases (if_neg hb).symm.trans z
    · by_cases hb : b = a
      · exact hb
      · exact absurd (if_neg hb) z

/-- the goal that the head leaves, from the law's promise -/
theorem walkG {l : PySem.W.OpenLaw} {n k : Nat} {q : Program} {loose : List Str} {XP : (Str → Option Value) → Heap → Prop} {YP : World → Heap → Prop} {d : DefRec} {K : Params → PySem.W.Frag} {CX : CXT} {sp : PySem.W.Frag → Sp} {x : Str}
    (hn : l.most = some n) (hn2 : n ≤ sizeLine) (hdf : d.params.defaults = []) (hr : Room k callerA)
    (hY : ∀ (w : World) (h : Heap), YP w h → (K w.params).In h)
    (F : ∀ (w : World) (mg : Str → Option Value) (fa : Addr) (h : Heap), (K w.params).In h → h.Ns mainGlobals mg → mg d.name = some (.ref fa) →
      ∃ fd : FuncData, (∀ (s : Shared) (u : Value), BindsTo s fd ⟨[u], []⟩ [(x, u)]) ∧
        ∀ base : Heap, (K w.params).In base → base.Ns mainGlobals mg → FnG l.prog w (K w.params) mg base CX k fa fd [x] (sp (K w.params)))
    (hsp : ∀ (K : PySem.W.Frag) (H : Hp) (a : Addr) (ns : List Int), ns.length ≤ n → (∀ z ∈ ns, Builtin.Int.intBits z ≤ 1048576) → Only H → SqL K H a (ns.map V.int) → sp K [.ref a] H (fun v _ => v = .bl true) fun _ _ _ => False)
    (hCX : ∀ (H : Hp) (s : Shared) (e : Value) (s' : Shared), CX [] H s (fun _ _ _ => False) e s' → False) :
    PySem.W.WalkO q loose XP YP l.row.toRowW d [] (fun f vs => PySem.call f vs) := by
  refine Att.attach_callB hn hdf fun w s0 s1 mg mb fa o pm cd doc a vs ns G Y ho hd hcd hmg hobj hints hlen hbits hg => ?_
  have KX := hY w _ Y
  obtain ⟨fd, hb, hF⟩ := F w mg fa _ KX G.T.g hmg
  exact law_callG KX G.T.g G.T.b G.T.builtins G.T.nolimit hg hobj hints (Nat.le_trans hlen hn2) hr hF hb (fun H hO hS => hsp _ H a ns hlen hbits hO hS) fun H e s' => hCX H s1 e s'
end L2.TP

/-! Layer B: repr of data (no dicts within), data kept while the heap grows. -/
namespace L2.TP
open PySem PySem.Spec PyProof.Rows

section
variable {K : PySem.W.Frag} {H H' : Hp}
mutual
theorem Dp.ext (e : Ext H H') : ∀ (d : PyData) (v : V), Dp K H v d → Dp K H' v d
  | .none, _, h => by cases h; exact .non
  | .bool b, _, h => by cases h; exact .bl b
  | .int i, _, h => by cases h; exact .int i
  | .str x, _, h => by cases h; exact .str x
  | .list ds, _, h => by
    cases h with
    | lst hs ha => exact .lst (SqL.ext hs e) (DpAll.ext e ds _ ha)
  | .tuple ds, _, h => by
    cases h with
    | tup hs ha => exact .tup (SqT.ext hs e) (DpAll.ext e ds _ ha)
  | .dict _, _, h => by cases h
theorem DpAll.ext (e : Ext H H') : ∀ (ds : List PyData) (vs : List V), DpAll K H vs ds → DpAll K H' vs ds
  | [], _, h => by cases h; exact .nil
  | d :: ds, _, h => by
    cases h with
    | cons h1 h2 => exact .cons (Dp.ext e d _ h1) (DpAll.ext e ds _ h2)
end
mutual
theorem Dp.noDict : ∀ (d : PyData) (v : V), Dp K H v d → d.hasDict = false
  | .none, _, _ => rfl
  | .bool _, _, _ => rfl
  | .int _, _, _ => rfl
  | .str _, _, _ => rfl
  | .list ds, _, h => by
    cases h with
    | lst _ ha => exact DpAll.noDict ds _ ha
  | .tuple ds, _, h => by
    cases h with
    | tup _ ha => exact DpAll.noDict ds _ ha
  | .dict _, _, h => by cases h
theorem DpAll.noDict : ∀ (ds : List PyData) (vs : List V), DpAll K H vs ds → PyData.hasDictAll ds = false
  | [], _, _ => rfl
  | d :: ds, _, h => by
    cases h with
    | cons h1 h2 =>
      show (d.hasDict || PyData.hasDictAll ds) = false
      rw [Dp.noDict d _ h1, DpAll.noDict ds _ h2]
      rfl
end
end

/-- repr(x): x stands for the data d -/
def rRepr (K : PySem.W.Frag) : List V → Hp → VK → Prop := fun xs H Q => ∃ v d, xs = [v] ∧ Dp K H v d ∧ d.showable = true ∧ d.depth ≤ 40 ∧ d.shown.length ≤ sizeLine ∧ Q (.str d.shown) H
section
variable {X : Cx}
theorem call_repr (gA : X.A.guards = some []) {k : Nat} (hr : Room k X.A) : CallR X (.builtin "repr") (rRepr X.K) := by
  intro pins s σ H xs us Q I r h
  obtain ⟨v, d, rfl, hd, sh, dep, sz, q⟩ := h
  obtain ⟨u, rfl, ru⟩ := vals1 r
  have room : X.A.units + (d.depth + 1) < cLine := by
    have := hr.un
    omega
  cases hd with
  | non =>
    cases ru
    exact PySem.P.repr_of_none ⟨.str _, H, I.tok _, ⟨_, rfl⟩, q⟩
  | bl b =>
    cases ru
    exact PySem.P.repr_of_bool ⟨.str _, H, I.tok _, ⟨_, rfl⟩, q⟩
  | int i =>
    obtain ⟨t, rfl⟩ := ru
    exact PySem.P.repr_of_int (of_decide_eq_true sh) ⟨.str _, H, I.tok _, ⟨_, rfl⟩, q⟩
  | str x =>
    obtain ⟨t, rfl⟩ := ru
    exact PySem.P.repr_of_str ⟨.str _, H, I.tok _, ⟨_, rfl⟩, q⟩ sz
  | lst hs ha =>
    cases ru
    obtain ⟨as, rd⟩ := Dp.reads I _ _ _ (Dp.lst hs ha) rfl
    exact repr_of_reads' rd sh (PyData.noDict_hsm (Dp.noDict _ _ (Dp.lst hs ha))) gA room (fun _ _ e => e) (fun h' u tk hk => ⟨.str _, H, I.kept hk, ⟨_, rfl⟩, q⟩) sz
  | tup hs ha =>
    cases ru
    obtain ⟨as, rd⟩ := Dp.reads I _ _ _ (Dp.tup hs ha) rfl
    exact repr_of_reads' rd sh (PyData.noDict_hsm (Dp.noDict _ _ (Dp.tup hs ha))) gA room (fun _ _ e => e) (fun h' u tk hk => ⟨.str _, H, I.kept hk, ⟨_, rfl⟩, q⟩) sz
end
end L2.TP

/-! Layer C: own errors whose __init__ says super().__init__(a) and then keeps its arguments under their names. -/
namespace PySem.TPX
open PySem.W PySem.Calls PyProof.Rows PySem.HandSPX

/-- super().__init__(a) -/
def supS (a : Str) (q1 q2 q3 q4 q5 q6 : Pos) : Stmt := .Expr (.Call (.Attribute (.Call (.Name "super" q1) [] [] q2) "__init__" q3) [.Name a q4] [] q5) q6
/-- self.f = f -/
def keepS (f : Str) (r1 r2 r3 r4 : Pos) : Stmt := .Assign [.Attribute (.Name "self" r1) f r2] (.Name f r3) r4
/-- the names of such an __init__ -/
structure IniS (fs : List Str) (scope : Scope) : Prop where
  kind : scope.kind = .function
  co : scope.isCoroutine = false
  gen : scope.isGenerator = false
  nocell : ∀ x ∈ scope.names, x.2 ≠ .cell
  sup : scope.names.lookup ("super" : Str) = some .globalImplicit
  cls : scope.names.lookup ("__class__" : Str) = some .free
  slf : scope.names.lookup ("self" : Str) = some .local
  fld : ∀ f ∈ fs, scope.names.lookup f = some .local
  dbg : ∀ f ∈ fs, (f == ("__debug__" : Str)) = false
  nself : ∀ f ∈ fs, f ≠ ("self" : Str)

/-- what the written part says of the error's class at C and of its __init__ at fI -/
structure ErrK (prog : Program) (K : Frag) (fs : List Str) (C fI : Addr) (fd : FuncData) : Prop where
  cls : ∃ nm q N bs bm sn sub ab col dd k0 k1 k2 k3 k5, K.lookup C = some (excClassObj nm q C N bs bm true sn sub ab col dd k0 k1 k2 k3 k5 "ValueError.__new__") ∧ refsVE bm = true
  sa : findIn K (.ref C) "__setattr__" = some (some (.builtin "object.__setattr__"))
  iC : findIn K (.ref C) "__init__" = some (some (.ref fI))
  tI : typeIn K (.ref fI) = some (.type "function")
  sup : ks_superIn K C C "__init__" = some (some (.builtin "ValueError.__init__"))
  sB : subIn K (.ref C) (.type "ValueError") = some true
  mC : mroIn K C (.ref C) = some true
  nS : nsIn K mainGlobals "super" = some none
  tp : nsIn K cStatics "thirdparty.any" = some none
  top : (prog.main.scope.names.lookup ("super" : Str)).isSome = false
  nof : ∀ f ∈ fs, findIn K (.ref C) f = some none
  fn : ∃ (oc : Value) (od : Option Addr) (osl : Array (Option Value)) (qual : Str) (params : Arguments) (body : List Stmt) (scope : Scope) (dV kV doc pm : Value) (an : Option Addr) (cda : Addr) (ct : Value) (cc : Addr),
    fd = ksFn "__init__" qual params body scope dV kV doc pm an (.ref cda) ct cc ∧ K.lookup fI = some ⟨oc, od, .func fd, osl⟩ ∧ codeIn K (.ref cda) qual = true ∧
    (∃ ccl cdd vs ccs file tf, K.lookup cda = some ⟨ccl, cdd, .fields vs, ccs⟩ ∧ vs[2]? = some (.str file tf) ∧ ((prog.main.file : Str) == file) = true) ∧
    (∃ cl cld csl, K.lookup cc = some ⟨cl, cld, .cell (some (.ref C)), csl⟩) ∧
    (∃ ar : Arg, (params.posonlyargs ++ params.args).head? = some ar ∧ ar.arg = "self") ∧ IniS fs scope ∧
    ((∃ f q1 q2 q3 q4 q5 q6 r1 r2 r3 r4, (q3.endLine == q5.line) = true ∧ fs = [f] ∧ body = [supS f q1 q2 q3 q4 q5 q6, keepS f r1 r2 r3 r4]) ∨
     (∃ f g q1 q2 q3 q4 q5 q6 r1 r2 r3 r4 p1 p2 p3 p4, (q3.endLine == q5.line) = true ∧ fs = [f, g] ∧ f ≠ g ∧ body = [supS f q1 q2 q3 q4 q5 q6, keepS f r1 r2 r3 r4, keepS g p1 p2 p3 p4]))

section
variable {prog : Program} {w : World} {A : Around} {E : Value → Shared → Prop} {R : Result → Shared → Prop} {s : Shared} {K : Frag} {mg mb : Str → Option Value} {C fI : Addr} {fs : List Str} {fd : FuncData}

/-- what __init__ leaves of a fresh exception at x -/
structure IniEnd (fs : List Str) (vs : List Value) (h h' : Heap) (x C dx : Addr) : Prop where
  keep : ∀ b o, b ≠ x → h.get? b = some o → h'.get? b = some o
  obj : ∃ t1 : Addr, h'.get? x = some { cls := .ref C, dict := some dx, data := .fields #[.ref t1, .none, .none, .none, .bool false, .none] }
  dbig : h.objs.size ≤ dx
  dne : dx ≠ x
  ns : ∃ mA, h'.Ns1 dx mA ∧ ∀ y, mA y = (fs.zip vs).lookup y
theorem look1 (f y : Str) (v : Value) : (if y = f then some v else none) = [(f, v)].lookup y := by
  by_cases h : y = f
  · subst h
    simp [List.lookup]
  · have q : (y == f) = false := by simpa using h
    simp [List.lookup, q, h]
theorem look2 {f g : Str} (hfg : f ≠ g) (y : Str) (v u : Value) : (if y = g then some u else if y = f then some v else none) = [(f, v), (g, u)].lookup y := by
  by_cases h : y = f
  · subst h
    have q : ¬ y = g := hfg
    simp [List.lookup, q]
  · have q : (y == f) = false := by simpa using h
    by_cases h2 : y = g
    · subst h2
      simp [List.lookup, q]
    · have q2 : (y == g) = false := by simpa using h2
      simp [List.lookup, q, q2, h, h2]

theorem clsIn_err {nm q : Str} {N : Addr} {bs bm : List Value} {sn : List Str} {sub : List Value} {ab : Bool} {col : Option Bool} {dd : Option Addr} {k0 k1 k2 k3 k5 : Option Value}
    (hC : K.lookup C = some (excClassObj nm q C N bs bm true sn sub ab col dd k0 k1 k2 k3 k5 "ValueError.__new__")) :
    clsIn K C = some { name := nm, bases := bs, mro := .ref C :: bm, ns := N, qualname := q, hasDict := true, slotNames := sn, subclasses := sub, abstract := ab, collection := col, hasDel := false } := by
  unfold clsIn
  rw [hC]

/-- super().__init__(a), in the body of such an __init__, at its beginning -/
theorem sup_run (T : ErrK prog K fs C fI fd) {x t0 : Addr} {v : Value} {f : Str} {q1 q2 q3 q4 q5 q6 : Pos} {body : List Stmt} {qual : Str} {params : Arguments} {scope : Scope} {dV kV doc pm : Value} {an : Option Addr} {cda cc : Addr} {ct : Value}
    {oc : Value} {od : Option Addr} {osl : Array (Option Value)} {L : Addr} {m : Str → Option Value} {Q : Flow → Shared → Prop}
    (efd : fd = ksFn "__init__" qual params body scope dV kV doc pm an (.ref cda) ct cc) (lf : K.lookup fI = some ⟨oc, od, .func fd, osl⟩)
    (hcode : ∃ ccl cdd vs ccs file tf, K.lookup cda = some ⟨ccl, cdd, .fields vs, ccs⟩ ∧ vs[2]? = some (.str file tf) ∧ ((prog.main.file : Str) == file) = true)
    (hcell : ∃ cl cld csl, K.lookup cc = some ⟨cl, cld, .cell (some (.ref C)), csl⟩)
    (hpos : (q3.endLine == q5.line) = true) (hpar : ∃ ar : Arg, (params.posonlyargs ++ params.args).head? = some ar ∧ ar.arg = "self") (S : IniS fs scope) (hf : f ∈ fs)
    (X : K.In s.heap) (hgl : s.heap.Ns mainGlobals mg) (hbl : s.heap.Ns builtinsNs mb) (hbb : ∀ x : Str, x ≠ "__name__" → mb x = bootBuiltins x)
    (hns : s.heap.Ns L m) (ms : m "self" = some (.ref x)) (mf : m f = some v) (hx : s.heap.get? x = some (excO C t0))
    (hq : ∀ h' tk t1, (∀ b o, b ≠ x → s.heap.get? b = some o → h'.get? b = some o) → h'.get? x = some (excO C t1) → Q .next { s with heap := h', toks := tk }) :
    wpAt (model prog w) A (.func body (ksEnv qual scope L fI (.ref cda) cc)) (exec (supS f q1 q2 q3 q4 q5 q6) (ksEnv qual scope L fI (.ref cda) cc)) Q E s := by
  obtain ⟨nm, q, N, bs, bm, sn, sub, ab, col, dd, k0, k1, k2, k3, k5, hC, hbm⟩ := T.cls
  obtain ⟨ccl, cdd, vs, ccs, file, tf, lc, hvs, hfile⟩ := hcode
  obtain ⟨cl, cld, csl, lcell⟩ := hcell
  obtain ⟨ar, hhead, har⟩ := hpar
  have hcl := clsIn_err hC
  have hC1 := X _ _ hC
  have hInst : InstAt s.heap x (excO C t0) C none := ⟨hx, rfl, rfl, trivial⟩
  refine ks_wpAt_Expr_any ?_ (by show (scope.kind == ScopeKind.module && _) = false; rw [S.kind]; rfl) rfl
  refine ks_wpAt_MethodCall (pl := (do return (← importBound (.Call (.Name "super" q1) [] [] q2) (ksEnv qual scope L fI (.ref cda) cc)).getD true)) ?_ (by
    show (do
      let ov ← attributeBase (.Call (.Name "super" q1) [] [] q2) "__init__" (ksEnv qual scope L fI (.ref cda) cc) (eval (.Call (.Name "super" q1) [] [] q2) (ksEnv qual scope L fI (.ref cda) cc))
      standAt q3.atName
      methodCall (.Call (.Name "super" q1) [] [] q2) "__init__" q3 q5 (ksEnv qual scope L fI (.ref cda) cc) ov 1 (backTo q5 (starEach [.Name f q4] (ksEnv qual scope L fI (.ref cda) cc))) []) = _
    unfold methodCall methodCallPos
    rw [hpos]
    rfl)
  obtain ⟨hh, g, d, tk, os⟩ := s
  refine ks_wpAt_super_base (env := ksEnv qual scope L fI (.ref cda) cc) S.sup S.cls (by decide) rfl (X _ _ lf) rfl (by rw [efd]; exact hhead) rfl (X _ _ lc) rfl hvs hfile T.top ?_
  refine ks_loadName_global S.kind S.sup (loadGlobal_builtin (env := ksEnv qual scope L fI (.ref cda) cc) hgl (mg_none_of X hgl T.nS) hbl ((hbb _ (by decide +kernel)).trans (by decide +kernel)) ⟨rfl, ?_⟩)
  refine wpAny_loadName_free S.kind S.cls rfl ⟨_, X _ _ lcell, rfl⟩ ?_
  refine wpAny_loadName_local S.kind (by rw [har]; exact S.slf) hns (by rw [har]; exact ms) ?_
  refine ks_wpAny_isType_cls hC1 rfl ⟨rfl, ?_⟩
  refine ks_wpAny_call_super hC1 rfl hx rfl (fun c z => nomatch z) (looks_mroIn X T.mC) (fun h1 e1 k1 => ?_)
  have X1 := X.keeps k1
  have hx1 := k1 _ _ hx
  have hI1 : InstAt h1 x (excO C t0) C none := ⟨hx1, rfl, rfl, trivial⟩
  have sup : alongIn K "__init__" ((((Value.ref C :: bm).dropWhile (· != .ref C)).drop 1)) = some (some (.builtin "ValueError.__init__")) := by
    have z := T.sup
    unfold ks_superIn at z
    rw [hcl, Option.bind_some] at z
    exact z
  refine kxs_getMethod kxs_ValueError e1 (looks_opaque X1 T.tp) (l₀ := Value.ref C :: bm) (fun A Q E s k q => wpAny_bind ((looks_clsIn X1 hcl) A _ E s k (wpAny_pure q))) rfl X1 sup (hI1.type.andThen (looks_subIn X1 T.sB)) (ks_ne X1 hI1 hcl) (by decide) ?_
  have k2 : ∀ b o, h1.get? b = some o → (h1.push (kxs_mw "ValueError.__init__" x)).get? b = some o := fun b o e => Heap.get?_push_of_some _ e
  have hu : (h1.push (kxs_mw "ValueError.__init__" x)).get? h1.objs.size = some (kxs_mw "ValueError.__init__" x) := Heap.get?_push_at rfl rfl
  have hst : starEach [Expr.Name f q4] (ksEnv qual scope L fI (.ref cda) cc) = (false, eval (.Name f q4) (ksEnv qual scope L fI (.ref cda) cc)) :: starEach [] (ksEnv qual scope L fI (.ref cda) cc) := rfl
  rw [hst]
  refine kxs_callWith (i := "ValueError.__init__") (x := x) rfl (evalArgs_plain (spliced_cons ?_))
  have hns2 := (hns.keeps k1).keeps k2
  refine wpAny_Name (wpAny_loadName_local S.kind (S.fld f hf) hns2 mf ?_) (S.dbg f hf)
  refine spliced_nil ⟨hu, ?_⟩
  refine wpAny_call (codeAny_of_tree ?_)
  show wpAny _ A.in1 (callAny (.ref h1.objs.size) ⟨[v], []⟩) _ _ _
  simp only [callAny]
  refine wpAny_bind (wpAny_load hu ?_)
  simp only [kxs_mw, show (Value.type "method-wrapper" == Value.type "method" || Value.type "method-wrapper" == Value.type "builtin_function_or_method" || Value.type "method-wrapper" == Value.type "method-wrapper") = true by decide, if_true]
  refine KFB.if_so (by decide) ?_
  refine wpAny_bind (check_bound_init F.excBase_ValueError.toExcCallFacts (k2 _ _ (k1 _ _ hC1)) (k2 _ _ hx1) rfl ?_)
  refine wpAny_bind (wpAny_pure (wpAny_pure ?_))
  refine ⟨plainId_quiet F.excBase_ValueError.init.plain _, codeAny_builtin F.excBase_ValueError.initEntry ?_⟩
  refine exc_init_tree (cls := .ref C) (t0 := t0) (dv := none) (c2 := .none) (c3 := .none) (b4 := .bool false) (k2 _ _ hx1) (by show 1 ≤ sizeLine; rw [sizeLine_eq]; decide) (fun h' kk e' t' => ?_)
  exact hq h' _ _ (fun b o hb e => kk b o hb (k2 _ _ (k1 _ _ e))) e'

/-- self.f = f, the first one -/
theorem keep_new (T : ErrK prog K fs C fI fd) {x t0 : Addr} {v : Value} {f : Str} {r1 r2 r3 r4 : Pos} {qual : Str} {scope : Scope} {cda cc L : Addr} {m : Str → Option Value} {Q : Flow → Shared → Prop}
    (S : IniS fs scope) (hf : f ∈ fs) (X : K.In s.heap) (hns : s.heap.Ns L m) (ms : m "self" = some (.ref x)) (mf : m f = some v) (hx : s.heap.get? x = some (excO C t0))
    (hq : ∀ h' tk dx, (∀ b o, b ≠ x → s.heap.get? b = some o → h'.get? b = some o) → s.heap.objs.size ≤ dx → dx ≠ x →
      h'.get? x = some { cls := .ref C, dict := some dx, data := .fields #[.ref t0, .none, .none, .none, .bool false, .none] } →
      h'.Ns1 dx (fun y => if y = f then some v else none) → Q .next { s with heap := h', toks := tk }) :
    wpAny (model prog w) A (exec (keepS f r1 r2 r3 r4) (ksEnv qual scope L fI (.ref cda) cc)) Q E s := by
  obtain ⟨nm, q, N, bs, bm, sn, sub, ab, col, dd, k0, k1, k2, k3, k5, hC, hbm⟩ := T.cls
  have hcl := clsIn_err hC
  refine plainObj_wpAny_Assign_Attribute ?_
  refine wpAny_Name (wpAny_loadName_local S.kind (S.fld f hf) hns mf ?_) (S.dbg f hf)
  refine wpAny_Name (wpAny_loadName_local S.kind S.slf hns ms ?_) (by decide)
  obtain ⟨hh, g, d, tk, os⟩ := s
  refine set_plain X (ox := excO C t0) (od := none) ⟨hx, rfl, rfl, trivial⟩ T.sa ?_
  exact exc_osa X hx hcl (show refsVE (.ref C :: bm) = true from hbm) rfl (T.nof f hf) (fun h3 tk3 dx k3 dn dne hx3 hn3 => hq h3 tk3 dx k3 dn dne hx3 hn3)

/-- self.g = g, a further one -/
theorem keep_old (T : ErrK prog K fs C fI fd) {x t0 dx : Addr} {v : Value} {f : Str} {r1 r2 r3 r4 : Pos} {qual : Str} {scope : Scope} {cda cc L : Addr} {m m0 : Str → Option Value} {nl : List Str} {Q : Flow → Shared → Prop}
    (S : IniS fs scope) (hf : f ∈ fs) (X : K.In s.heap) (hns : s.heap.Ns L m) (ms : m "self" = some (.ref x)) (mf : m f = some v)
    (hx : s.heap.get? x = some { cls := .ref C, dict := some dx, data := .fields #[.ref t0, .none, .none, .none, .bool false, .none] }) (hn : s.heap.Ns1 dx m0) (hw : Within m0 nl) (hz : nl.length ≤ 1000)
    (hq : ∀ h' tk, (∀ b o, b ≠ dx → s.heap.get? b = some o → h'.get? b = some o) → h'.Ns1 dx (fun y => if y = f then some v else m0 y) → Q .next { s with heap := h', toks := tk }) :
    wpAny (model prog w) A (exec (keepS f r1 r2 r3 r4) (ksEnv qual scope L fI (.ref cda) cc)) Q E s := by
  obtain ⟨nm, q, N, bs, bm, sn, sub, ab, col, dd, k0, k1, k2, k3, k5, hC, hbm⟩ := T.cls
  have hcl := clsIn_err hC
  refine plainObj_wpAny_Assign_Attribute ?_
  refine wpAny_Name (wpAny_loadName_local S.kind (S.fld f hf) hns mf ?_) (S.dbg f hf)
  refine wpAny_Name (wpAny_loadName_local S.kind S.slf hns ms ?_) (by decide)
  obtain ⟨oD, esD, epD, hoD, hdD, _⟩ := hn.count hw
  obtain ⟨hh, g, d, tk, os⟩ := s
  refine set_plain X (od := some oD) ⟨hx, rfl, rfl, hoD⟩ T.sa ?_
  exact OEX.osa_old X hx hn hw hz hcl (show refsVE (.ref C :: bm) = true from hbm) rfl (T.nof f hf) (fun h3 tk3 k3 hn3 => hq h3 tk3 k3 hn3)

/-- the whole of __init__ -/
theorem err_init (T : ErrK prog K fs C fI fd) {x t0 : Addr} {vs : List Value} {args : Args} (hl : vs.length = fs.length) (X : K.In s.heap) (hlim : s.heap.NoLimit)
    (hgl : s.heap.Ns mainGlobals mg) (hbl : s.heap.Ns builtinsNs mb) (hbb : ∀ x : Str, x ≠ "__name__" → mb x = bootBuiltins x)
    (hx : s.heap.get? x = some (excO C t0)) (hnx : K.lookup x = none) (hroom : A.depth < recursionLimit)
    (hbind : BindsTo s fd args (("self", .ref x) :: fs.zip vs))
    (hq : ∀ h' tk dx, IniEnd fs vs s.heap h' x C dx → R (.ok (.ret .none)) { s with heap := h', toks := tk }) :
    codeAny (model prog w) A (.call (.ref fI) args) R s := by
  obtain ⟨oc, od, osl, qual, params, body, scope, dV, kV, doc, pm, an, cda, ct, cc, efd, lf, hcd, hcode, hcell, hpar, S, hshape⟩ := T.fn
  have butx : ∀ {h h' : Heap}, K.In h → (∀ b o, b ≠ x → h.get? b = some o → h'.get? b = some o) → K.In h' := fun {h h'} Y k a o e =>
    k a o (fun z => by rw [z, hnx] at e; cases e) (Y a o e)
  have hloc : ∀ y ∈ (("self", .ref x) :: fs.zip vs : List (Str × Value)), scope.names.lookup y.1 = some .local := fun y hy => by
    rcases List.mem_cons.mp hy with z | z
    · rw [z]
      exact S.slf
    · exact S.fld _ (List.of_mem_zip z).1
  subst efd
  refine ks_codeAny_call_defAt (body := body) (binds := ("self", .ref x) :: fs.zip vs) hroom (X _ _ lf) rfl hlim (codeRec_of X hcd) rfl hbind S.nocell hloc (fun h1 hns hk1 => ?_) S.co S.gen S.kind
  have X1 := X.keeps hk1
  have hx1 := hk1 _ _ hx
  have hL : ∀ {h' : Heap}, (∀ b o, b ≠ x → h1.get? b = some o → h'.get? b = some o) → ∀ {m}, h1.Ns s.heap.objs.size m → h'.Ns s.heap.objs.size m := fun {h'} k {m} ⟨o, es, ep, e, r⟩ =>
    ⟨o, es, ep, k _ _ (Nat.ne_of_gt (Heap.lt_size hx)) e, r⟩
  rcases hshape with ⟨f, q1, q2, q3, q4, q5, q6, r1, r2, r3, r4, hpos, rfl, rfl⟩ | ⟨f, g, q1, q2, q3, q4, q5, q6, r1, r2, r3, r4, p1, p2, p3, p4, hpos, rfl, hfg, rfl⟩
  · obtain ⟨v, rfl⟩ : ∃ v, vs = [v] := by
      cases vs with
      | nil => cases hl
      | cons v r =>
        cases r with
        | nil => exact ⟨v, rfl⟩
        | cons _ _ => cases hl
    have nf : (("self" : Str) == f) = false := by simpa using (S.nself f (by simp)).symm
    have ms : ([("self", .ref x), (f, v)] : List (Str × Value)).reverse.lookup ("self" : Str) = some (Value.ref x) := by simp [List.lookup, nf]
    have mf : ([("self", .ref x), (f, v)] : List (Str × Value)).reverse.lookup f = some v := by simp [List.lookup]
    refine ks_wpAt_execs_cons (sup_run T rfl lf hcode hcell hpos hpar S (by simp) X1 (hgl.keeps hk1) (hbl.keeps hk1) hbb hns ms mf hx1 (fun h2 tk2 t2 k2 hx2 => ?_))
    refine ks_wpAt_execs_cons (wpAt_of_wpAny (keep_new T S (by simp) (butx X1 k2) (hL k2 hns) ms mf hx2 (fun h3 tk3 dx k3 dn dne hx3 hn3 => ?_)))
    refine wpAt_of_wpAny (wpAny_execs_nil ?_)
    have z : s.heap.objs.size ≤ dx := Nat.le_of_lt (Nat.lt_of_lt_of_le (hL k2 hns).lt dn)
    exact hq h3 tk3 dx ⟨fun b o hb e => k3 b o hb (k2 b o hb (hk1 b o e)), ⟨_, hx3⟩, z, dne, _, hn3, fun y => look1 f y v⟩
  · obtain ⟨v, u, rfl⟩ : ∃ v u, vs = [v, u] := by
      cases vs with
      | nil => cases hl
      | cons v r =>
        cases r with
        | nil => cases hl
        | cons u r =>
          cases r with
          | nil => exact ⟨v, u, rfl⟩
          | cons _ _ => cases hl
    have nf : (("self" : Str) == f) = false := by simpa using (S.nself f (by simp)).symm
    have ng : (("self" : Str) == g) = false := by simpa using (S.nself g (by simp)).symm
    have fg : (f == g) = false := by simpa using hfg
    have ms : ([("self", .ref x), (f, v), (g, u)] : List (Str × Value)).reverse.lookup ("self" : Str) = some (Value.ref x) := by simp [List.lookup, nf, ng]
    have mf : ([("self", .ref x), (f, v), (g, u)] : List (Str × Value)).reverse.lookup f = some v := by simp [List.lookup, fg]
    have mu : ([("self", .ref x), (f, v), (g, u)] : List (Str × Value)).reverse.lookup g = some u := by simp [List.lookup]
    refine ks_wpAt_execs_cons (sup_run T rfl lf hcode hcell hpos hpar S (by simp) X1 (hgl.keeps hk1) (hbl.keeps hk1) hbb hns ms mf hx1 (fun h2 tk2 t2 k2 hx2 => ?_))
    refine ks_wpAt_execs_cons (wpAt_of_wpAny (keep_new T S (by simp) (butx X1 k2) (hL k2 hns) ms mf hx2 (fun h3 tk3 dx k3 dn dne hx3 hn3 => ?_)))
    have X3 : K.In h3 := butx (butx X1 k2) k3
    have hns3 : h3.Ns s.heap.objs.size _ := hL (fun b o hb e => k3 b o hb (k2 b o hb e)) hns
    refine ks_wpAt_execs_cons (wpAt_of_wpAny (keep_old T S (by simp) X3 hns3 ms mu hx3 hn3 (Within.cons f v Within.nil) (by show 1 ≤ 1000; decide) (fun h4 tk4 k4 hn4 => ?_)))
    refine wpAt_of_wpAny (wpAny_execs_nil ?_)
    have zz : s.heap.objs.size < h2.objs.size := (hL k2 hns).lt
    have z : s.heap.objs.size ≤ dx := Nat.le_of_lt (Nat.lt_of_lt_of_le zz dn)
    have nd : ∀ b o, h2.get? b = some o → b ≠ dx := fun b o e z => absurd (Nat.lt_of_lt_of_le (Heap.lt_size e) dn) (by rw [z]; exact Nat.lt_irrefl _)
    refine hq h4 tk4 dx ⟨fun b o hb e => k4 b o (nd b o (k2 b o hb (hk1 b o e))) (k3 b o hb (k2 b o hb (hk1 b o e))), ⟨_, k4 _ _ (Ne.symm dne) hx3⟩, z, dne, _, hn4, fun y => look2 hfg y v u⟩
end
end PySem.TPX

namespace PySem.TPX
open PySem.W PySem.Calls PyProof.Rows PySem.HandSPX
/-- a made error -/
structure ErrMade (fs : List Str) (vs : List Value) (h h' : Heap) (e C d : Addr) : Prop where
  keep : ∀ b o, h.get? b = some o → h'.get? b = some o
  new : h.objs.size ≤ e
  obj : ∃ oe ws, h'.get? e = some oe ∧ oe.cls = .ref C ∧ oe.dict = some d ∧ oe.data = .fields ws ∧ ws[1]? = some .none ∧ ws[2]? = some .none ∧ 4 < ws.size
  dbig : h.objs.size ≤ d
  dne : d ≠ e
  ns : ∃ mA, h'.Ns1 d mA ∧ ∀ y, mA y = (fs.zip vs).lookup y
section
variable {prog : Program} {w : World} {A : Around} {R : Result → Shared → Prop} {s : Shared} {K : Frag} {mg mb : Str → Option Value} {C fI : Addr} {fs : List Str} {fd : FuncData}
theorem err_made (T : ErrK prog K fs C fI fd) {us vs : List Value} (hl : vs.length = fs.length) (hul : us.length ≤ sizeLine) (X : K.In s.heap) (hlim : s.heap.NoLimit)
    (hgl : s.heap.Ns mainGlobals mg) (hbl : s.heap.Ns builtinsNs mb) (hbb : ∀ x : Str, x ≠ "__name__" → mb x = bootBuiltins x) (hroom : A.depth + 1 < recursionLimit)
    (hbind : ∀ (s : Shared) (x : Addr), K.In s.heap → BindsTo s fd ⟨.ref x :: us, []⟩ (("self", .ref x) :: fs.zip vs))
    (hq : ∀ h' tk e d, ErrMade fs vs s.heap h' e C d → R (.ok (.ret (.ref e))) { s with heap := h', toks := tk }) :
    codeAny (model prog w) A (.call (.ref C) ⟨us, []⟩) R s := by
  obtain ⟨nm, q, N, bs, bm, sn, sub, ab, col, dd, k0, k1, k2, k3, k5, hC, hbm⟩ := T.cls
  obtain ⟨hp, g, dr, tk, os⟩ := s
  have k : ∀ b o, hp.get? b = some o → ((hp.push (kdv_tup us)).push (excO C hp.objs.size)).get? b = some o := fun b o e => Heap.get?_push_of_some _ (Heap.get?_push_of_some _ e)
  have hget : ((hp.push (kdv_tup us)).push (excO C hp.objs.size)).get? (hp.objs.size + 1) = some (excO C hp.objs.size) := by heap_get
  have hnx : K.lookup (hp.objs.size + 1) = none := by
    cases e : K.lookup (hp.objs.size + 1) with
    | none => rfl
    | some o => exact absurd (Nat.lt_of_succ_lt (Heap.lt_size (X _ _ e))) (Nat.lt_irrefl _)
  refine call_own F.excBase_ValueError (fun Z => refsVE_contains Z bm hbm) (X _ _ hC) (looks_findIn X T.iC) (fun self => bind_fn X self T.tI) hul ?_
  refine err_init (s := ⟨(hp.push (kdv_tup us)).push (excO C hp.objs.size), g, dr, tk, os⟩) T hl (X.keeps k) (hlim.keeps k) (hgl.keeps k) (hbl.keeps k) hbb hget hnx ?_ (hbind _ _ (X.keeps k)) fun h' tk' dx I => ?_
  · show A.depth + 1 < recursionLimit
    exact hroom
  · obtain ⟨k', ⟨t1, hx⟩, dn, dne, hns⟩ := I
    have old : ∀ b o, hp.get? b = some o → h'.get? b = some o := fun b o e => k' b o (Nat.ne_of_lt (Nat.lt_succ_of_lt (Heap.lt_size e))) (k b o e)
    have z : hp.objs.size + 1 + 1 ≤ dx := by
      have q := dn
      simp only [Heap.size_push] at q
      exact q
    exact ⟨rfl, hq h' tk' (hp.objs.size + 1) dx ⟨old, Nat.le_succ _, ⟨_, _, hx, rfl, rfl, rfl, rfl, rfl, by show 4 < 6; decide⟩, Nat.le_trans (Nat.le_trans (Nat.le_succ _) (Nat.le_succ _)) z, dne, hns⟩⟩
end
end PySem.TPX

namespace L2.TP
open PySem PySem.Spec PyProof.Rows
theorem relO_zip : ∀ {fs : List Str} {vs : List V} {us : List Value}, Vals vs us → ∀ f, RelO ((fs.zip vs).lookup f) ((fs.zip us).lookup f)
  | [], _, _, _, _ => by simp [RelO]
  | _ :: _, _, _, .nil, _ => by simp [RelO]
  | g :: fs, _, _, .cons r t, f => by
    show RelO (List.lookup f ((g, _) :: fs.zip _)) (List.lookup f ((g, _) :: fs.zip _))
    by_cases h : f = g
    · subst h
      simp only [List.lookup, beq_self_eq_true]
      exact r
    · have q : (f == g) = false := by simpa using h
      simp only [List.lookup, q]
      exact relO_zip t f
/-- what the text says of an error x with the fields fs, whose __init__ takes the defaults dvs where they are left out -/
structure Err (prog : Program) (K : PySem.W.Frag) (mg : Str → Option Value) (x : Str) (fs : List Str) (C : Addr) : Prop where
  ex : ∃ (fI : Addr) (fd : FuncData), PySem.TPX.ErrK prog K fs C fI fd ∧ Binds K fd ("self" :: fs) []
  gC : mg x = some (.ref C)
  kC : PySem.W.keepIn K (.ref C) = true
  bE : PySem.W.subIn K (.ref C) (.type "BaseException") = some true
  tC : PySem.W.typeIn K (.ref C) = some (.type "type")
section
variable {X : Cx} {C : Addr} {x : Str} {fs : List Str}
/-- x(e, ..), an own error -/
def tMkE (C : Addr) (fs : List Str) (ta : TA) : St → Hp → XK → Prop := fun σ H Q => ta σ H fun vs H1 => vs.length = fs.length ∧ ∀ d, H1 d = none → Q (.ref C) (some d) (upd H1 d (.xd (fs.zip vs)))
theorem pmk_err {e : Expr} {es : List Expr} {ta : TA} {p pos : Pos} {k : Nat} (T : Err X.prog X.K X.mg x fs C) (hfs : fs.length ≤ 1000) (hr : Room k X.A) (ha : PA X (e :: es) ta) (hg : Gl X x := by rfl)
    (hdb : (x == ("__debug__" : Str)) = false := by decide)
    (he : starEach (e :: es) X.env = (false, eval e X.env) :: starEach es X.env := by rfl) (hpl : (backTo pos (starEach es X.env)).any (·.1) = false := by rfl) :
    PMk X (.Call (.Name x p) (e :: es) [] pos) (tMkE C fs ta) := by
  intro pins s σ H Q I h
  obtain ⟨fI, fd, TE, hbind⟩ := T.ex
  refine wpAny_Call_Name_kw (ld_glob I hg T.gC ?_ hdb)
  refine PySem.W.callWith_K (h₀ := X.base) I.ok.mod.kin T.kC (thn (ha.run pos pins s σ H _ I h) fun us s1 hh => ?_) he hpl
  obtain ⟨vs, H1, I1, r1, hl, q1⟩ := hh
  refine ⟨I1.kIn, ?_⟩
  show wpAny _ _ (call (.ref C) us) _ _ _
  have hlim := I1.nolimit
  obtain ⟨mb, hmb, hbb⟩ := I1.mod.blt
  have hul : us.length = fs.length := r1.length.symm.trans hl
  have hgl := I1.mod.glob.keeps I1.bk
  have hbl := hmb.keeps I1.bk
  have kin := I1.kIn
  obtain ⟨hp, g, dr, tk, os⟩ := s1
  refine wpAny_call (PySem.TPX.err_made (us := us) (vs := us) TE hul (by rw [hul]; exact Nat.le_trans hfs (by decide)) kin hlim hgl hbl hbb (by have := hr.dp; omega) (fun s' x' kk => ?_) fun h' tk' e d M => ?_)
  · have z := hbind s' (.ref x' :: us) kk (by simp [hul])
    rw [List.append_nil] at z
    exact z
  show MkP X pins σ Q (.ref e) ⟨h', g, dr, tk', os⟩
  obtain ⟨oe, fv, hoe, hc, hd, hdat, h1, _, _⟩ := M.obj
  obtain ⟨mA, hns, hmA⟩ := M.ns
  obtain ⟨G', g1, g2⟩ := restrict h' fun b => decide (b ≠ e)
  have gk : ∀ b, b ≠ e → G'.get? b = h'.get? b := fun b hb => g1 b (decide_eq_true hb)
  have ge : G'.get? e = none := g2 e (by simp)
  have old : ∀ b o, hp.get? b = some o → G'.get? b = some o := fun b o q => (gk b (Nat.ne_of_lt (Nat.lt_of_lt_of_le (Heap.lt_size q) M.new))).trans (M.keep b o q)
  have ob : ObjOk X.prog X.w (upd H1 d (.xd (fs.zip vs))) G' d (.xd (fs.zip vs)) :=
    ⟨mA, hns.at (fun o q => (gk d M.dne).trans q), fun f => by rw [hmA f]; exact relO_zip r1 f⟩
  have J : Inv X pins σ (upd H1 d (.xd (fs.zip vs))) ⟨G', g, dr, tk', os⟩ := I1.laid (t' := tk') old M.dbig ob
  refine ⟨e, oe, fv, ⟨G', g, dr, tk', os⟩, _, .ref C, some d, rfl, J, fun b o q => ?_, ge, hoe, ⟨hc, hd⟩, hdat, h1, ?_, rfl, I1.bare, raises_own T.bE T.tC, q1 d (I1.hok.fresh M.dbig)⟩
  · by_cases hb : b = e
    · have q' : G'.get? b = some o := q
      rw [hb, ge] at q'
      cases q'
    · exact (gk b hb).symm.trans q
  · rw [upd_ne (Ne.symm M.dne)]
    exact I1.hok.fresh M.new
/-- raise x(e, ..) -/
theorem ps_raiseE {e : Expr} {es : List Expr} {ta : TA} {W : WX} {p pos pos2 : Pos} {k : Nat} (hc : X.calm = true) (tk : Takes X W) (T : Err X.prog X.K X.mg x fs C) (hfs : fs.length ≤ 1000) (hr : Room k X.A) (ha : PA X (e :: es) ta)
    (hg : Gl X x := by rfl) (hdb : (x == ("__debug__" : Str)) = false := by decide)
    (he : starEach (e :: es) X.env = (false, eval e X.env) :: starEach es X.env := by rfl) (hpl : (backTo pos (starEach es X.env)).any (·.1) = false := by rfl) :
    PS X (.Raise (some (.Call (.Name x p) (e :: es) [] pos)) none pos2) (fun _ σ H => tMkE C fs ta σ H fun cls d H' => W cls d σ H') := ps_raise hc tk (pmk_err T hfs hr ha hg hdb he hpl)
end
end L2.TP

/-! Layer D: signs and comparisons whose defs are own methods; an own instance on the left, an own instance or an int on the right, or an int on the left. -/
namespace PySem.TPX
open PySem.W PySem.Calls PyProof.Rows
section
variable {prog : Program} {w : World} {M : Model} {A : Around} {E : Value → Shared → Prop} {s : Shared} {K : Frag} {y C dy f : Addr} {i : Int} {t : Tok}
theorem dec_add : Meets (Builtin.«int.__add__» ⟨[.int i t, .ref y], []⟩) (fun _ R s => s.heap.get? y = some (instObj C dy) ∧ R (.ok (.ret Value.notImplemented)) s) :=
  .of_wp fun prog w A R s h => by obtain ⟨hp, g, d, tk, os⟩ := s; obtain ⟨hl, h⟩ := h; wp_walk using wpAny_loadPart' hl; exact ⟨_, rfl, h⟩
theorem dec_sub : Meets (Builtin.«int.__sub__» ⟨[.int i t, .ref y], []⟩) (fun _ R s => s.heap.get? y = some (instObj C dy) ∧ R (.ok (.ret Value.notImplemented)) s) :=
  .of_wp fun prog w A R s h => by obtain ⟨hp, g, d, tk, os⟩ := s; obtain ⟨hl, h⟩ := h; wp_walk using wpAny_loadPart' hl; exact ⟨_, rfl, h⟩
theorem dec_mul : Meets (Builtin.«int.__mul__» ⟨[.int i t, .ref y], []⟩) (fun _ R s => s.heap.get? y = some (instObj C dy) ∧ R (.ok (.ret Value.notImplemented)) s) :=
  .of_wp fun prog w A R s h => by obtain ⟨hp, g, d, tk, os⟩ := s; obtain ⟨hl, h⟩ := h; wp_walk using wpAny_loadPart' hl; exact ⟨_, rfl, h⟩
theorem dec_floordiv : Meets (Builtin.«int.__floordiv__» ⟨[.int i t, .ref y], []⟩) (fun _ R s => s.heap.get? y = some (instObj C dy) ∧ R (.ok (.ret Value.notImplemented)) s) :=
  .of_wp fun prog w A R s h => by obtain ⟨hp, g, d, tk, os⟩ := s; obtain ⟨hl, h⟩ := h; wp_walk using wpAny_loadPart' hl; exact ⟨_, rfl, h⟩
theorem dec_eq : Meets (Builtin.«int.__eq__» ⟨[.int i t, .ref y], []⟩) (fun _ R s => s.heap.get? y = some (instObj C dy) ∧ R (.ok (.ret Value.notImplemented)) s) :=
  .of_wp fun prog w A R s h => by obtain ⟨hp, g, d, tk, os⟩ := s; obtain ⟨hl, h⟩ := h; wp_walk using wpAny_loadPart' hl; exact ⟨_, rfl, h⟩
theorem dec_ne : Meets (Builtin.«int.__ne__» ⟨[.int i t, .ref y], []⟩) (fun _ R s => s.heap.get? y = some (instObj C dy) ∧ R (.ok (.ret Value.notImplemented)) s) :=
  .of_wp fun prog w A R s h => by obtain ⟨hp, g, d, tk, os⟩ := s; obtain ⟨hl, h⟩ := h; wp_walk using wpAny_loadPart' hl; exact ⟨_, rfl, h⟩
theorem dec_lt : Meets (Builtin.«int.__lt__» ⟨[.int i t, .ref y], []⟩) (fun _ R s => s.heap.get? y = some (instObj C dy) ∧ R (.ok (.ret Value.notImplemented)) s) :=
  .of_wp fun prog w A R s h => by obtain ⟨hp, g, d, tk, os⟩ := s; obtain ⟨hl, h⟩ := h; wp_walk using wpAny_loadPart' hl; exact ⟨_, rfl, h⟩
theorem dec_le : Meets (Builtin.«int.__le__» ⟨[.int i t, .ref y], []⟩) (fun _ R s => s.heap.get? y = some (instObj C dy) ∧ R (.ok (.ret Value.notImplemented)) s) :=
  .of_wp fun prog w A R s h => by obtain ⟨hp, g, d, tk, os⟩ := s; obtain ⟨hl, h⟩ := h; wp_walk using wpAny_loadPart' hl; exact ⟨_, rfl, h⟩
theorem dec_gt : Meets (Builtin.«int.__gt__» ⟨[.int i t, .ref y], []⟩) (fun _ R s => s.heap.get? y = some (instObj C dy) ∧ R (.ok (.ret Value.notImplemented)) s) :=
  .of_wp fun prog w A R s h => by obtain ⟨hp, g, d, tk, os⟩ := s; obtain ⟨hl, h⟩ := h; wp_walk using wpAny_loadPart' hl; exact ⟨_, rfl, h⟩
theorem dec_ge : Meets (Builtin.«int.__ge__» ⟨[.int i t, .ref y], []⟩) (fun _ R s => s.heap.get? y = some (instObj C dy) ∧ R (.ok (.ret Value.notImplemented)) s) :=
  .of_wp fun prog w A R s h => by obtain ⟨hp, g, d, tk, os⟩ := s; obtain ⟨hl, h⟩ := h; wp_walk using wpAny_loadPart' hl; exact ⟨_, rfl, h⟩

/-- the left one, an int, declines -/
structure Dec (y C dy : Addr) (name : Str) (id : String) (B : Builtin) : Prop where
  slot : Slot "int" name id
  entry : entryFor table id = some B
  args : ∀ a b : Value, argsOk id ⟨[a, b], []⟩
  meets : ∀ (i : Int) (t : Tok), Meets (B ⟨[.int i t, .ref y], []⟩) (fun _ R s => s.heap.get? y = some (instObj C dy) ∧ R (.ok (.ret Value.notImplemented)) s)

/-- i op y: y's reflected def is called -/
theorem bin_refl {op : Operator} {id : String} {B : Builtin} {cd : ClassData} {rest : List Value} {Q : Value → Shared → Prop} (D : Dec y C dy (PySem.dunder op.info.2) id B) (X : K.In s.heap) (hy : s.heap.get? y = some (instObj C dy)) {od : Option Obj} (I : InstAt s.heap y (instObj C dy) C od)
    (hcd : clsIn K C = some cd) (hm : cd.mro = .ref C :: rest) (hfT : fillsNumberSlot (.type "int") op.info.2 = pure true) (hs0 : findIn K (.ref C) (PySem.dunder op.info.2) = some (some (.ref f0)))
    (hs : findIn K (.ref C) (dunderR op.info.2) = some (some (.ref f))) (hf : isFn K (.ref f) = true) (hsub : subIn K (.ref C) (.type "int") = some false)
    (h : wpAny (model prog w) A (call (.ref f) [.ref y, .int i t]) (W.CmpBack Q) E s) : wpAny (model prog w) A (binaryOp op (.int i t) (.ref y)) Q E s := by
  rcases hi : op.info with ⟨sym, nm⟩
  rw [hi] at D hs0 hs hfT
  dsimp only at D hs0 hs hfT
  have two := ksp_try X I hs hf h
  have one : wpAny (model prog w) A (tryMethod (.int i t) (PySem.dunder nm) (.ref y)) (fun r s' => r = none ∧ s' = s) E s :=
    wpAny_tryMethod_declines (typeIs_int s i t) D.slot (call_meets D.slot (typeIs_int s i t) D.entry (D.args _ _) (D.meets i t) ⟨hy, rfl, rfl, rfl⟩)
  obtain ⟨hh, g, d, tt, os⟩ := s
  have L1 : Looks (model prog w) hh (typeOf (.ref y)) (.ref C) := I.type
  have L2 : Looks (model prog w) hh (typeOf (.int i t)) (.type "int") := Looks.of_pure rfl
  have L3 : Looks (model prog w) hh (fillsNumberSlot (.ref C) nm) true := fills_K X hcd hm hs0
  have L4 : Looks (model prog w) hh (fillsNumberSlot (.type "int") nm) true := Looks.of_pure hfT
  have L5 : Looks (model prog w) hh (isSubtype (.ref C) (.type "int")) false := looks_subIn X hsub
  have L7 : Looks (model prog w) hh (numberSlotInPython (.type "int") nm) false := Looks.of_pure rfl
  have hne : (Value.type "int" == Value.ref C) = false := rfl
  simp only [binaryOp, hi]
  refine wpAny_holding (wpAny_bind ?_)
  unfold binaryOp1
  refine wpAny_bind (L2.at (wpAny_bind (L1.at (wpAny_bind (L4.at ?_)))))
  simp only [hne, Bool.false_eq_true, if_false]
  ksp_lk
  refine wpAny_mono one (fun r s' hr' => ?_) fun _ _ e => e
  obtain ⟨rfl, rfl⟩ := hr'
  ksp_lk
  refine wpAny_mono two (fun r s' hr' => ?_) fun _ _ e => e
  obtain ⟨v, rfl, hq⟩ := hr'
  ksp_lk
  exact hq

/-- i cmp y: y's reflected def is called -/
theorem cmp_refl {op : CmpOp} {id : String} {B : Builtin} {Q : Value → Shared → Prop} (D : Dec y C dy (cmpInfo op).2.1 id B) (hu : A.units < cLine) (X : K.In s.heap) (hy : s.heap.get? y = some (instObj C dy)) {od : Option Obj} (I : InstAt s.heap y (instObj C dy) C od)
    (hs : findIn K (.ref C) (cmpInfo op).2.2 = some (some (.ref f))) (hf : isFn K (.ref f) = true) (hsub : subIn K (.ref C) (.type "int") = some false)
    (h : wpAny (model prog w) A (call (.ref f) [.ref y, .int i t]) (W.CmpBack Q) E s) : wpAny (model prog w) A (richCompare op (.int i t) (.ref y)) Q E s := by
  have two : wpAny (model prog w) A (tryCompare (.ref y) (cmpInfo op).2.2 (.int i t)) (fun r s' => ∃ v, r = some v ∧ Q v s') E s := by
    unfold tryCompare
    refine wpAny_bind (ifBound_K X I hs hf (wpAny_mono h (fun v s' hv => ?_) fun _ _ e => e))
    cases v <;> first | exact hv.elim | exact wpAny_pure ⟨_, rfl, hv⟩
  have one : wpAny (model prog w) A (tryCompare (.int i t) (cmpInfo op).2.1 (.ref y)) (fun r s' => r = none ∧ s' = s) E s := by
    unfold tryCompare
    refine wpAny_bind (wpAny_callSpecialIfBound?_slot (typeIs_int s i t) D.slot (call_meets (Q := fun v s' => v = .notImplemented ∧ s' = s) D.slot (typeIs_int s i t) D.entry (D.args _ _) (D.meets i t) ⟨hy, rfl, rfl⟩ |> fun z => wpAny_mono z (fun v s' hv => ?_) fun _ _ e => e))
    obtain ⟨rfl, rfl⟩ := hv
    exact wpAny_pure ⟨rfl, rfl⟩
  have hone : oneThing? op (.int i t) (.ref y) = none := rfl
  unfold richCompare
  simp only [hone]
  refine wpAny_holding (wpAny_bind (wpAny_cRoomFor hu ?_))
  have L2 : Looks (model prog w) s.heap (typeOf (.int i t)) (.type "int") := Looks.of_pure rfl
  refine wpAny_bind (L2.here (wpAny_bind (I.type.here ?_)))
  rw [if_pos (show (Value.type "int" != Value.ref C) = true from rfl)]
  refine wpAny_bind ((looks_subIn X hsub).here ?_)
  simp only [Bool.false_eq_true, if_false, Bool.not_false, if_true]
  refine wpAny_bind (wpAny_mono one (fun r s' hr' => ?_) fun _ _ e => e)
  obtain ⟨rfl, rfl⟩ := hr'
  refine wpAny_bind (wpAny_mono two (fun r s' hr' => ?_) fun _ _ e => e)
  obtain ⟨v, rfl, hq⟩ := hr'
  exact wpAny_pure hq
end
end PySem.TPX

/-! Layer E: the same over the hand layer. -/
namespace L2.TP
open PySem PySem.Spec PyProof.Rows

/-- the def at f that a slot of the class at C calls -/
structure SlotF (K : PySem.W.Frag) (C : Addr) (name : Str) (f : Addr) : Prop where
  at_ : PySem.W.findIn K (.ref C) name = some (some (.ref f))
  fn : PySem.W.isFn K (.ref f) = true
/-- what a class says so that its signs beside ints are its own -/
structure NumC (K : PySem.W.Frag) (C : Addr) : Prop where
  slf : PySem.W.selfFirst K C = true
  sub1 : PySem.W.subIn K (.type "int") (.ref C) = some false
  sub2 : PySem.W.subIn K (.ref C) (.type "int") = some false

theorem backV {P : Value → Shared → Prop} {z : V} {v : Value} {s' : Shared} (r : RelV z v) (h : P v s') : PySem.W.CmpBack P v s' := by
  cases z with
  | non => cases r; exact h
  | bl b => cases r; exact h
  | int i => obtain ⟨t, rfl⟩ := r; exact h
  | str x => obtain ⟨t, rfl⟩ := r; exact h
  | byt b => obtain ⟨t, rfl⟩ := r; exact h
  | flt b => obtain ⟨t, rfl⟩ := r; exact h
  | ref a => cases r; exact h
  | ty n => cases r; exact h
theorem notFirst_int {K : PySem.W.Frag} {C : Addr} (N : NumC K C) : PySem.W.notFirst K C (.type "int") = true := by
  unfold PySem.W.notFirst
  rw [N.sub1]
  simp
theorem notFirst_self {K : PySem.W.Frag} {C : Addr} : PySem.W.notFirst K C (.ref C) = true := by
  unfold PySem.W.notFirst
  simp

section
variable {X : Cx} {CX : CXT} {k : Nat} {C f fr : Addr} {fd fdr : FuncData} {sp spr : Sp} {p1 p2 q1 q2 : Str} {E : XK} {pins : List (Addr × Obj)} {σ : St} {H : Hp} {s : Shared}

/-- x op y, at least one of them an instance of the class at C, the other one such or an int -/
def rOwnB (C : Addr) (sp spr : Sp) (E : XK) : R2 := fun x y H Q =>
  (∃ a dx fs, x = .ref a ∧ H a = some (.ins C dx fs) ∧ ((∃ b dy gs, y = .ref b ∧ H b = some (.ins C dy gs)) ∨ ∃ i, y = .int i) ∧ sp [x, y] H Q E) ∨
  (∃ i b dy gs, x = .int i ∧ y = .ref b ∧ H b = some (.ins C dy gs) ∧ spr [y, x] H Q E)

theorem inst_of (I : Inv X pins σ H s) {a dx : Addr} {fs : List (Str × V)} (e : H a = some (.ins C dx fs)) : ∃ od, PySem.W.InstAt s.heap a (PySem.W.instObj C dx) C (some od) := by
  obtain ⟨mA, O, _⟩ := ins_get I.hok e
  obtain ⟨od, J, _⟩ := O.look
  exact ⟨od, J⟩
theorem obj_of (I : Inv X pins σ H s) {a dx : Addr} {fs : List (Str × V)} (e : H a = some (.ins C dx fs)) : s.heap.get? a = some (PySem.W.instObj C dx) := by
  obtain ⟨od, J⟩ := inst_of I e
  exact J.at_

theorem op_ownB {op : Operator} {id : String} {B : Builtin} {fo ro : Option Value} (N : NumC X.K C) (S : SlotF X.K C (PySem.dunder op.info.2) f) (R : SlotF X.K C (dunderR op.info.2) fr)
    (t1 : PySem.W.findIn X.K (.type "int") (PySem.dunder op.info.2) = some fo) (t2 : PySem.W.findIn X.K (.type "int") (dunderR op.info.2) = some ro) (hfT : fillsNumberSlot (.type "int") op.info.2 = pure true)
    (D : ∀ y dy, PySem.TPX.Dec y C dy (PySem.dunder op.info.2) id B)
    (F : FnOk X.prog X.w X.K X.mg X.base CX k f fd [p1, p2] sp) (FR : FnOk X.prog X.w X.K X.mg X.base CX k fr fdr [q1, q2] spr)
    (hr : Room k X.A) (hb : Binds X.K fd [p1, p2] []) (hbr : Binds X.K fdr [q1, q2] []) (hx : Passes CX X E) : OpR X (binaryOp op) (rOwnB C sp spr E) := by
  intro pins s σ H x y v u Q I rx ry h
  obtain ⟨m, Fm⟩ := I.fr
  have K0 := I.ok.mod.kin
  rcases h with ⟨a, dx, fs, rfl, ea, hy, hs⟩ | ⟨i, b, dy, gs, rfl, rfl, eb, hs⟩
  · cases rx
    obtain ⟨od, J⟩ := inst_of I ea
    have run : wpAny (model X.prog X.w) X.A (call (.ref f) [.ref a, u]) (PySem.W.CmpBack (EP X pins σ Q)) X.xe s :=
      thn (run_fn (dvs := []) (ds := []) (vs := [.ref a, y]) F hr hb .nil hx I (.cons rfl (.cons ry .nil)) (by rw [List.append_nil]; exact hs)) fun z s' hz => by
        obtain ⟨zv, H', I', rz, q⟩ := hz
        exact backV rz ⟨zv, H', I', rz, q⟩
    rcases hy with ⟨b, dy, gs, rfl, eb⟩ | ⟨i, rfl⟩
    · cases ry
      obtain ⟨od2, J2⟩ := inst_of I eb
      exact PySem.W.binop_K Fm K0 J J2.type N.slf S.at_ S.fn run
    · obtain ⟨t, rfl⟩ := ry
      exact PySem.W.ksp_binT (T := "int") Fm K0 J rfl N.slf S.at_ S.fn R.at_ (.inr ⟨_, rfl⟩) t1 t2 N.sub1 run
  · cases ry
    obtain ⟨t, rfl⟩ := rx
    obtain ⟨od, J⟩ := inst_of I eb
    obtain ⟨cd, rest, hcd, hm⟩ := PySem.W.ksp_first N.slf
    refine PySem.TPX.bin_refl (D b dy) I.kIn (obj_of I eb) J hcd hm hfT S.at_ R.at_ R.fn N.sub2 ?_
    exact thn (run_fn (dvs := []) (ds := []) (vs := [.ref b, .int i]) FR hr hbr .nil hx I (.cons rfl (.cons ⟨t, rfl⟩ .nil)) (by rw [List.append_nil]; exact hs)) fun z s' hz => by
      obtain ⟨zv, H', I', rz, q⟩ := hz
      exact backV rz ⟨zv, H', I', rz, q⟩

theorem op_ownC {op : CmpOp} {id : String} {B : Builtin} (hop : ∀ a b, compareOp op a b = richCompare op a b) (N : NumC X.K C) (S : SlotF X.K C (cmpInfo op).2.1 f) (R : SlotF X.K C (cmpInfo op).2.2 fr)
    (D : ∀ y dy, PySem.TPX.Dec y C dy (cmpInfo op).2.1 id B)
    (F : FnOk X.prog X.w X.K X.mg X.base CX k f fd [p1, p2] sp) (FR : FnOk X.prog X.w X.K X.mg X.base CX k fr fdr [q1, q2] spr)
    (hr : Room k X.A) (hb : Binds X.K fd [p1, p2] []) (hbr : Binds X.K fdr [q1, q2] []) (hx : Passes CX X E) : OpR X (compareOp op) (rOwnB C sp spr E) := by
  intro pins s σ H x y v u Q I rx ry h
  obtain ⟨m, Fm⟩ := I.fr
  have K0 := I.ok.mod.kin
  rw [hop]
  rcases h with ⟨a, dx, fs, rfl, ea, hy, hs⟩ | ⟨i, b, dy, gs, rfl, rfl, eb, hs⟩
  · cases rx
    obtain ⟨od, J⟩ := inst_of I ea
    have run : wpAny (model X.prog X.w) X.A (call (.ref f) [.ref a, u]) (PySem.W.CmpBack (EP X pins σ Q)) X.xe s :=
      thn (run_fn (dvs := []) (ds := []) (vs := [.ref a, y]) F hr hb .nil hx I (.cons rfl (.cons ry .nil)) (by rw [List.append_nil]; exact hs)) fun z s' hz => by
        obtain ⟨zv, H', I', rz, q⟩ := hz
        exact backV rz ⟨zv, H', I', rz, q⟩
    rcases hy with ⟨b, dy, gs, rfl, eb⟩ | ⟨i, rfl⟩
    · cases ry
      obtain ⟨od2, J2⟩ := inst_of I eb
      exact PySem.W.cmp_K hr.units0 Fm K0 J J2.type notFirst_self S.at_ S.fn run
    · obtain ⟨t, rfl⟩ := ry
      exact PySem.W.cmp_K hr.units0 Fm K0 J (PySem.W.Looks.of_pure rfl) (notFirst_int N) S.at_ S.fn run
  · cases ry
    obtain ⟨t, rfl⟩ := rx
    obtain ⟨od, J⟩ := inst_of I eb
    refine PySem.TPX.cmp_refl (D b dy) hr.units0 I.kIn (obj_of I eb) J R.at_ R.fn N.sub2 ?_
    exact thn (run_fn (dvs := []) (ds := []) (vs := [.ref b, .int i]) FR hr hbr .nil hx I (.cons rfl (.cons ⟨t, rfl⟩ .nil)) (by rw [List.append_nil]; exact hs)) fun z s' hz => by
      obtain ⟨zv, H', I', rz, q⟩ := hz
      exact backV rz ⟨zv, H', I', rz, q⟩

/-- - x -/
def rOwnN (C : Addr) (sp : Sp) (E : XK) : V → Hp → VK → Prop := fun x H Q => ∃ a dx fs, x = .ref a ∧ H a = some (.ins C dx fs) ∧ sp [x] H Q E
theorem un_ownN (S : SlotF X.K C "__neg__" f) (F : FnOk X.prog X.w X.K X.mg X.base CX k f fd [p1] sp) (hr : Room k X.A) (hb : Binds X.K fd [p1] []) (hx : Passes CX X E) : UnR X (unaryOp .USub) (rOwnN C sp E) := by
  intro pins s σ H x v Q I rx h
  obtain ⟨a, dx, fs, rfl, ea, hs⟩ := h
  cases rx
  obtain ⟨m, Fm⟩ := I.fr
  obtain ⟨od, J⟩ := inst_of I ea
  exact PySem.W.ksp_neg Fm I.ok.mod.kin J S.at_ S.fn (run_fn (dvs := []) (ds := []) (vs := [.ref a]) F hr hb .nil hx I (.cons rfl .nil) (by rw [List.append_nil]; exact hs))

/-! ### what an int declines -/
theorem Dadd (y C dy : Addr) : PySem.TPX.Dec y C dy (PySem.dunder Operator.Add.info.2) "int.__add__" Builtin.«int.__add__» := ⟨F.slot_int_add, F.entry_int_add, F.args_int_add_2, fun _ _ => PySem.TPX.dec_add⟩
theorem Dsub (y C dy : Addr) : PySem.TPX.Dec y C dy (PySem.dunder Operator.Sub.info.2) "int.__sub__" Builtin.«int.__sub__» := ⟨F.slot_int_sub, F.entry_int_sub, F.args_int_sub_2, fun _ _ => PySem.TPX.dec_sub⟩
theorem Dmul (y C dy : Addr) : PySem.TPX.Dec y C dy (PySem.dunder Operator.Mult.info.2) "int.__mul__" Builtin.«int.__mul__» := ⟨F.slot_int_mul, F.entry_int_mul, F.args_int_mul_2, fun _ _ => PySem.TPX.dec_mul⟩
theorem Dfdiv (y C dy : Addr) : PySem.TPX.Dec y C dy (PySem.dunder Operator.FloorDiv.info.2) "int.__floordiv__" Builtin.«int.__floordiv__» := ⟨F.slot_int_floordiv, F.entry_int_floordiv, F.args_int_floordiv_2, fun _ _ => PySem.TPX.dec_floordiv⟩
theorem Deq (y C dy : Addr) : PySem.TPX.Dec y C dy (cmpInfo .Eq).2.1 "int.__eq__" Builtin.«int.__eq__» := ⟨F.slot_int_eq, F.entry_int_eq, F.args_int_eq_2, fun _ _ => PySem.TPX.dec_eq⟩
theorem Dne (y C dy : Addr) : PySem.TPX.Dec y C dy (cmpInfo .NotEq).2.1 "int.__ne__" Builtin.«int.__ne__» := ⟨F.slot_int_ne, F.entry_int_ne, F.args_int_ne_2, fun _ _ => PySem.TPX.dec_ne⟩
theorem Dlt (y C dy : Addr) : PySem.TPX.Dec y C dy (cmpInfo .Lt).2.1 "int.__lt__" Builtin.«int.__lt__» := ⟨F.slot_int_lt, F.entry_int_lt, F.args_int_lt_2, fun _ _ => PySem.TPX.dec_lt⟩
theorem Dle (y C dy : Addr) : PySem.TPX.Dec y C dy (cmpInfo .LtE).2.1 "int.__le__" Builtin.«int.__le__» := ⟨F.slot_int_le, F.entry_int_le, F.args_int_le_2, fun _ _ => PySem.TPX.dec_le⟩
theorem Dgt (y C dy : Addr) : PySem.TPX.Dec y C dy (cmpInfo .Gt).2.1 "int.__gt__" Builtin.«int.__gt__» := ⟨F.slot_int_gt, F.entry_int_gt, F.args_int_gt_2, fun _ _ => PySem.TPX.dec_gt⟩
theorem Dge (y C dy : Addr) : PySem.TPX.Dec y C dy (cmpInfo .GtE).2.1 "int.__ge__" Builtin.«int.__ge__» := ⟨F.slot_int_ge, F.entry_int_ge, F.args_int_ge_2, fun _ _ => PySem.TPX.dec_ge⟩
end
end L2.TP

/-! Layer F: odds and ends: bindings with defaults, powers of great numbers, isinstance beside an own class, growing heaps, the pot of draws. -/
namespace L2.TP
open PySem PySem.Spec PyProof.Rows
theorem cls_some {K : PySem.W.Frag} {C : Addr} (h : PySem.W.hasDictIn K C = true) : (PySem.W.clsIn K C).isSome = true := by
  obtain ⟨cd, hc, _⟩ := PySem.W.any_some h
  rw [hc]
  rfl
theorem EXM {K : PySem.W.Frag} {C : Addr} {cls : Value} {b : Bool} (h1 : PySem.W.subIn K (.ref C) (.type "BaseException") = some true) (hd : PySem.W.hasDictIn K C = true) (ht : PySem.W.typeIn K (.ref C) = some (.type "type")) (h4 : PySem.W.subIn K cls (.ref C) = some b) : PySem.W.exmOne K cls (.ref C) = some b :=
  PySem.W.exm_ref h1 hd ht h4
/-- every parameter is given, though there are defaults -/
theorem binds_ks {K : PySem.W.Frag} {fd : FuncData} {ps : List Str} {T : Addr} {o : Obj} {its : List Value} {n : Nat} (lT : K.lookup T = some o) (oT : o.data = .seq its.toArray n)
    (h : ∀ us : List Value, us.length = ps.length → ∃ k, bindArgs fd ⟨us, []⟩ = seqItems? (.ref T) >>= k ∧ k (some its.toArray) = pure (ps.zip us)) : Binds K fd ps [] := fun s us X hl => by
  rw [List.append_nil] at hl ⊢
  obtain ⟨k, e1, e2⟩ := h us hl
  refine BindsTo.of_looks fun M => ?_
  rw [e1]
  exact looks_items X lT oT (.of_pure e2)
/-- isinstance(x, C), by the class of x -/
theorem kit_ref {K : PySem.W.Frag} {C : Addr} {t : Value} {b : Bool} (h : (PySem.W.clsIn K C).isSome = true ∧ PySem.W.typeIn K (.ref C) = some (.type "type")) (hs : PySem.W.subIn K t (.ref C) = some b) (hb : t = .ref C → b = true) : PySem.W.kitOne K t (.ref C) = some b := by
  unfold PySem.W.kitOne PySem.W.kitCls
  by_cases e : t = .ref C
  · rw [if_pos (by rw [e]; exact beq_self_eq_true _), hb e]
  · rw [if_neg (by simpa using e)]
    dsimp only
    rw [if_pos (by rw [h.1, h.2]; rfl)]
    exact hs
section
variable {X : Cx}
def CPowW (i j : Int) : Prop := 0 ≤ j ∧ (Builtin.Int.intBits i : Int) * j ≤ 2 ^ 27
theorem op_powW : OpR X (binaryOp .Pow) (rI CPowW fun i j => .int (i ^ j.toNat)) := opI fun _ _ _ _ _ _ _ hc q => pow_int hc.1 hc.2 q

theorem op_sign {CX : CXT} {k : Nat} {C f fr : Addr} {fd fdr : FuncData} {sp spr : Sp} {p1 p2 q1 q2 : Str} {E : XK} {op : Operator} {id : String} {B : Builtin} {n1 n2 : Str} (e1 : PySem.dunder op.info.2 = n1) (e2 : dunderR op.info.2 = n2) (N : NumC X.K C) (S : SlotF X.K C n1 f) (R : SlotF X.K C n2 fr)
    (t1 : ∃ fo, PySem.W.findIn X.K (.type "int") n1 = some fo) (t2 : ∃ ro, PySem.W.findIn X.K (.type "int") n2 = some ro) (hfT : fillsNumberSlot (.type "int") op.info.2 = pure true)
    (D : ∀ y dy, PySem.TPX.Dec y C dy (PySem.dunder op.info.2) id B)
    (F : FnOk X.prog X.w X.K X.mg X.base CX k f fd [p1, p2] sp) (FR : FnOk X.prog X.w X.K X.mg X.base CX k fr fdr [q1, q2] spr)
    (hr : Room k X.A) (hb : Binds X.K fd [p1, p2] []) (hbr : Binds X.K fdr [q1, q2] []) (hx : Passes CX X E) : OpR X (binaryOp op) (rOwnB C sp spr E) := by
  subst e1 e2
  obtain ⟨_, t1⟩ := t1
  obtain ⟨_, t2⟩ := t2
  exact op_ownB N S R t1 t2 hfT D F FR hr hb hbr hx
end
/-! ### growing heaps -/
theorem ext_upd {H : Hp} {p : Addr} {o : HO} (h : H p = none) : Ext H (upd H p o) := Ext.upd h
theorem ext_none {H H' : Hp} {p : Addr} (e : Ext H H') (h : H' p = none) : H p = none := by
  cases q : H p with
  | none => rfl
  | some o =>
    rw [e _ _ q] at h
    cases h
theorem ext_over {G H : Hp} {p : Addr} {o : HO} (e : Ext G H) (h : G p = none) : Ext G (upd H p o) := fun a u q => by
  have z : a ≠ p := fun z => by
    rw [z, h] at q
    cases q
  rw [upd_ne z]
  exact e _ _ q
theorem ext_both {G H : Hp} {p : Addr} {o : HO} (e : Ext G H) : Ext (upd G p o) (upd H p o) := fun a u q => by
  by_cases z : a = p
  · subst z
    rw [upd_same] at q ⊢
    exact q
  · rw [upd_ne z] at q ⊢
    exact e _ _ q
theorem ext_new {H H' : Hp} {x dx : Addr} {o u : HO} (e : Ext H H') (h1 : H x = none) (h2 : H dx = none) : Ext H (upd (upd H' dx o) x u) := ext_over (ext_over e h2) h1

/-! ### the pot of draws: a list of three ints -/
structure Pot (H : Hp) (p : Addr) (n : Nat) : Prop where
  at_ : ∃ a b c : Int, H p = some (.lst [.int a, .int b, .int c]) ∧ 0 ≤ a ∧ 0 ≤ b ∧ b < 2305843009213693952 ∧ 0 ≤ c ∧ c ≤ n
/-- the known part G, the pot beside it -/
structure WP (G : Hp) (p : Addr) (n : Nat) (H : Hp) : Prop where
  ext : Ext G H
  no : G p = none
  pot : Pot H p n
theorem WP.mono {G H : Hp} {p : Addr} {n m : Nat} (w : WP G p n H) (h : n ≤ m) : WP G p m H := by
  obtain ⟨a, b, c, e, h1, h2, h3, h4, h5⟩ := w.pot.at_
  exact ⟨w.ext, w.no, ⟨a, b, c, e, h1, h2, h3, h4, by omega⟩⟩
theorem WP.grow {G H H' : Hp} {p : Addr} {n : Nat} (w : WP G p n H) (e : Ext H H') : WP G p n H' := by
  obtain ⟨a, b, c, q, h⟩ := w.pot.at_
  exact ⟨w.ext.trans e, w.no, ⟨a, b, c, e _ _ q, h⟩⟩
/-- what is new may be known from now on -/
theorem WP.new {G H : Hp} {p x : Addr} {o : HO} {n : Nat} (w : WP G p n H) (h : H x = none) : WP (upd G x o) p n (upd H x o) := by
  obtain ⟨a, b, c, q, h2⟩ := w.pot.at_
  have ne : p ≠ x := ne_of_none q h
  exact ⟨ext_both w.ext, by rw [upd_ne ne]; exact w.no, ⟨a, b, c, by rw [upd_ne ne]; exact q, h2⟩⟩
theorem WP.ne {G H : Hp} {p x : Addr} {n : Nat} (w : WP G p n H) (h : H x = none) : p ≠ x := by
  obtain ⟨a, b, c, q, h2⟩ := w.pot.at_
  exact ne_of_none q h
/-- all of H but the pot may be known -/
def butP (H : Hp) (p : Addr) : Hp := fun b => if b = p then none else H b
theorem butP_ext {H : Hp} {p : Addr} : Ext (butP H p) H := fun a o e => by
  unfold butP at e
  split at e
  · cases e
  · exact e
theorem WP.all {G H : Hp} {p : Addr} {n : Nat} (w : WP G p n H) : WP (butP H p) p n H ∧ Ext G (butP H p) := by
  refine ⟨⟨butP_ext, if_pos rfl, w.pot⟩, fun a o e => ?_⟩
  have z : a ≠ p := fun z => by
    rw [z, w.no] at e
    cases e
  show (if a = p then none else H a) = some o
  rw [if_neg z]
  exact w.ext _ _ e
/-- a draw -/
def spTake : Sp := fun vs H Q _ => ∃ (G : Hp) (p : Addr) (n : Nat) (m : Int), vs = [.ref p, .int m] ∧ WP G p n H ∧ n ≤ 100000 ∧ 0 < m ∧ m ≤ 100000 ∧
  ∀ (r : Int) (H' : Hp), 0 ≤ r → r < m → WP G p (n + 1) H' → Q (.int r) H'
end L2.TP

/-! Layer G: data that is small enough to be shown. -/
namespace L2.TP
open PySem PySem.Spec PyProof.Rows
structure Sm (k w : Nat) (d : PyData) : Prop where
  dep : d.depth ≤ k
  wt : d.weight ≤ w
  short : d.leavesShort 13 = true
  shw : d.showable = true
structure SmA (k w : Nat) (ds : List PyData) : Prop where
  dep : PyData.depthAll ds ≤ k
  wt : PyData.weightAll ds ≤ w
  short : PyData.leavesShortAll 13 ds = true
  shw : PyData.showableAll ds = true
theorem Sm.mono {k k' w w' : Nat} {d : PyData} (h : Sm k w d) (hk : k ≤ k') (hw : w ≤ w') : Sm k' w' d := ⟨Nat.le_trans h.dep hk, Nat.le_trans h.wt hw, h.short, h.shw⟩
theorem SmA.mono {k k' w w' : Nat} {d : List PyData} (h : SmA k w d) (hk : k ≤ k') (hw : w ≤ w') : SmA k' w' d := ⟨Nat.le_trans h.dep hk, Nat.le_trans h.wt hw, h.short, h.shw⟩
theorem SmA.nil {k w : Nat} : SmA k w [] := ⟨Nat.zero_le _, Nat.zero_le _, rfl, rfl⟩
theorem SmA.cons {k w w' : Nat} {d : PyData} {ds : List PyData} (h : Sm k w d) (t : SmA k w' ds) : SmA k (w + 1 + w') (d :: ds) := by
  obtain ⟨a1, a2, a3, a4⟩ := h
  obtain ⟨b1, b2, b3, b4⟩ := t
  refine ⟨?_, ?_, ?_, ?_⟩
  · show max d.depth (PyData.depthAll ds) ≤ k
    omega
  · show d.weight + 1 + PyData.weightAll ds ≤ _
    omega
  · show (d.leavesShort 13 && PyData.leavesShortAll 13 ds) = true
    rw [a3, b3]
    rfl
  · show (d.showable && PyData.showableAll ds) = true
    rw [a4, b4]
    rfl
theorem Sm.tup {k w : Nat} {ds : List PyData} (h : SmA k w ds) : Sm (k + 1) w (.tuple ds) := ⟨by show PyData.depthAll ds + 1 ≤ _; have := h.dep; omega, h.wt, h.short, h.shw⟩
theorem Sm.lst {k w : Nat} {ds : List PyData} (h : SmA k w ds) : Sm (k + 1) w (.list ds) := ⟨by show PyData.depthAll ds + 1 ≤ _; have := h.dep; omega, h.wt, h.short, h.shw⟩
theorem Sm.non {k w : Nat} : Sm k w .none := ⟨Nat.zero_le _, Nat.zero_le _, rfl, rfl⟩
theorem Sm.bl {k w : Nat} (b : Bool) : Sm k w (.bool b) := ⟨Nat.zero_le _, Nat.zero_le _, rfl, rfl⟩
theorem log_lt {i : Int} {k : Nat} (h : i.natAbs < 2 ^ k) (hk : 0 < k) : i.natAbs.log2 < k := by
  by_cases z : i.natAbs = 0
  · rw [z]
    exact hk
  · exact (Nat.log2_lt z).mpr h
theorem Sm.int {k : Nat} {i : Int} (h : i.natAbs < 10 ^ 12) : Sm k 41 (.int i) := by
  have h2 : i.natAbs < 2 ^ 40 := Nat.lt_trans h (by decide)
  have h3 := log_lt h2 (by decide)
  refine ⟨Nat.zero_le _, ?_, ?_, ?_⟩
  · show (if i == 0 then 0 else i.natAbs.log2 + 1) ≤ 41
    split <;> omega
  · exact decide_eq_true (PyData.shown_int_le h)
  · exact decide_eq_true (by omega : i.natAbs.log2 < 1920)
theorem Sm.d40 {d : PyData} {k w : Nat} (s : Sm k w d) (hk : k ≤ 40 := by decide) : d.depth ≤ 40 := Nat.le_trans s.dep hk
theorem Sm.len {d : PyData} {k w : Nat} (s : Sm k w d) (hw : w ≤ 1000000 := by decide) : d.shown.length ≤ sizeLine := PyData.shown_fits (by decide) (by decide) s.short (Nat.le_trans (Nat.le_trans s.wt hw) (by decide))
/-- what repr asks -/
theorem rRepr_of {K : PySem.W.Frag} {H : Hp} {v : V} {d : PyData} {Q : VK} {k w : Nat} (h : Dp K H v d) (s : Sm k w d) (hk : k ≤ 40) (hw : w ≤ 1000000) (q : Q (.str d.shown) H) : rRepr K [v] H Q :=
  ⟨v, d, rfl, h, s.shw, Nat.le_trans s.dep hk, PyData.shown_fits (by decide) (by decide) s.short (Nat.le_trans (Nat.le_trans s.wt hw) (by decide)), q⟩
end L2.TP

/-! Layer H: an own class's x[i], x[i] = v, x op= y, len(x); starred items of a tuple's display. -/
namespace L2.TP
open PySem PySem.Spec PyProof.Rows
section
variable {X : Cx} {CX : CXT} {k : Nat} {C f : Addr} {fd : FuncData} {ps : List Str} {sp : Sp} {E : St → XK} {a b o i e : Expr} {ta tb to ti te : TE} {pos : Pos}

/-- a call, one level deeper -/
theorem run_in1 {pins : List (Addr × Obj)} {σ : St} {H : Hp} {s : Shared} {Q : VK} {us : List Value} {vs : List V} (F : FnOk X.prog X.w X.K X.mg X.base CX k f fd ps sp) (hr : Room (k + 1) X.A) (hb : Binds X.K fd ps []) (hx : PassesAt CX X σ (E σ))
    (I : Inv X pins σ H s) (r : Vals vs us) (h : sp vs H Q (E σ)) : wpAny (model X.prog X.w) X.A.in1 (call (.ref f) us) (EP X pins σ Q) X.xe s := by
  have hl : us.length = ps.length := by rw [← r.length]; exact F.len _ _ _ _ h
  have b := hb s us I.kIn (by rw [List.append_nil]; exact hl)
  rw [List.append_nil] at b
  refine wpAny_call (codeAny_mono (F.run X.A.in1 X.stack s H ⟨us, []⟩ us vs Q (E σ) hr.in1 I.env0.in1 b r h) fun r s' hq => ?_)
  cases r with
  | error e => exact hx pins H s e s' I hq
  | ok fl =>
    cases fl with
    | ret u => exact I.after hq
    | next => exact False.elim hq
    | brk => exact False.elim hq
    | cont => exact False.elim hq

/-- a[b], by the own class at C -/
def tGetK (C : Addr) (sp : Sp) (E : St → XK) (ta tb : TE) : TE := fun σ H Q => ta σ H fun x H1 => tb σ H1 fun y H2 => ∃ a dx fs, x = .ref a ∧ H2 a = some (.ins C dx fs) ∧ sp [x, y] H2 Q (E σ)
theorem pe_getK (S : SlotF X.K C "__getitem__" f) (hf : PySem.W.fnIn X.K f = true) (F : FnOk X.prog X.w X.K X.mg X.base CX k f fd ps sp) (hr : Room (k + 1) X.A) (hb : Binds X.K fd ps []) (hx : ∀ σ, PassesAt CX X σ (E σ))
    (h1 : PE X a ta) (h2 : PE X b tb) (hs : ∀ (x : Addr) (i : Value), subscripted b true (.ref x) i = runValue (.builtin "lifetime.subscript" ⟨[.ref x, i], []⟩) := by intros; rfl) : PE X (.Subscript a b pos) (tGetK C sp E ta tb) := by
  refine ⟨fun pins s σ H Q I h => ?_⟩
  refine Subscript_ (thn (h1.run pins s σ H _ I h) fun v s1 ⟨x, H1, I1, rx, q1⟩ => thn (h2.run pins s1 σ H1 _ I1 q1) fun u s2 ⟨y, H2, I2, ry, q2⟩ => ?_)
  obtain ⟨x0, dx, fs, rfl, ea, q⟩ := q2
  cases rx
  obtain ⟨m, Fm⟩ := I2.fr
  obtain ⟨od, J⟩ := inst_of I2 ea
  exact PySem.W.sub_K Fm I2.ok.mod.kin J S.at_ hf S.fn (run_in1 (vs := [.ref x0, y]) F hr hb (hx σ) I2 (.cons rfl (.cons ry .nil)) q) (hs _ _)

/-- o[i] = v, by the own class at C -/
def gSubK (C : Addr) (sp : Sp) (E : St → XK) (to ti : TE) : TG := fun v σ H Q => to σ H fun o H1 => ti σ H1 fun i H2 => ∃ a dx fs, o = .ref a ∧ H2 a = some (.ins C dx fs) ∧ sp [o, i, v] H2 (fun _ H3 => Q σ H3) (E σ)
theorem pg_subK (S : SlotF X.K C "__setitem__" f) (hq : PySem.W.noSeq X.K C = true) (F : FnOk X.prog X.w X.K X.mg X.base CX k f fd ps sp) (hr : Room k X.A) (hb : Binds X.K fd ps []) (hx : ∀ σ, PassesAt CX X σ (E σ)) (ho : PE X o to) (hi : PE X i ti)
    (ha : ∀ v, assign (.Subscript o i pos) X.env v = (holding [v] (eval o X.env) >>= fun ov => holding [v, ov] (eval i X.env) >>= fun iv => standAt pos >>= fun _ => holding [v, ov, iv] (setItem ov iv v) >>= fun _ => release [v, ov, iv] []) := by intro _; rfl) :
    PG X (.Subscript o i pos) (gSubK C sp E to ti) := by
  refine ⟨fun pins s σ H v u Q I r h => ?_⟩
  rw [ha]
  refine wpAny_bind (wpAny_holding (thn (ho.run pins s σ H _ I h) fun ov s1 ⟨x, H1, I1, r1, q1⟩ => ?_))
  refine wpAny_bind (wpAny_holding (thn (hi.run pins s1 σ H1 _ I1 q1) fun iv s2 ⟨y, H2, I2, r2, q2⟩ => ?_))
  obtain ⟨x0, dx, fs, rfl, ea, q⟩ := q2
  cases r1
  obtain ⟨m, Fm⟩ := I2.fr
  obtain ⟨od, J⟩ := inst_of I2 ea
  refine wpAny_bind (wpAny_standAt (wpAny_bind (wpAny_holding ?_)))
  refine PySem.W.ksp_setItem Fm I2.ok.mod.kin J hq S.at_ S.fn ?_
  exact thn (run_fnS (vs := [.ref x0, y, v]) F hr hb (hx σ) I2 (.cons rfl (.cons r2 (.cons r .nil))) q) fun _ s3 ⟨_, H3, I3, _, q3⟩ => wpAny_release ⟨σ, H3, I3, q3⟩

/-- name op= e, by the own class at C -/
def tAugK (C : Addr) (sp : Sp) (E : St → XK) (i : Nat) (te : TE) : TS := fun D σ H => ∃ x, σ[i]? = some (some x) ∧ te σ H fun y H1 => ∃ a dx fs, x = .ref a ∧ H1 a = some (.ins C dx fs) ∧ sp [x, y] H1 (fun z H2 => D.nx (σ.set i (some z)) H2) (E σ)
theorem ps_augK {n : Nat} {x : Str} {op : Operator} {pos' : Pos} (hN : X.N.Nodup) (hi : X.N[n]? = some x) (hx : X.env.scope.names.lookup x = some .local) (hc : PySem.W.selfFirst X.K C = true) (S : SlotF X.K C (dunderI op.info.2) f)
    (F : FnOk X.prog X.w X.K X.mg X.base CX k f fd ps sp) (hr : Room k X.A) (hb : Binds X.K fd ps []) (hp : ∀ σ, PassesAt CX X σ (E σ)) (he : PE X e te) : PS X (.AugAssign (.Name x pos') op e pos) (tAugK C sp E n te) := by
  refine ⟨fun pins s σ H D I h => ?_⟩
  obtain ⟨v, e1, h⟩ := h
  obtain ⟨m, hn, hl⟩ := I.loc
  obtain ⟨u, r, l⟩ := hl n x v hi e1 (.inl hx)
  refine wpAny_AugAssign_Name ?_
  have go : wpAny (model X.prog X.w) X.A (eval e X.env) (fun w s₂ => wpAny (model X.prog X.w) X.A (inplaceOp op u w) (fun r s₃ => wpAny (model X.prog X.w) X.A (storeName X.env x r) (fun _ => SP X pins D .next) X.xe s₃) X.xe s₂) X.xe s := by
    refine thn (he.run pins s σ H _ I h) fun w s1 ⟨y, H1, I1, r1, q1⟩ => ?_
    obtain ⟨x0, dx, fs, rfl, ea, q⟩ := q1
    cases r
    obtain ⟨m, Fm⟩ := I1.fr
    obtain ⟨od, J⟩ := inst_of I1 ea
    refine PySem.W.ksp_inplace Fm I1.ok.mod.kin J hc S.at_ S.fn ?_
    refine thn (run_fnS (vs := [.ref x0, y]) F hr hb (hp σ) I1 (.cons rfl (.cons r1 .nil)) q) fun z s2 ⟨zv, H2, I2, r2, q2⟩ => ?_
    exact backV r2 (store_ok I2 hN hi (.inl hx) r2 (fun s3 I3 => ⟨_, H2, I3, q2⟩) (.inr hx))
  rcases l with ⟨hk, hm⟩ | ⟨hk, c, hc', hcell⟩
  · exact wpAny_loadName_local I.ok.kind hk hn hm go
  · exfalso
    rcases hk with hk | hk
    · have : X.env.scope.names.lookup x = some .cell := hk
      rw [hx] at this
      cases this
    · have : X.env.scope.names.lookup x = some .free := hk
      rw [hx] at this
      cases this

/-- len of an own class's instance -/
def rLenK (C : Addr) (sp : Sp) : List V → Hp → VK → Prop := fun xs H Q => ∃ a dx fs, xs = [.ref a] ∧ H a = some (.ins C dx fs) ∧ sp [.ref a] H (fun v H' => ∃ n : Int, v = .int n ∧ 0 ≤ n ∧ n < 2 ^ 63 ∧ Q (.int n) H') E0
theorem call_lenK (S : SlotF X.K C "__len__" f) (F : FnOk X.prog X.w X.K X.mg X.base CX0 k f fd ps sp) (hr : Room (k + 1) X.A) (hb : Binds X.K fd ps []) : CallR X (.builtin "len") (rLenK C sp) := by
  intro pins s σ H xs us Q I r h
  obtain ⟨a, dx, fs, rfl, ea, q⟩ := h
  cases r with
  | cons r rr =>
    cases rr
    cases r
    obtain ⟨m, Fm⟩ := I.fr
    obtain ⟨od, J⟩ := inst_of I ea
    refine PySem.W.len_K Fm I.ok.mod.kin J S.at_ S.fn ?_
    refine thn (run_in1 (vs := [.ref a]) (E := fun _ => E0) F hr hb (fun _ _ _ _ _ _ z => z.elim) I (.cons rfl .nil) q) fun v s2 ⟨zv, H2, I2, r2, n, e2, n0, n1, q2⟩ => ?_
    subst e2
    obtain ⟨t, rfl⟩ := r2
    exact ⟨⟨n0, n1⟩, .int n, H2, I2.tok _, ⟨_, rfl⟩, q2⟩

/-- *e ahead of more items, e a tuple -/
def tStar (K : PySem.W.Frag) (te : TE) (t : TA) : TA := fun σ H Q => te σ H fun x H1 => ∃ a ys, x = .ref a ∧ SqT K H1 a ys ∧ t σ H1 fun xs H2 => Q (ys ++ xs) H2
theorem pa_star {es : List Expr} {t : TA} {p : Pos} (ha : PE X e te) (hr : PA X es t) : PA X (.Starred e p :: es) (tStar X.K te t) := by
  refine ⟨fun pos pins s σ H Q I h => ?_⟩
  show wpAny _ _ (spliced ((true, (do let v ← eval e X.env; standAt pos; pure v)) :: backTo pos (starEach es X.env))) _ _ s
  refine PySem.W.ks_spliced (thn (ha.run pins s σ H _ I h) fun u s1 ⟨x, H1, I1, r1, q1⟩ => ?_)
  obtain ⟨a, ys, rfl, hy, q⟩ := q1
  cases r1
  refine star_tup I1 hy fun us s2 I2 rv => ?_
  exact thn (hr.run pos pins s2 σ H1 _ I2 q) fun vs s3 ⟨xs, H2, I3, r3, q3⟩ => ⟨ys ++ xs, H2, I3, rv.append r3, q3⟩
end
end L2.TP

/-! Layer I: data with dicts within: how it stands on the heap, that it is kept, repr of it. -/
namespace L2.TP
open PySem PySem.Spec PyProof.Rows
def kD : Key → PyData
  | .inl i => .int i
  | .inr x => .str x
mutual
inductive Dq (H : Hp) : V → PyData → Prop
  | non : Dq H .non .none
  | bl (b : Bool) : Dq H (.bl b) (.bool b)
  | int (i : Int) : Dq H (.int i) (.int i)
  | str (x : Str) : Dq H (.str x) (.str x)
  | lst {a : Addr} {xs : List V} {ds : List PyData} (h : H a = some (.lst xs)) (t : DqAll H xs ds) : Dq H (.ref a) (.list ds)
  | tup {a : Addr} {xs : List V} {ds : List PyData} (h : H a = some (.tup xs)) (t : DqAll H xs ds) : Dq H (.ref a) (.tuple ds)
  | dct {a : Addr} {kvs : List (Key × V)} {ds : List (PyData × PyData)} (h : H a = some (.dK kvs)) (t : DqKv H kvs ds) : Dq H (.ref a) (.dict ds)
inductive DqAll (H : Hp) : List V → List PyData → Prop
  | nil : DqAll H [] []
  | cons {v : V} {vs : List V} {d : PyData} {ds : List PyData} (h : Dq H v d) (t : DqAll H vs ds) : DqAll H (v :: vs) (d :: ds)
inductive DqKv (H : Hp) : List (Key × V) → List (PyData × PyData) → Prop
  | nil : DqKv H [] []
  | cons {k : Key} {v : V} {vs : List (Key × V)} {d : PyData} {ds : List (PyData × PyData)} (h : Dq H v d) (t : DqKv H vs ds) : DqKv H ((k, v) :: vs) ((kD k, d) :: ds)
end
section
variable {H H' : Hp}
mutual
theorem Dq.ext (e : Ext H H') : ∀ {v : V} {d : PyData}, Dq H v d → Dq H' v d
  | _, _, .non => .non
  | _, _, .bl b => .bl b
  | _, _, .int i => .int i
  | _, _, .str x => .str x
  | _, _, .lst h t => .lst (e _ _ h) (DqAll.ext e t)
  | _, _, .tup h t => .tup (e _ _ h) (DqAll.ext e t)
  | _, _, .dct h t => .dct (e _ _ h) (DqKv.ext e t)
theorem DqAll.ext (e : Ext H H') : ∀ {v : List V} {d : List PyData}, DqAll H v d → DqAll H' v d
  | _, _, .nil => .nil
  | _, _, .cons h t => .cons (Dq.ext e h) (DqAll.ext e t)
theorem DqKv.ext (e : Ext H H') : ∀ {v : List (Key × V)} {d : List (PyData × PyData)}, DqKv H v d → DqKv H' v d
  | _, _, .nil => .nil
  | _, _, .cons h t => .cons (Dq.ext e h) (DqKv.ext e t)
end
end
/-- what is tracked at the address of the table of modules -/
def smF (o : Obj) : HO := .frz o (.own sysModules)
def SmH (H : Hp) : Prop := ∃ o, H sysModules = some (smF o)
theorem SmH.ext {H H' : Hp} (h : SmH H) (e : Ext H H') : SmH H' := by
  obtain ⟨o, q⟩ := h
  exact ⟨o, e _ _ q⟩
section
variable {X : Cx} {pins : List (Addr × Obj)} {σ : St} {H : Hp} {s : Shared}
theorem pairs_rd {es : List DictEntry} {kvs : List (Key × Value)} (p : Pairs (mixKind X.prog X.w) es kvs) : ReadsAll s.heap (es.map (·.key)) (kvs.map fun q => kD q.1) [] := by
  induction p with
  | nil => exact .nil
  | @cons e kv es kvs h1 h2 _ ih =>
    have z : Reads s.heap e.key (kD kv.1) [] := by
      have h1 : keyIs kv.1 e.key = true := h1
      rcases keyIs_shape h1 with ⟨i, t, e1, e2⟩ | ⟨x, t, e1, e2⟩
      · rw [e1, e2]
        exact .int _ _
      · rw [e1, e2]
        exact .str _ _
    exact .cons (as := []) (bs := []) z ih
theorem pairs_vals {es : List DictEntry} {kvs : List (Key × Value)} (p : Pairs (mixKind X.prog X.w) es kvs) : es.map (·.val) = kvs.map (·.2) := by
  induction p with
  | nil => rfl
  | cons _ h2 _ ih => simp only [List.map_cons, h2, ih]
theorem DqKv.keys {kvs : List (Key × V)} {ds : List (PyData × PyData)} (h : DqKv H kvs ds) : ds.map (·.1) = kvs.map fun q => kD q.1 := by
  induction kvs generalizing ds with
  | nil => cases h; rfl
  | cons p r ih =>
    cases h with
    | cons h t =>
      show _ :: _ = _ :: _
      rw [ih t]
theorem kv_keys {kvs : List (Key × V)} {vs : List (Key × Value)} (r : KV kvs vs) : vs.map (fun q => kD q.1) = kvs.map fun q => kD q.1 := by
  induction r with
  | nil => rfl
  | cons h _ ih => simp only [List.map_cons, h.1, ih]
mutual
theorem Dq.reads (I : Inv X pins σ H s) (hS : SmH H) : ∀ {v : V} {d : PyData}, Dq H v d → ∀ {u : Value}, RelV v u → ∃ as, Reads s.heap u d as ∧ sysModules ∉ as
  | _, _, .non, _, r => by
    cases r
    exact ⟨_, .none, by simp⟩
  | _, _, .bl b, _, r => by
    cases r
    exact ⟨_, .bool _, by simp⟩
  | _, _, .int i, _, r => by
    obtain ⟨t, rfl⟩ := r
    exact ⟨_, .int _ _, by simp⟩
  | _, _, .str x, _, r => by
    obtain ⟨t, rfl⟩ := r
    exact ⟨_, .str _ _, by simp⟩
  | _, _, .lst (a := a) h t, _, r => by
    cases r
    obtain ⟨z, its, n, rv, eo⟩ := I.hok _ _ h
    obtain ⟨as, rd, ns⟩ := DqAll.reads I hS t rv
    obtain ⟨oS, eS⟩ := hS
    have ne : sysModules ≠ a := fun c => by
      rw [← c, eS] at h
      cases h
    exact ⟨_, .list eo rfl rfl (by simpa using rd), by simp [ne, ns]⟩
  | _, _, .tup (a := a) h t, _, r => by
    cases r
    obtain ⟨z, its, rv, o, eo, hc, n, hd⟩ := I.hok _ _ h
    obtain ⟨as, rd, ns⟩ := DqAll.reads I hS t rv
    exact ⟨_, .tuple eo hc hd (by simpa using rd), ns⟩
  | _, _, .dct (a := a) (kvs := kvs) (ds := ds) h t, _, r => by
    cases r
    obtain ⟨z, hm, vs, rel, o, es, ep, eo, hx, hd, _, hp, _⟩ := I.hok _ _ h
    obtain ⟨bs, rd, ns⟩ := DqKv.reads I hS t rel
    have ne : sysModules ≠ a := fun c => by
      rw [← c] at hm
      simp at hm
    have kk : vs.map (fun q => kD q.1) = ds.map (·.1) := (kv_keys rel).trans t.keys.symm
    refine ⟨_, .dict (as := []) (bs := bs) eo hx.1 hd ?_ ?_, ?_⟩
    · rw [← kk]
      exact pairs_rd hp
    · rw [pairs_vals hp]
      exact rd
    · simp [ne, ns]
theorem DqAll.reads (I : Inv X pins σ H s) (hS : SmH H) : ∀ {v : List V} {d : List PyData}, DqAll H v d → ∀ {u : List Value}, Vals v u → ∃ as, ReadsAll s.heap u d as ∧ sysModules ∉ as
  | _, _, .nil, _, r => by
    cases r
    exact ⟨_, .nil, by simp⟩
  | _, _, .cons h t, _, r => by
    cases r with
    | cons r1 r2 =>
      obtain ⟨as, rd, ns⟩ := Dq.reads I hS h r1
      obtain ⟨bs, rd2, ns2⟩ := DqAll.reads I hS t r2
      exact ⟨_, .cons rd rd2, by simp [ns, ns2]⟩
theorem DqKv.reads (I : Inv X pins σ H s) (hS : SmH H) : ∀ {v : List (Key × V)} {d : List (PyData × PyData)}, DqKv H v d → ∀ {u : List (Key × Value)}, KV v u → ∃ as, ReadsAll s.heap (u.map (·.2)) (d.map (·.2)) as ∧ sysModules ∉ as
  | _, _, .nil, _, r => by
    cases r
    exact ⟨_, .nil, by simp⟩
  | _, _, .cons h t, _, r => by
    cases r with
    | cons r1 r2 =>
      obtain ⟨as, rd, ns⟩ := Dq.reads I hS h r1.2
      obtain ⟨bs, rd2, ns2⟩ := DqKv.reads I hS t r2
      exact ⟨_, .cons rd rd2, by simp [ns, ns2]⟩
end

/-- repr(x): x stands for the data d, dicts within -/
def rReprQ : List V → Hp → VK → Prop := fun xs H Q => ∃ v d, xs = [v] ∧ SmH H ∧ Dq H v d ∧ d.showable = true ∧ d.depth ≤ 40 ∧ d.shown.length ≤ sizeLine ∧ Q (.str d.shown) H
theorem call_reprQ (gA : X.A.guards = some []) {k : Nat} (hr : Room k X.A) : CallR X (.builtin "repr") rReprQ := by
  intro pins s σ H xs us Q I r h
  obtain ⟨v, d, rfl, hS, hd, sh, dep, sz, q⟩ := h
  obtain ⟨u, rfl, ru⟩ := vals1 r
  have room : X.A.units + (d.depth + 1) < cLine := by
    have := hr.un
    omega
  have main : ∀ a : Addr, u = .ref a → wpAny (model X.prog X.w) X.A (call (.builtin "repr") [u]) (EP X pins σ Q) X.xe s := fun a e => by
    subst e
    obtain ⟨as, rd, ns⟩ := Dq.reads I hS hd ru
    exact repr_of_reads' rd sh (fun _ => ns) gA room (fun _ _ e => e) (fun h' u tk hk => ⟨.str _, H, I.kept hk, ⟨_, rfl⟩, q⟩) sz
  cases hd with
  | non =>
    cases ru
    exact PySem.P.repr_of_none ⟨.str _, H, I.tok _, ⟨_, rfl⟩, q⟩
  | bl b =>
    cases ru
    exact PySem.P.repr_of_bool ⟨.str _, H, I.tok _, ⟨_, rfl⟩, q⟩
  | int i =>
    obtain ⟨t, rfl⟩ := ru
    exact PySem.P.repr_of_int (of_decide_eq_true sh) ⟨.str _, H, I.tok _, ⟨_, rfl⟩, q⟩
  | str x =>
    obtain ⟨t, rfl⟩ := ru
    exact PySem.P.repr_of_str ⟨.str _, H, I.tok _, ⟨_, rfl⟩, q⟩ sz
  | lst h t => exact main _ ru
  | tup h t => exact main _ ru
  | dct h t => exact main _ ru
end
/-- small data -/
structure Sd (k w : Nat) (d : PyData) : Prop where
  dep : d.depth ≤ k
  wt : d.weight ≤ w
  short : d.leavesShort 20 = true
  shw : d.showable = true
structure SdA (k w : Nat) (ds : List PyData) : Prop where
  dep : PyData.depthAll ds ≤ k
  wt : PyData.weightAll ds ≤ w
  short : PyData.leavesShortAll 20 ds = true
  shw : PyData.showableAll ds = true
theorem Sd.mono {k k' w w' : Nat} {d : PyData} (h : Sd k w d) (hk : k ≤ k') (hw : w ≤ w') : Sd k' w' d := ⟨Nat.le_trans h.dep hk, Nat.le_trans h.wt hw, h.short, h.shw⟩
theorem SdA.nil {k w : Nat} : SdA k w [] := ⟨Nat.zero_le _, Nat.zero_le _, rfl, rfl⟩
theorem SdA.cons {k w w' : Nat} {d : PyData} {ds : List PyData} (h : Sd k w d) (t : SdA k w' ds) : SdA k (w + 1 + w') (d :: ds) := by
  obtain ⟨a1, a2, a3, a4⟩ := h
  obtain ⟨b1, b2, b3, b4⟩ := t
  refine ⟨?_, ?_, ?_, ?_⟩
  · show max d.depth (PyData.depthAll ds) ≤ k
    omega
  · show d.weight + 1 + PyData.weightAll ds ≤ _
    omega
  · show (d.leavesShort 20 && PyData.leavesShortAll 20 ds) = true
    rw [a3, b3]
    rfl
  · show (d.showable && PyData.showableAll ds) = true
    rw [a4, b4]
    rfl
theorem Sd.tup {k w : Nat} {ds : List PyData} (h : SdA k w ds) : Sd (k + 1) w (.tuple ds) := ⟨by show PyData.depthAll ds + 1 ≤ _; have := h.dep; omega, h.wt, h.short, h.shw⟩
theorem Sd.lst {k w : Nat} {ds : List PyData} (h : SdA k w ds) : Sd (k + 1) w (.list ds) := ⟨by show PyData.depthAll ds + 1 ≤ _; have := h.dep; omega, h.wt, h.short, h.shw⟩
/-- a dict of one key -/
theorem Sd.dct1 {k w : Nat} {x : Str} {d : PyData} (h : Sd k w d) (hx : x.cps.toList.all (fun c => decide (c < 16 ^ 8)) = true) : Sd (k + 1) (x.cps.size + w + 2) (.dict [(.str x, d)]) := by
  obtain ⟨a1, a2, a3, a4⟩ := h
  refine ⟨?_, ?_, ?_, ?_⟩
  · show max (max 0 d.depth) 0 + 1 ≤ k + 1
    omega
  · show x.cps.size + d.weight + 2 + 0 ≤ _
    omega
  · show ((x.cps.toList.all fun c => decide (c < 16 ^ 8)) && d.leavesShort 20 && true) = true
    rw [hx, a3]
    rfl
  · show (true && d.showable && true) = true
    rw [a4]
    rfl
theorem Sd.d40 {d : PyData} {k w : Nat} (s : Sd k w d) (hk : k ≤ 40 := by decide) : d.depth ≤ 40 := Nat.le_trans s.dep hk
theorem Sd.len {d : PyData} {k w : Nat} (s : Sd k w d) (hw : w ≤ 100000 := by decide) : d.shown.length ≤ sizeLine := by
  have h := PyData.shown_le 20 (by decide) d s.short
  have := s.wt
  have e : (20 + 2) * d.weight ≤ 22 * 100000 := Nat.mul_le_mul (by decide) (by omega)
  rw [sizeLine_eq]
  omega
end L2.TP

/-! Layer J: an own exception that was caught and is kept as a value behind its clause. -/
namespace L2.TP
open PySem PySem.Spec PyProof.Rows
/-- an exception object of the class cls with the dict at d stands at a -/
def ExV (cls : Value) (d : Option Addr) (a : Addr) : HO := .ext fun h => ∃ (oe : Obj) (vs : Array Value), h.get? a = some oe ∧ Zc cls d oe ∧ oe.data = .fields vs
theorem exV_ok {P : Program} {w : World} {H : Hp} {h : Heap} {a : Addr} {cls : Value} {d : Option Addr} {oe : Obj} {vs : Array Value} (e : h.get? a = some oe) (z : Zc cls d oe) (hd : oe.data = .fields vs) : ObjOk P w H h a (ExV cls d a) :=
  ⟨⟨oe, vs, e, z, hd⟩, ⟨oe, e⟩, fun _ _ ⟨o, v, q, r⟩ k => ⟨o, v, k o q, r⟩⟩
section
variable {X : Cx} {pins : List (Addr × Obj)} {σ : St} {H : Hp} {s : Shared} {a : Addr} {o : HO}
/-- what stands there already is tracked from now on -/
theorem Inv.track (I : Inv X pins σ H s) (h0 : X.s_0.heap.get? a = none) (hn : H a = none) (new : ObjOk X.prog X.w (upd H a o) s.heap a o) (nL : a ≠ X.env.locals) (nC : ∀ x c, X.env.cells.lookup x = some c → c ≠ a) (nP : ∀ p ∈ X.pn ++ pins, p.1 ≠ a) : Inv X pins σ (upd H a o) s := by
  refine ⟨I.ok, I.os, I.bare, ⟨I.base.keep, I.base.slot, fun b u q n x => ?_, I.base.there, fun b xs q => ?_, fun b u xs q => ?_, fun b ps q => ?_⟩, I.loc, I.cell, ?_, fun x c e => ?_, fun p hp => ?_, fun b u e => ?_, I.len⟩
  · have ne : b ≠ a := fun z => by
      rw [z, h0] at q
      cases q
    rw [upd_ne ne]
    exact I.base.free b u q n x
  · have z := I.base.tups b xs q
    exact (upd_ne (ne_of_none z hn)).trans z
  · have z := I.base.frzs b u xs q
    exact (upd_ne (ne_of_none z hn)).trans z
  · obtain ⟨m, z⟩ := I.base.tbls b ps q
    exact ⟨m, (upd_ne (ne_of_none z hn)).trans z⟩
  · rw [upd_ne (Ne.symm nL)]
    exact I.free
  · rw [upd_ne (nC x c e)]
    exact I.freeC x c e
  · obtain ⟨p1, p2, p3⟩ := I.pin p hp
    exact ⟨p1, by rw [upd_ne (nP p hp)]; exact p2, p3⟩
  · by_cases c : b = a
    · subst c
      rw [upd_same] at e
      cases e
      exact new
    · rw [upd_ne c] at e
      refine (I.hok b u e).stay (fun _ _ _ q => q) (fun x q => ?_) fun x xs q => ?_
      · rw [upd_ne (ne_of_none q hn)]
        exact q
      · rw [upd_ne (ne_of_none q hn)]
        exact q
end
/-- what the clause wishes: behind it the exception is tracked -/
def wKeep (K : PySem.W.Frag) (c : Value) (i : Nat) (ts : Addr → Value → Option Addr → TS) (Wout : WX) (D : Ends) : WX := fun cls d σ H =>
  ∃ b, PySem.W.exmOne K cls c = some b ∧ (b = true → ∀ a, H a = none → ts a cls d { nx := fun σ' H' => H' a = none → D.nx (σ'.set i none) (upd H' a (ExV cls d a)), rt := fun _ _ => False, bk := fun _ _ => False, ct := fun _ _ => False } (σ.set i (some (.ref a))) H) ∧
    (b = false → Wout cls d σ H)
section
variable {X : Cx} {x n : Str} {c : Value} {i : Nat} {body suite : List Stmt} {b0 : Stmt} {np pos pos' : Pos} {tb : WX → TS} {ts : Addr → Value → Option Addr → TS} {Wout : WX}
theorem ps_try_keep (hs : X.stack = X.env :: X.outer) (hf : X.env.frame = some X.env.locals) (hN : X.N.Nodup) (hi : X.N[i]? = some n) (hln : X.env.kindOf n = some .local) (hex : X.ex = []) (hc : Names X x c) (tk : Takes X Wout)
    (hb : ∀ (W : WX) (pn : List (Addr × Obj)) (xe : Value → Shared → Prop), Takes (X.tr pn xe) W → PassesOwn (model X.prog X.w) X.A X.env xe → PSs (X.tr pn xe) body (tb W))
    (hsu : ∀ (a : Addr) (oe : Obj) (cls : Value) (d : Option Addr) (pn : List (Addr × Obj)), Zc cls d oe → (∃ vs, oe.data = .fields vs) → PSs (X.suite a ((a, oe) :: pn)) (b0 :: suite) (ts a cls d)) :
    PS X (.Try body [.ExceptHandler (some (.Name x np)) (some n) (b0 :: suite) pos'] [] [] pos) (fun D σ H => tb (wKeep X.K c i ts Wout D) D σ H) := by
  refine ⟨fun pins s σ H D I h => ?_⟩
  have ok := I.ok
  have frA : X.A.frames = some (X.env :: X.outer) := by rw [ok.frames, hs]
  refine wpAny_Try_except ?_
  refine wpAny_mono ((hb (wKeep X.K c i ts Wout D) (X.pn ++ pins) (fun er s2 => wpAny (model X.prog X.w) X.A (noteFrame er X.env) (fun _ s3 => wpAny (model X.prog X.w) X.A (setFlight er none) (fun _ s4 =>
    wpAny (model X.prog X.w) X.A (handleBy er X.env [.ExceptHandler (some (.Name x np)) (some n) (b0 :: suite) pos']) (SP X pins D) X.xe s4) X.xe s3) X.xe s2) (fun u s' xx => ?_) PassesOwn.looking).run [] s σ H D (I.toTry _) h) (fun fl s1 hsp => ?_) (fun e s1 he => he)
  · obtain ⟨a, B, sI, pins', σ', H', cls, d, rfl, J', nb, up, sky, na, os, ag, b, hb1, hyes, hno⟩ := xx
    have J : Inv X pins σ' H' sI := J'.ofTry ok
    have sk : Sky B (X.env :: X.outer) a (Zc cls d) X.env.locals s'.heap := by rw [← hs]; exact sky
    show wpAny (model X.prog X.w) X.A (noteFrame (.ref a) X.env) _ _ _
    refine Sky.land Zc.steady frA hf sk fun hA flA upA => ?_
    have JA : Inv X pins σ' H' { s' with heap := hA } := J.landed nb flA.1 (up.trans upA) os ag
    obtain ⟨oA, vA, eA, zA, dA⟩ := flA.there
    have nfr : a ∉ frs (X.env :: X.outer) := fun hm => by
      obtain ⟨_, o', e', hnf⟩ := flA.2.2.1.mem hm
      rw [eA] at e'
      cases e'
      exact hnf _ dA
    have nL : a ≠ X.env.locals := fun z => nfr (List.mem_filterMap.mpr ⟨X.env, List.mem_cons_self, by rw [hf, z]⟩)
    have nF : a ∉ X.fs := fun hm => by
      obtain ⟨e, he, q⟩ := List.mem_filterMap.mp hm
      exact nfr (List.mem_filterMap.mpr ⟨e, List.mem_cons_of_mem _ he, q⟩)
    -- it is new
    have nI : ∀ q, sI.heap.get? a ≠ some q := fun q z => by
      have r := nb a q z (by rw [hs]; exact nfr)
      rw [flA.2.1] at r
      cases r
    have n0 : X.s_0.heap.get? a = none := by
      cases q : X.s_0.heap.get? a with
      | none => rfl
      | some o =>
        obtain ⟨o', z⟩ := J.base.there a o q (by rw [hex]; simp)
        exact (nI _ z).elim
    have SA := JA.suite eA dA na nL nF
    refine wpAny_handleBy_cons (codeAny_handlers_test ?_) (by intro q; cases q)
    have LT : PySem.W.Looks (model X.prog X.w) hA (typeOf (.ref a)) cls := fun A Q E s k q => wpAny_typeOf_ref (k _ _ eA) (by rw [zA.1]; exact q)
    have LM := PySem.W.exm_one (M := model X.prog X.w) (JA.kIn) LT hb1
    have test : ∀ {Q : Value → Shared → Prop} {E : Value → Shared → Prop}, Q c { s' with heap := hA } → wpAny (model X.prog X.w) (X.A.mark (some (.ref a))) (eval (.Name x np) X.env) Q E { s' with heap := hA } := fun {Q E} q => by
      obtain ⟨hg, hdbg, hm | ⟨hm, hv, hnn⟩⟩ := hc
      · exact ld_glob (X := X.suite a ((a, oA) :: (X.pn ++ pins))) SA hg hm q hdbg
      · exact ld_blt (X := X.suite a ((a, oA) :: (X.pn ++ pins))) SA hg hm hv q hnn hdbg
    refine test (LM.here ?_)
    cases b with
    | true =>
      refine codeAny_handlers_suite_as ?_
      refine HandSPX.lands_againZ flA fun hC flC upC => ?_
      have JC : Inv X pins σ' H' { s' with heap := hC } := J.landed nb flC.1 ((up.trans upA).trans upC) os ag
      obtain ⟨oC, vC, eC, zC, dC⟩ := flC.there
      have SC := JC.suite eC dC na nL nF
      refine store_ok (X := X.suite a ((a, oC) :: (X.pn ++ pins))) (v := .ref a) SC hN hi (.inl hln) rfl (fun s5 S5 => ?_) (.inr hln)
      refine wpAny_mono ((hsu a oC cls d (X.pn ++ pins) zC ⟨_, dC⟩).run [] s5 _ H' _ S5 (hyes rfl a na)) (fun fl s6 hsp => ?_) (fun _ _ z => False.elim z)
      cases fl with
      | next =>
        obtain ⟨σ6, H6, S6, q6⟩ := hsp
        obtain ⟨g6, n6, _⟩ := S6.pin (a, oC) (List.mem_append_left _ List.mem_cons_self)
        have J6 : Inv X pins σ6 H6 s6 := S6.unsuite ok
        have T6 : Inv X pins σ6 (upd H6 a (ExV cls d a)) s6 := by
          refine Inv.track J6 n0 n6 (exV_ok g6 zC dC) nL (fun y cc e z => ?_) fun p hp z => ?_
          · obtain ⟨v, o, ho, hd⟩ := J6.cell y cc e
            rw [z, g6] at ho
            cases ho
            rw [dC] at hd
            cases hd
          · obtain ⟨p1, _⟩ := J.pin p hp
            rw [z] at p1
            exact nI _ p1
        exact gone_ok T6 hN hi hln fun s7 J7 => ⟨_, _, J7, q6 n6⟩
      | brk =>
        obtain ⟨σ6, H6, S6, q6⟩ := hsp
        exact q6.elim
      | cont =>
        obtain ⟨σ6, H6, S6, q6⟩ := hsp
        exact q6.elim
      | ret u =>
        obtain ⟨v6, σ6, H6, S6, r6, q6⟩ := hsp
        exact q6.elim
    | false =>
      show wpAny _ X.A (handleBy (.ref a) X.env []) _ _ _
      refine wpAny_handleBy_nil ?_
      obtain ⟨k1, k2, k3, oe, vs, tr, oT, tS, he, hz, hd, h1, hr⟩ := id flA
      unfold PySem.passOn
      refine wpAny_bind (wpAny_field he hd h1 ?_)
      rw [if_neg (show ¬ ((Value.ref tr == Value.none) = true) from by simp)]
      have fin : wpAny (model X.prog X.w) X.A (setFlight (.ref a) X.env.frame) (fun _ sF => wpAny (model X.prog X.w) X.A (throw (.ref a) : Sem Flow) (SP X pins D) X.xe sF) X.xe { s' with heap := hA } := by
        rw [hf]
        refine HandSPX.setFlight_upZ flA fun hC hhC upC => wpAny_throw (tk _ _ ?_)
        exact ⟨a, B, sI, pins, σ', H', cls, d, rfl, J, nb, (up.trans upA).trans upC, .inr (.inr (by rw [hs]; exact hhC)), na, os, ag, hno rfl⟩
      first
        | exact wpAny_bind (wpAny_pure (wpAny_bind fin))
        | exact wpAny_bind fin
  · cases fl with
    | next =>
      obtain ⟨σ', H', J', q⟩ := hsp
      exact wpAny_execs_nil ⟨σ', H', J'.ofTry ok, q⟩
    | brk =>
      obtain ⟨σ', H', J', q⟩ := hsp
      exact ⟨σ', H', J'.ofTry ok, q⟩
    | cont =>
      obtain ⟨σ', H', J', q⟩ := hsp
      exact ⟨σ', H', J'.ofTry ok, q⟩
    | ret u =>
      obtain ⟨v, σ', H', J', r, q⟩ := hsp
      exact ⟨v, σ', H', J'.ofTry ok, r, q⟩
end
end L2.TP

/-! Layer K: what may be asked of a kept exception: its fields, isinstance. -/
namespace PySem.TPX
open PySem PySem.Spec PySem.Calls PyProof.Rows PySem.W
section
variable {prog : Program} {w : World} {A : Around} {E : Value → Shared → Prop} {s : Shared} {K : Frag} {x D : Addr} {ox od : Obj}
/-- x.__class__, x an instance with a dict of the own error class at D -/
theorem exc_class {Q : Option Value → Shared → Prop} (C : L2.ExcC K D) (X : K.In s.heap) (I : InstAt s.heap x ox D (some od)) (h : Q (some (.ref D)) { s with toks := s.toks + 1 }) : wpAny (model prog w) A (getAttr? (.ref x) "__class__") Q E s := by
  have isS : (clsIn K D).isSome = true := by
    obtain ⟨cd, hc, _⟩ := any_some C.hd
    rw [hc]
    rfl
  have hf : findObj K D (some od) "__class__" = some (.bind (.builtin "getset_descriptor.__get__") (.builtin "object.__class__")) := findObj_data isS C.ha C.hn C.ht
  obtain ⟨hp, g, d, t, os⟩ := s
  have T0 := I.type (M := model prog w)
  have T1 := looks_findIn (M := model prog w) X C.hg
  have T2 := looks_findIn (M := model prog w) X C.hk
  have T3 := looks_find (M := model prog w) X I hf
  have sub : Looks (model prog w) hp (isInstance (.ref x) (.type "BaseException")) true := T0.andThen (looks_subIn X C.hs)
  have no2 : (Value.builtin "BaseException.__getattribute__" == Value.builtin "object.__getattribute__") = false := by decide +kernel
  have no1 : (onTheHeap (Value.ref D) && Value.builtin "BaseException.__getattribute__" == Value.builtin "object.__getattribute__") = false := by rw [no2]; rfl
  have no0 : (false && onTheHeap (Value.builtin "BaseException.__getattribute__")) = false := rfl
  unfold getAttr? getAttrBy? getAttrBy
  refine wpAny_bind (wpAny_mkText (wpAny_bind (wpAny_attempt (wpAny_holding (wpAny_bind (T0.at (wpAny_bind (T1.at ?_))))))))
  show wpAny _ _ (if (onTheHeap (Value.ref D) && Value.builtin "BaseException.__getattribute__" == Value.builtin "object.__getattribute__") = true then _ else _) _ _ _
  rw [no1, if_neg Bool.false_ne_true]
  unfold getAttrByItsOwn hookBefore
  refine wpAny_bind ?_
  rw [if_pos (show onTheHeap (Value.ref D) = true from rfl)]
  refine T2.at ?_
  refine wpAny_bind (wpAny_attempt (wpAny_holding ?_))
  unfold callGetattribute
  rw [no0, if_neg Bool.false_ne_true]
  unfold boundAndCalled
  rw [PySem.F.excAttr_ValueError.ga.bind (.ref x)]
  refine wpAny_bind (wpAny_pure ?_)
  show wpAny _ _ (call (.builtin "BaseException.__getattribute__") [.ref x, .str "__class__" t]) _ _ _
  refine wpAny_call (codeAny_call_builtin PySem.F.excAttr_ValueError.ga.plain PySem.F.entry_bexc_ga ?_)
  refine @check_slot (model prog w) _ _ ⟨hp, g, d, t + 1, os⟩ "BaseException.__getattribute__" "BaseException" "__getattribute__" (.ref x) [.str "__class__" t] [] _ (by decide +kernel) (by decide +kernel) sub (PySem.F.args_bexc_ga (.ref x) (.str "__class__" t)) ?_
  unfold Builtin.«object.__getattribute__»
  refine wpAny_bind (wpAny_of_eq (a := ((Value.ref x : Value), [Value.str "__class__" t])) (by first | rfl | (simp only [slotArgs]; rfl)) ?_)
  refine wpAny_bind (wpAny_pure (wpAny_bind (T0.at (wpAny_bind (T3.at ?_)))))
  show wpAny _ _ (holding [Value.builtin "object.__class__"] (call (.builtin "getset_descriptor.__get__") [.builtin "object.__class__", .ref x, .ref D]) >>= ret) _ _ _
  refine wpAny_bind (wpAny_holding (wpAny_call (class_get (s := ⟨hp, g, d, t + 1, os⟩) (ox := ox) (od := some od) X I C.hm ?_)))
  refine wpAny_pure ?_
  show wpAny _ _ (handedOut (.ref D)) _ _ _
  rw [handedOut_of (v := .ref D) rfl]
  first
    | exact wpAny_pure (wpAny_pure h)
    | exact wpAny_pure h
    | exact wpAny_pure (wpAny_bind (wpAny_pure (wpAny_pure h)))
theorem kit_exc (C : L2.ExcC K D) : KitX K (.ref x) (.ref D) (fun h => InstAt h x ox D (some od)) where
  ty := fun _ _ _ I => I.type
  it := fun _ _ X _ => by
    obtain ⟨cdD, hcD, _⟩ := any_some C.hd
    unfold clsIn at hcD
    split at hcD
    · rename_i c' d' cd' sl' ho
      intro A' Q' E' s' k q
      unfold isType loadHead
      exact wpAny_bind (wpAny_loadPart (k _ _ (X _ _ ho)) (wpAny_pure q))
    · cases hcD
  ne := fun h tp dd its n sl X htp => by
    obtain ⟨cdD, hcD, _⟩ := any_some C.hd
    refine Bool.eq_false_iff.mpr fun q => ?_
    have e : D = tp := Value.ref.inj (beq_iff_eq.mp q)
    subst e
    unfold clsIn at hcD
    split at hcD
    · rename_i c' d' cd' sl' ho
      have z := (X _ _ ho).symm.trans htp
      cases z
    · cases hcD
  ca := fun X I k => exc_class C X I k
end
end PySem.TPX
namespace L2.TP
open PySem PySem.Spec PyProof.Rows
/-- isinstance(x, c), x a kept exception -/
def rIsV (K : PySem.W.Frag) : List V → Hp → VK → Prop := fun xs H Q => ∃ (a D d : Addr) (fs : List (Str × V)) (c : V) (u : Value) (b : Bool), xs = [.ref a, c] ∧ ClsV c u ∧ H a = some (ExV (.ref D) (some d) a) ∧ H d = some (.xd fs) ∧ ExcC K D ∧ PySem.W.kitOne K (.ref D) u = some b ∧ Q (.bl b) H
/-- e.n, e a kept exception -/
def tXfV (K : PySem.W.Frag) (n : Str) (te : TE) : TE := fun σ H Q => te σ H fun x H1 => ∃ (a D d : Addr) (fs : List (Str × V)) (v : V), x = .ref a ∧ H1 a = some (ExV (.ref D) (some d) a) ∧ H1 d = some (.xd fs) ∧ XfC K D ∧ PySem.W.findIn K (.ref D) n = some none ∧ fs.lookup n = some v ∧ Q v H1
section
variable {X : Cx} {pins : List (Addr × Obj)} {σ : St} {H : Hp} {s : Shared}
theorem exV_inst {a D d : Addr} {fs : List (Str × V)} (I : Inv X pins σ H s) (e : H a = some (ExV (.ref D) (some d) a)) (ed : H d = some (.xd fs)) :
    ∃ (oe od : Obj) (mA : Str → Option Value), PySem.W.InstAt s.heap a oe D (some od) ∧ (∀ f, RelO (fs.lookup f) (mA f)) ∧ ∀ n : Str, PySem.W.lookIn n od = some (mA n) := by
  obtain ⟨⟨oe, vs, ha, hz, hd⟩, _, _⟩ := I.hok a _ e
  obtain ⟨mA, hns, hr⟩ := I.hok d _ ed
  obtain ⟨od, ho, hl⟩ := lookIn_ns hns
  exact ⟨oe, od, mA, ⟨ha, hz.1, by unfold PySem.W.notCls; rw [hd] <;> rfl, by rw [hz.2]; exact ho⟩, hr, hl⟩
theorem call_isV : CallR X (.builtin "isinstance") (rIsV X.K) := by
  intro pins s σ H xs us Q I r h
  obtain ⟨a, D, d, fs, c, u, b, rfl, hc, ea, ed, C, k, q⟩ := h
  obtain ⟨u1, u2, rfl, r1, r2⟩ := r.two
  cases r1
  have e2 := hc.eq r2
  subst e2
  obtain ⟨oe, od, mA, J, _, _⟩ := exV_inst I ea ed
  exact PySem.W.kia_one (PySem.TPX.kit_exc C) I.kIn J k (fun z => nomatch z) fun tk => ⟨.bl b, H, I.kept (t' := tk) fun _ _ z => z, rfl, q⟩
theorem pe_xfV {e : Expr} {te : TE} {pos : Pos} {n : Str} (he : PE X e te) (hb : attributeBase e n X.env (eval e X.env) = eval e X.env := by rfl) : PE X (.Attribute e n pos) (tXfV X.K n te) := by
  refine ⟨fun pins s σ H Q I h => ?_⟩
  refine attr_of hb (thn (he.run pins s σ H _ I h) fun u s1 hh => ?_)
  obtain ⟨x, H1, I1, rx, a, D, d, fs, v, rfl, ea, ed, T, hno, l, q⟩ := hh
  obtain rfl : u = Value.ref a := rx
  obtain ⟨oe, od, mA, J, hr, hl⟩ := exV_inst I1 ea ed
  obtain ⟨u, hu, ru⟩ := RelO.some_of (v := v) (o := mA n) (by rw [← l]; exact hr n)
  exact HandSPX.exc_get I1.kIn J T.ga T.gg T.exC (PySem.W.findObj_own T.hdC hno rfl (by rw [hl, hu])) (handed_of ru) ⟨v, H1, I1.tok _, ru, q⟩
end
end L2.TP

/-! Layer L: the law's own call, with tables of code objects, the table of modules tracked. -/
namespace L2.TP
open PySem PySem.Spec PyProof.Rows LamX
/-- what the law's call may lean on: cs, the code objects and their tables -/
structure CallL (K : PySem.W.Frag) (mg mb : Str → Option Value) (cs : List (Addr × Addr)) (h : Heap) : Prop where
  kin : K.In h
  ns : h.Ns mainGlobals mg
  bl : h.Ns builtinsNs mb
  bb : ∀ x : Str, x ≠ "__name__" → mb x = bootBuiltins x
  lim : h.NoLimit
  tabs : ∀ p ∈ cs, h.get? p.2 = some { cls := .none, data := .fields #[] }
  notK : ∀ p ∈ cs, K.lookup p.2 = none
  code : ∀ p ∈ cs, PySem.W.CodeHd h p.1 p.2
  bm : ∃ (bm : Addr) (ob : Obj), mg "__builtins__" = some (.ref bm) ∧ bm ≠ builtinsNs ∧ h.get? bm = some ob ∧ ob.cls = .type "module" ∧ ob.dict = some builtinsNs ∧ ob.data = .plain
  mods : ∃ mm, h.Ns sysModules mm
  modK : K.lookup sysModules = none
/-- what is tracked: the script, the tables, the modules -/
structure StartL (K : PySem.W.Frag) (cs : List (Addr × Addr)) (a : Addr) (oS : Obj) (H : Hp) : Prop where
  tab : ∀ p ∈ cs, H p.2 = some (.tbl #[])
  sm : H sysModules = some (smF oS)
  all : ∀ b, H b = none ∨ b ∈ cs.map (·.2) ∨ ∃ o u, H b = some (.frz o u)
  only : ∀ b, H b ≠ none → b = a ∨ b ∈ cs.map (·.2) ∨ b = sysModules
  notK : H a ≠ none → K.lookup a = none
section
variable {P : Program} {w : World} {K : PySem.W.Frag} {mg mb : Str → Option Value} {CX : CXT} {k : Nat} {fa a : Addr} {cs : List (Addr × Addr)} {fd : FuncData} {x : Str} {sp : Sp} {s1 : Shared} {vs : List Value} {ns : List Int} {oS : Obj} {H : Hp}
theorem CallL.modNe (C : CallL K mg mb cs s1.heap) : (∀ p ∈ cs, p.2 ≠ sysModules) := fun p hp z => by
  obtain ⟨mm, o, es, ep, e, d, _⟩ := C.mods
  rw [← z, C.tabs p hp] at e
  cases e
  cases d
/-- the part of the heap that stays -/
theorem CallL.mod (C : CallL K mg mb cs s1.heap) (S : StartL K cs a oS H) (ha : s1.heap.get? a = some { cls := .type "list", data := .seq vs.toArray }) :
    L2.Mod K mg (hidT s1.heap H) ∧ K.In (hidT s1.heap H) ∧ (hidT s1.heap H).Ns mainGlobals mg ∧ ∀ p ∈ cs, TabB (hidT s1.heap H) mg p.1 p.2 := by
  have isT : ∀ b : Addr, b ∈ cs.map (·.2) → s1.heap.get? b = some { cls := .none, data := .fields #[] } := fun b hb => by
    obtain ⟨p, hp, e⟩ := List.mem_map.mp hb
    rw [← e]
    exact C.tabs p hp
  have noD : ∀ {b : Addr} {o : Obj}, b ≠ sysModules → s1.heap.get? b = some o → (∀ vs n, o.data ≠ .seq vs n) → o.data ≠ .fields #[] → H b = none := fun {b o} nb e h1 h2 => by
    cases q : H b with
    | none => rfl
    | some u =>
      rcases S.only b (by rw [q]; simp) with z | z | z
      · rw [z, ha] at e
        cases e
        exact (h1 _ _ rfl).elim
      · rw [isT b z] at e
        cases e
        exact (h2 rfl).elim
      · exact (nb z).elim
  have nsK : ∀ {b : Addr} {m : Str → Option Value}, b ≠ sysModules → s1.heap.Ns b m → (hidT s1.heap H).Ns b m := fun {b m} nb ⟨o, es, ep, e, d, r⟩ => by
    refine ⟨o, es, ep, hidT_get e (noD nb e (fun vs n z => ?_) fun z => ?_), d, r⟩
    · rw [d] at z
      cases z
    · rw [d] at z
      cases z
  have hKb : K.In (hidT s1.heap H) := fun b o e => hidT_get (C.kin b o e) (by
    cases q : H b with
    | none => rfl
    | some u =>
      rcases S.only b (by rw [q]; simp) with z | z | z
      · rw [z] at e q
        rw [S.notK (by rw [q]; simp)] at e
        cases e
      · obtain ⟨p, hp, ep⟩ := List.mem_map.mp z
        rw [← ep, C.notK p hp] at e
        cases e
      · rw [z, C.modK] at e
        cases e)
  have g1 : mainGlobals ≠ sysModules := by decide
  have g2 : builtinsNs ≠ sysModules := by decide
  have g3 : cStatics ≠ sysModules := by decide
  refine ⟨⟨hKb, nsK g1 C.ns, ⟨mb, nsK g2 C.bl, C.bb⟩, let ⟨mc, h1, h2⟩ := C.lim; ⟨mc, nsK g3 h1, h2⟩⟩, hKb, nsK g1 C.ns, fun p hp => ?_⟩
  have hTp := C.tabs p hp
  obtain ⟨mm, oM, esM, epM, eM, dM, _⟩ := C.mods
  refine ⟨?_, ?_, fun z => ?_⟩
  · obtain ⟨o, us, file, tf, flags, tg, inF, text, tt, e1, r1, r2, r3, r4, r5, r6, r7, r8, hne⟩ := C.code p hp
    have nb : p.1 ≠ sysModules := fun z => by
      rw [z, eM] at e1
      cases e1
      rw [dM] at r2
      cases r2
    refine ⟨o, us, file, tf, flags, tg, inF, text, tt, hidT_get e1 (noD nb e1 (fun vs n z => ?_) fun z => ?_), r1, r2, r3, r4, r5, r6, r7, r8, hne⟩
    · rw [r2] at z
      cases z
    · rw [r2] at z
      cases z
      simp at r3
  · obtain ⟨bm, ob, b1, b2, b3, b4, b5, b6⟩ := C.bm
    have nG : bm ≠ mainGlobals := fun q => by
      obtain ⟨o, es, ep, e, hd, _⟩ := C.ns
      rw [q, e] at b3
      cases b3
      rw [hd] at b6
      cases b6
    have nP : bm ≠ p.2 := fun q => by
      rw [q, hTp] at b3
      cases b3
      cases b6
    have nb : bm ≠ sysModules := fun z => by
      rw [z, eM] at b3
      cases b3
      rw [dM] at b6
      cases b6
    refine ⟨bm, ob, b1, b2, nG, nP, hidT_get b3 (noD nb b3 (fun vs n z => ?_) fun z => ?_), b4, b5, b6⟩
    · rw [b6] at z
      cases z
    · rw [b6] at z
      cases z
  · obtain ⟨o, es, ep, e, hd, _⟩ := C.ns
    rw [z, hTp] at e
    cases e
    cases hd

theorem law_core (C : CallL K mg mb cs s1.heap) (S : StartL K cs a oS H) (ha : s1.heap.get? a = some { cls := .type "list", data := .seq vs.toArray }) (hg : s1.gens = #[]) (hok : HOk P w H s1.heap) (hS : SqL K H a (ns.map V.int)) (hr : Room k callerA)
    (F : ∀ base : Heap, K.In base → base.Ns mainGlobals mg → (∀ p ∈ cs, TabB base mg p.1 p.2) → FnG P w K mg base CX k fa fd [x] sp) (hbind : ∀ (s : Shared) (u : Value), BindsTo s fd ⟨[u], []⟩ [(x, u)])
    (hsp : sp [.ref a] H (fun v _ => v = .bl true) fun _ _ _ => False) (hCX : ∀ H e s', CX [] H s1 (fun _ _ _ => False) e s' → False) :
    codeAny (model P w) callerA (.call (.ref fa) ⟨[.ref a], []⟩) (fun r s' => r = .ok (.ret (.bool true)) ∧ OldK s1.heap s'.heap ∧ s'.os = s1.os ∧ AllBare s'.gens) s1 := by
  obtain ⟨hM, hKb, hns, TB⟩ := C.mod S ha
  have e0 : Env0 P w K mg (hidT s1.heap H) callerA [] s1 H := ⟨rfl, hM, fun b o e => of_hidT e, Nat.le_of_eq (hidT_size _ _), trivial, fun b hb => absurd (show b ∈ ([] : List Addr) from hb) (by simp), hok, .of_eq hg⟩
  refine codeAny_mono ((F _ hKb hns TB).run callerA [] s1 H ⟨[.ref a], []⟩ [.ref a] [.ref a] _ _ rfl hr e0 (hbind s1 (.ref a)) (.cons rfl .nil) hsp) fun r s' h => ?_
  cases r with
  | error e => exact (hCX H e s' h).elim
  | ok fl =>
    cases fl with
    | next => exact False.elim h
    | brk => exact False.elim h
    | cont => exact False.elim h
    | ret u =>
      obtain ⟨v, H', os, bare, un, hok', r', q⟩ := h
      have q' : v = .bl true := q
      subst q'
      obtain rfl : u = Value.bool true := r'
      have key : ∀ b o, b ∉ cs.map (·.2) → s1.heap.get? b = some o → s'.heap.get? b = some o := fun b o nb e => by
        rcases S.all b with z | z | ⟨ob, xs, z⟩
        · exact un.keep b o e z (fun y => absurd (show b ∈ ([] : List Addr) from y) (by simp)) (by simp)
        · exact absurd z nb
        · obtain ⟨e1, _⟩ := hok b _ z
          obtain ⟨e2, _⟩ := hok' b _ (un.frzs b ob _ z)
          rw [e] at e1
          cases e1
          exact e2
      have grown : ∀ p ∈ cs, ∃ more : Array Value, s'.heap.get? p.2 = some { cls := .none, data := .fields more } := fun p hp => by
        obtain ⟨more, z⟩ := un.tbls p.2 #[] (S.tab p hp)
        exact ⟨_, hok' p.2 _ z⟩
      refine ⟨rfl, ⟨fun b o e => ?_, fun b o e => ?_⟩, os, bare⟩
      · by_cases hb : b ∈ cs.map (·.2)
        · obtain ⟨p, hp, ep⟩ := List.mem_map.mp hb
          obtain ⟨more, hm⟩ := grown p hp
          rw [← ep] at e ⊢
          rw [C.tabs p hp] at e
          cases e
          exact .inr (.inl ⟨((C.code p hp).tab (C.tabs p hp)).isCodeTable, rfl, #[], more, rfl, by rw [Array.empty_append]; exact hm⟩)
        · exact .inl (key b o hb e)
      · by_cases hb : b ∈ cs.map (·.2)
        · obtain ⟨p, hp, ep⟩ := List.mem_map.mp hb
          obtain ⟨more, hm⟩ := grown p hp
          rw [← ep]
          exact ⟨_, hm⟩
        · exact ⟨o, key b o hb e⟩
open Classical in
theorem law_callL (C : CallL K mg mb cs s1.heap) (ha : s1.heap.get? a = some { cls := .type "list", data := .seq vs.toArray }) (hi : IntsAre vs ns) (hl : ns.length ≤ sizeLine) (hg : s1.gens = #[]) (hr : Room k callerA)
    (F : ∀ base : Heap, K.In base → base.Ns mainGlobals mg → (∀ p ∈ cs, TabB base mg p.1 p.2) → FnG P w K mg base CX k fa fd [x] sp) (hbind : ∀ (s : Shared) (u : Value), BindsTo s fd ⟨[u], []⟩ [(x, u)])
    (hsp : ∀ (H : Hp) (oS : Obj), (∀ p ∈ cs, H p.2 = some (.tbl #[])) → H sysModules = some (smF oS) → SqL K H a (ns.map V.int) → sp [.ref a] H (fun v _ => v = .bl true) fun _ _ _ => False) (hCX : ∀ H e s', CX [] H s1 (fun _ _ _ => False) e s' → False) :
    codeAny (model P w) callerA (.call (.ref fa) ⟨[.ref a], []⟩) (fun r s' => r = .ok (.ret (.bool true)) ∧ OldK s1.heap s'.heap ∧ s'.os = s1.os ∧ AllBare s'.gens) s1 := by
  have rv := vals_ints hi
  have lenV := hi.length
  obtain ⟨mm, oS, esM, epM, eM, dM, _⟩ := id C.mods
  have aM : a ≠ sysModules := fun z => by
    rw [z, eM] at ha
    cases ha
    cases dM
  have tM := C.modNe
  have tA : ∀ p ∈ cs, p.2 ≠ a := fun p hp z => by
    have q := C.tabs p hp
    rw [z, ha] at q
    have z' : Data.seq vs.toArray _ = Data.fields #[] := congrArg Obj.data (Option.some.inj q)
    cases z'
  let fr : HO := .frz { cls := .type "list", data := .seq vs.toArray } (.lst (ns.map V.int))
  let H : Hp := fun b => if b = sysModules then some (smF oS) else if b = a then (if (K.lookup a).isSome then none else some fr) else if b ∈ cs.map (·.2) then some (.tbl #[]) else none
  have H1 : H sysModules = some (smF oS) := if_pos rfl
  have H2 : H a = if (K.lookup a).isSome then none else some fr := (if_neg aM).trans (if_pos rfl)
  have H3 : ∀ p ∈ cs, H p.2 = some (.tbl #[]) := fun p hp => (if_neg (tM p hp)).trans ((if_neg (tA p hp)).trans (if_pos (List.mem_map.mpr ⟨p, hp, rfl⟩)))
  have H4 : ∀ b, b ≠ sysModules → b ≠ a → b ∉ cs.map (·.2) → H b = none := fun b h1 h2 h3 => (if_neg h1).trans ((if_neg h2).trans (if_neg h3))
  have hS : SqL K H a (ns.map V.int) := by
    cases hk : K.lookup a with
    | some o =>
      have e := C.kin a o hk
      rw [ha] at e
      cases e
      exact .inr ⟨_, vs.toArray, _, hk, rfl, rfl, rfl, by rw [List.size_toArray, lenV]; exact hl, by simpa using rv⟩
    | none =>
      rw [hk] at H2
      exact .inl (.inr ⟨_, H2⟩)
  have S : StartL K cs a oS H := by
    refine ⟨H3, H1, fun b => ?_, fun b hb => ?_, fun z => ?_⟩
    · by_cases c1 : b = sysModules
      · rw [c1]
        exact .inr (.inr ⟨_, _, H1⟩)
      · by_cases c2 : b = a
        · rw [c2]
          by_cases c : (K.lookup a).isSome
          · exact .inl (H2.trans (if_pos c))
          · exact .inr (.inr ⟨_, _, H2.trans (if_neg c)⟩)
        · by_cases c3 : b ∈ cs.map (·.2)
          · exact .inr (.inl c3)
          · exact .inl (H4 b c1 c2 c3)
    · by_cases c1 : b = sysModules
      · exact .inr (.inr c1)
      · by_cases c2 : b = a
        · exact .inl c2
        · by_cases c3 : b ∈ cs.map (·.2)
          · exact .inr (.inl c3)
          · exact absurd (H4 b c1 c2 c3) hb
    · by_cases c : (K.lookup a).isSome
      · exact absurd (H2.trans (if_pos c)) z
      · cases e : K.lookup a with
        | none => rfl
        | some o =>
          rw [e] at c
          exact absurd rfl c
  have hok : HOk P w H s1.heap := fun b u e => by
    by_cases c1 : b = sysModules
    · rw [c1] at e ⊢
      rw [H1] at e
      cases e
      exact ⟨eM, ⟨_, eM⟩⟩
    · by_cases c2 : b = a
      · rw [c2] at e ⊢
        by_cases c : (K.lookup a).isSome
        · rw [H2.trans (if_pos c)] at e
          cases e
        · rw [H2.trans (if_neg c)] at e
          cases e
          exact ⟨ha, by rw [List.length_map]; exact hl, vs, _, rv, ha⟩
      · by_cases c3 : b ∈ cs.map (·.2)
        · obtain ⟨p, hp, ep⟩ := List.mem_map.mp c3
          rw [← ep] at e ⊢
          rw [H3 p hp] at e
          cases e
          exact C.tabs p hp
        · rw [H4 b c1 c2 c3] at e
          cases e
  exact law_core C S ha hg hok hS hr F hbind (hsp H oS H3 H1 hS) hCX
end
/-- what is to be told of the law at the head's heap h -/
def LawL (l : PySem.W.OpenLaw) (w : World) (K : PySem.W.Frag) (CX : CXT) (k n : Nat) (x : Str) (mg : Str → Option Value) (fa : Addr) (h : Heap) : Prop :=
  ∃ (fd : FuncData) (cs : List (Addr × Addr)) (sp : Sp), (∀ p ∈ cs, h.get? p.2 = some { cls := .none, data := .fields #[] }) ∧ (∀ p ∈ cs, K.lookup p.2 = none) ∧ (∀ p ∈ cs, PySem.W.CodeHd h p.1 p.2) ∧ (∀ (s : Shared) (u : Value), BindsTo s fd ⟨[u], []⟩ [(x, u)]) ∧
    (∀ (H : Hp) (oS : Obj) (a : Addr) (ns : List Int), ns.length ≤ n → (∀ p ∈ cs, H p.2 = some (.tbl #[])) → H sysModules = some (smF oS) → SqL K H a (ns.map V.int) → sp [.ref a] H (fun v _ => v = .bl true) fun _ _ _ => False) ∧
    ∀ base : Heap, K.In base → base.Ns mainGlobals mg → (∀ p ∈ cs, TabB base mg p.1 p.2) → FnG l.prog w K mg base CX k fa fd [x] sp
theorem walkL {l : PySem.W.OpenLaw} {n k : Nat} {q : Program} {loose : List Str} {XP : (Str → Option Value) → Heap → Prop} {YP : World → Heap → Prop} {d : DefRec} {K : Params → PySem.W.Frag} {CX : CXT} {x : Str}
    (hn : l.most = some n) (hn2 : n ≤ sizeLine) (hdf : d.params.defaults = []) (hr : Room k callerA) (hY : ∀ (w : World) (h : Heap), YP w h → (K w.params).In h) (hm : ∀ w : World, (K w.params).lookup sysModules = none) (hi : importsNone q = true)
    (F : ∀ (w : World) (mg : Str → Option Value) (fa : Addr) (h : Heap), (∀ d ∈ recsOf q, ∃ a o fd c P, mg d.name = some (.ref a) ∧ h.get? a = some o ∧ o.data = .func fd ∧ fd.code = .ref c ∧ h.IsCode c P #[] ∧ h.TableAt c P #[]) →
      (K w.params).In h → h.Ns mainGlobals mg → mg d.name = some (.ref fa) → LawL l w (K w.params) CX k n x mg fa h)
    (hCX : ∀ (H : Hp) (s : Shared) (e : Value) (s' : Shared), CX [] H s (fun _ _ _ => False) e s' → False) :
    PySem.W.WalkO q loose XP YP l.row.toRowW d [] (fun f vs => PySem.call f vs) := by
  refine Att.attach_callB hn hdf fun w s0 s1 mg mb fa o pm cd doc a vs ns G Y ho hd hcd hmg hobj hints hlen hbits hg => ?_
  have KX := hY w _ Y
  obtain ⟨fd, cs, sp, hT, nT, C, hb, hsp, hF⟩ := F w mg fa _ G.T.tab KX G.T.g hmg
  obtain ⟨mm, hmm, _⟩ := (G.T.seer hi).mods
  exact law_callL ⟨KX, G.T.g, G.T.b, G.T.builtins, G.T.nolimit, hT, nT, C, G.T.bmain, ⟨mm, hmm⟩, hm w⟩ hobj hints (Nat.le_trans hlen hn2) hg hr hF hb (fun H oS h1 h2 h3 => hsp H oS a ns hlen h1 h2 h3) fun H e s' => hCX H s1 e s'
end L2.TP

/-! Layer M: lists of flat values counted and compared; the type of data. -/
namespace L2.TP
open PySem PySem.Spec PyProof.Rows
section
variable {X : Cx}
/-- xs.count(y), flat items -/
def rCntF (K : PySem.W.Frag) : V → List V → Hp → VK → Prop := fun x xs H Q => ∃ (p : Addr) (ys : List V) (y : V), x = .ref p ∧ xs = [y] ∧ SqL K H p ys ∧ flatV y = true ∧ ys.all flatV = true ∧ Q (.int (ys.countP fun z => eqV z y : Nat)) H
theorem cnt_of {y : V} : ∀ {ys : List V} {us : List Value}, Vals ys us → ys.all flatV = true → us.countP (eqU y) = ys.countP fun z => eqV z y
  | _, _, .nil, _ => rfl
  | z :: ys, u :: us, .cons r t, f => by
    rw [List.all_cons, Bool.and_eq_true] at f
    rw [List.countP_cons, List.countP_cons, cnt_of t f.2, eqU_of r f.1]
theorem mt_countF : MtR X "list.count" (rCntF X.K) := by
  intro pins s σ H x xs v us Q I rx rxs h
  obtain ⟨p, ys, y, rfl, rfl, hs, fy, fys, q⟩ := h
  cases rx
  obtain ⟨u, rfl, ru⟩ := rxs.one
  obtain ⟨its, rv, ⟨⟨cls, dd, data, sl⟩, n, ho, hc, hdn, hd⟩, hlen⟩ := I.list hs
  simp only at hc hd
  subst hc hd
  refine call_meets PySem.F.slot_list_count ⟨_, ho, rfl⟩ PySem.F.entry_list_count (PySem.F.args_list_count_2 _ _)
    (SeqAt.list_countAt p its.toArray n dd sl u (eqU y)) ⟨ho, fun u' hu' => mem_eqAt ru fy rv fys u' (by simpa using hu'), ?_⟩
  refine ⟨.int (ys.countP fun z => eqV z y : Nat), H, I.tok _, ⟨s.toks, ?_⟩, q⟩
  have ec : its.toArray.toList.countP (eqU y) = ys.countP fun z => eqV z y := by
    rw [List.toList_toArray]
    exact cnt_of rv fys
  show Value.int ((its.toArray.toList.countP (eqU y) : Nat) : Int) s.toks = _
  rw [ec]
/-- xs != ys, two lists of the same flat values -/
def rNeF (K : PySem.W.Frag) : R2 := fun x y H Q => ∃ (a b : Addr) (ys : List V), x = .ref a ∧ y = .ref b ∧ SqL K H a ys ∧ SqL K H b ys ∧ ys.all flatV = true ∧ Q (.bl false) H
theorem eqV_self {y : V} (f : flatV y = true) : eqV y y = true := by
  cases y <;> first | rfl | (simp [eqV]; done) | (cases f; done)
theorem op_neF (hu : X.A.units < cLine) : OpR X (compareOp .NotEq) (rNeF X.K) := by
  intro pins s σ H x y v u Q I rx ry h
  obtain ⟨a, b, ys, rfl, rfl, ha, hb, f, q⟩ := h
  cases rx
  cases ry
  obtain ⟨its, rv, ⟨⟨cls, dd, data, sl⟩, n, ho, hc, hdn, hd⟩, hlen⟩ := I.list ha
  obtain ⟨its2, rv2, ⟨⟨cls2, dd2, data2, sl2⟩, n2, ho2, hc2, hdn2, hd2⟩, hlen2⟩ := I.list hb
  simp only at hc hd hc2 hd2
  subst hc hd hc2 hd2
  have ta : s.TypeIs (.ref a) "list" := ⟨_, ho, rfl⟩
  have tb : s.TypeIs (.ref b) "list" := ⟨_, ho2, rfl⟩
  have l1 := rv.length
  have l2 := rv2.length
  have hsz : its.toArray.size = its2.toArray.size := by
    rw [List.size_toArray, List.size_toArray]
    omega
  show wpAny _ _ (richCompare .NotEq (.ref a) (.ref b)) _ _ _
  refine wpAny_richCompare_same_room (op := .NotEq) ta tb F.slot_list_ne (call_meets F.slot_list_ne ta F.entry_list_ne (F.args_list_ne_2 _ _) (SeqAt.list_neAt a b its.toArray its2.toArray n n2 dd dd2 sl sl2 hsz (fun _ => true))
    ⟨ho, ho2, fun j h1 h2 => ?_, ?_⟩) hu
  · have j1 : j < its.length := by simpa using h1
    have j2 : j < its2.length := by simpa using h2
    have jy : j < ys.length := by omega
    obtain ⟨u1, e1, r1⟩ := rv.get (List.getElem?_eq_getElem jy)
    obtain ⟨u2, e2, r2⟩ := rv2.get (List.getElem?_eq_getElem jy)
    obtain ⟨_, g1⟩ := List.getElem?_eq_some_iff.mp e1
    obtain ⟨_, g2⟩ := List.getElem?_eq_some_iff.mp e2
    have fy : flatV ys[j] = true := flat_at f (List.getElem?_eq_getElem jy)
    have z := eqAt_V (A := X.A.in1) (s := s) r1 r2 fy fy
    rw [eqV_self fy] at z
    have k1 : its.toArray[j] = u1 := by simpa using g1
    have k2 : its2.toArray[j] = u2 := by simpa using g2
    rw [k1, k2]
    exact z
  · have e : (!(List.range its.toArray.size).all fun _ => true) = false := by simp
    rw [e]
    exact ⟨(fun x => nomatch x), ⟨.bl false, H, I, rfl, q⟩⟩
end
/-- the name of the type of data -/
def tnD : PyData → String
  | .none => "NoneType"
  | .bool _ => "bool"
  | .int _ => "int"
  | .str _ => "str"
  | .list _ => "list"
  | .tuple _ => "tuple"
  | .dict _ => "dict"
theorem tyD {K : PySem.W.Frag} {H : Hp} {v : V} {d : PyData} (h : Dq H v d) : TyX K H v (.type (tnD d)) := by
  cases h with
  | non => exact .base .non
  | bl b => exact .base (.bl b)
  | int i => exact .base (.int i)
  | str x => exact .base (.str x)
  | lst h t => exact .base (.lst h)
  | tup h t => exact .base (.tup h)
  | dct h t => exact .base (.dK h)
/-- an int, or a bool -/
def intB : PyData → Bool
  | .bool _ => true
  | .int _ => true
  | _ => false
def boolB : PyData → Bool
  | .bool _ => true
  | _ => false
theorem kitI {K : PySem.W.Frag} (d : PyData) : PySem.W.kitOne K (.type (tnD d)) (.type "int") = some (intB d) := by
  cases d with
  | none => exact kit_ty (by show kitB "NoneType" "int" = some false; decide +kernel)
  | bool _ => exact kit_ty (by show kitB "bool" "int" = some true; decide +kernel)
  | int _ => exact kit_ty (by show kitB "int" "int" = some true; decide +kernel)
  | str _ => exact kit_ty (by show kitB "str" "int" = some false; decide +kernel)
  | list _ => exact kit_ty (by show kitB "list" "int" = some false; decide +kernel)
  | tuple _ => exact kit_ty (by show kitB "tuple" "int" = some false; decide +kernel)
  | dict _ => exact kit_ty (by show kitB "dict" "int" = some false; decide +kernel)
theorem kitBl {K : PySem.W.Frag} (d : PyData) : PySem.W.kitOne K (.type (tnD d)) (.type "bool") = some (boolB d) := by
  cases d with
  | none => exact kit_ty (by show kitB "NoneType" "bool" = some false; decide +kernel)
  | bool _ => exact kit_ty (by show kitB "bool" "bool" = some true; decide +kernel)
  | int _ => exact kit_ty (by show kitB "int" "bool" = some false; decide +kernel)
  | str _ => exact kit_ty (by show kitB "str" "bool" = some false; decide +kernel)
  | list _ => exact kit_ty (by show kitB "list" "bool" = some false; decide +kernel)
  | tuple _ => exact kit_ty (by show kitB "tuple" "bool" = some false; decide +kernel)
  | dict _ => exact kit_ty (by show kitB "dict" "bool" = some false; decide +kernel)
/-- an integer from lo to hi -/
def fromD (lo hi : Int) : PyData → Bool
  | .int i => decide (lo ≤ i) && decide (i ≤ hi)
  | _ => false
end L2.TP

/-! Layer N: a lambda without parameters handed to a def, what the def wishes of its exceptions told with the def's slots. -/
namespace L2.TP
open PySem PySem.Spec PyProof.Rows LamX
/-- the context of the def g (its names Ng) that X calls at s -/
abbrev gCx (X : Cx) (Ng : List Str) (x : Str) (sg : Scope) (g : Addr) (cdg : Value) (s : Shared) (H : Hp) : Cx := cxOf C8.CX0 X.prog X.w X.K X.mg X.base Ng x sg g cdg X.A X.stack s H C8.E0
section
variable {X : Cx} {pins : List (Addr × Obj)} {σ : St} {H : Hp} {s : Shared}
/-- the call of the lambda at f, in the def that got it -/
theorem pe_actS {Ng : List Str} {qg : Str} {sg : Scope} {g f c' : Addr} {cdg pm ctv : Value} {params : Arguments} {body : Expr} {scope : Scope} {k i : Nat} {a : Str} {pn : List (Addr × Obj)} {xe : Value → Shared → Prop} {W : WX} {E : St → XK} {tb : XK → TE} {p1 p2 : Pos}
    (I : Inv X pins σ H s) (L : LamS X.env.scope scope) (hf : s.heap.get? f = some (PySem.W.kla_obj "<lambda>" (X.env.qual ++ "<lambda>") params body scope (cloFrom X.env.cells scope.names []) pm c' ctv)) (hfn : H f = none) (hfr : f ∉ frs X.stack)
    (hbind : bindArgs (PySem.W.kla_fn "<lambda>" (X.env.qual ++ "<lambda>") params body scope (cloFrom X.env.cells scope.names []) pm (.ref c') ctv) ⟨[], []⟩ = pure [])
    (tk : Takes ((gCx X Ng qg sg g cdg s H).tr pn xe) W) (hW : ∀ σ' cls d H', E σ' cls d H' → W cls d σ' H') (hr : Room (k + 1) (X.A.deeper (envOfC qg sg s.heap.objs.size g cdg)))
    (hbody : ∀ (A : Around) (outer : List Env) (s : Shared) (H : Hp) (E : XK), Room k (A.deeper (lamEnv X scope s.heap.objs.size f c')) → PE (lamCx X A outer s H E scope f c') body (tb E))
    (hN : Ng[i]? = some a) (hv : Vis sg a) (hd : (a == ("__debug__" : Str)) = false := by decide) (hcd : (a == ("__classdict__" : Str)) = false := by decide) :
    PE ((gCx X Ng qg sg g cdg s H).tr pn xe) (.Call (.Name a p1) [] [] p2) (fun τ HZ Q => τ[i]? = some (some (.ref f)) ∧ HZ c' = some (CodeO c' (X.env.qual ++ "<lambda>")) ∧ tb (E τ) σ HZ Q) := by
  refine ⟨fun pZ sZ τ HZ Q IZ h => ?_⟩
  obtain ⟨hs, hc, ht⟩ := h
  refine wpAny_Call_Name_kw (thn ((pe_var (pos := p1) (i := i) hN hv hd hcd).run pZ sZ τ HZ (fun v H1 => v = .ref f ∧ H1 = HZ) IZ ⟨.ref f, hs, rfl, rfl⟩) fun u s1 hq1 => ?_)
  obtain ⟨v, H1, I1, r1, ev, eH⟩ := hq1
  subst ev
  rw [eH] at I1
  obtain rfl : u = Value.ref f := r1
  have of1 := I1.base.keep f _ hf hfn hfr (fun z => nomatch (show f ∈ ([] : List Addr) from z))
  refine PySem.W.callWith_F0 ⟨_, _, _, _, of1⟩ ?_
  have un : Un (frs X.stack) [] H HZ s.heap s1.heap := I1.base
  obtain ⟨⟨oc, vs, t, hoc, hdc, hvc⟩, _, _⟩ := I1.hok c' _ hc
  have rc : codeAny (model X.prog X.w) (X.A.deeper (envOfC qg sg s.heap.objs.size g cdg)) (.call (.ref f) ⟨[], []⟩) (CR (L2.CX X.prog X.w) (envOfC qg sg s.heap.objs.size g cdg :: X.stack) X.prog X.w HZ s1 Q (E τ)) s1 := by
    refine PySem.W.kla_callFunE hr.depth of1 rfl L.co L.gen rfl ⟨c', oc, vs, t, rfl, hoc, hdc, hvc⟩ ?_
    rw [hbind]
    refine wpAny_pure (wpAny_newFunctionEnv (fun y hy => (L.own y hy).2) (fun y hy => absurd hy (by simp)) (fun h1 hns hsb => ⟨I1.nolimit.fresh _ hsb, ?_⟩) L.kind)
    show codeAny _ _ (.expr body (lamEnv X scope s1.heap.objs.size f c')) _ _
    have kp : ∀ b o, s1.heap.get? b = some o → h1.get? b = some o := fun b o e => hsb.extBut b o (Nat.ne_of_lt (Heap.lt_size e)) (Heap.get?_push_of_some _ e)
    have J := lam_start2 (E := E τ) (f := f) (c' := c') I L I1.env0 hr.hd un hns kp (tk := s1.toks + ([] : List (Str × Value)).length)
    refine PySem.W.kla_codeExpr (wpAny_mono ((hbody _ _ s1 HZ (E τ) (hr.deeper _)).run [] _ _ HZ Q J ht) (fun v s' hq => ?_) fun e s' hq => hq)
    obtain ⟨w', H', J', rv, q⟩ := hq
    exact ⟨w', H', J'.os, J'.bare, J'.base, J'.hok, rv, q⟩
  refine wpAny_call (codeAny_mono rc fun r s' hq => ?_)
  cases r with
  | error e => exact tk e s' (XE.of_call I1 (fun cls d H' z => hW τ cls d H' z) hq)
  | ok fl =>
    cases fl with
    | ret u => exact I1.after hq
    | next => exact False.elim hq
    | brk => exact False.elim hq
    | cont => exact False.elim hq
/-- the def g calls what it got by the name a; TT: what it makes of the lambda's reading tl -/
def GivesS (X : Cx) (Ng : List Str) (x : Str) (sg : Scope) (g : Addr) (cdg : Value) (bg : List Stmt) (a : Str) (q : Str) (TT : (XK → Hp → VK → Prop) → Hp → VK → Prop) : Prop :=
  ∀ (f c' : Addr) (s : Shared) (H : Hp) (Q : VK) (tl : XK → Hp → VK → Prop),
    (∀ (W : WX) (pn : List (Addr × Obj)) (xe : Value → Shared → Prop) (E : St → XK) (p1 p2 : Pos), Takes ((gCx X Ng x sg g cdg s H).tr pn xe) W → (∀ σ' cls d H', E σ' cls d H' → W cls d σ' H') →
      PE ((gCx X Ng x sg g cdg s H).tr pn xe) (.Call (.Name a p1) [] [] p2) (fun τ HZ Q => τ[0]? = some (some (.ref f)) ∧ HZ c' = some (CodeO c' q) ∧ tl (E τ) HZ Q)) →
    H c' = some (CodeO c' q) → TT tl H Q →
    ∃ t, PSs (gCx X Ng x sg g cdg s H).nox bg t ∧ t { nx := fun _ H' => Q .non H', rt := Q } (L2.start Ng [.ref f]) H
/-- x(lambda: body) -/
theorem pe_lamS {T : List (Addr × Str)} {TT : (XK → Hp → VK → Prop) → Hp → VK → Prop} {x a : Str} {g c P : Addr} {k : Nat} {pg : Arguments} {bg : List Stmt} {sg : Scope} {dV kV doc pm cdv ct oc : Value} {an od : Option Addr} {osl : Array (Option Value)} {Ng : List Str}
    {params : Arguments} {body : Expr} {scope : Scope} {t : XK → TE} {p lpos pos : Pos} (hg : Gl X x) (hm : X.mg x = some (.ref g)) (hk : PySem.W.keepIn X.K (.ref g) = true)
    (lk : X.K.lookup g = some ⟨oc, od, .func (PySem.W.fnOf x x pg bg sg dV kV doc pm an cdv ct), osl⟩) (hcg : PySem.W.codeIn X.K cdv x = true) (hb : L2.Binds X.K (PySem.W.fnOf x x pg bg sg dV kV doc pm an cdv ct) [a] []) (Sg : FnScope Ng [a] sg) (hNg : Ng[0]? = some a) (hva : Vis sg a)
    (hG : GivesS X Ng x sg g cdv bg a (X.env.qual ++ "<lambda>") TT)
    (TB : TabB X.base X.mg c P) (hcode : X.env.code = .ref c) (hmT : (P, X.env.qual ++ "<lambda>") ∈ T) (hu : ∀ p ∈ T, p.1 = P → p.2 = X.env.qual ++ "<lambda>") (hr : Room (k + 2) X.A) (L : LamS X.env.scope scope) (hdef : defaultsOf params X.env = ([], []))
    (hbind : ∀ (q : Str) (cl : List (Str × Addr)) (pm cv ctv : Value), bindArgs (PySem.W.kla_fn "<lambda>" q params body scope cl pm cv ctv) ⟨[], []⟩ = pure [])
    (hbody : ∀ (A : Around) (outer : List Env) (s : Shared) (H : Hp) (E : XK) (f c' : Addr), Room k (A.deeper (lamEnv X scope s.heap.objs.size f c')) → PE (lamCx X A outer s H E scope f c') body (t E))
    (hdb : (x == ("__debug__" : Str)) = false := by decide) (hd : (a == ("__debug__" : Str)) = false := by decide) (hcd : (a == ("__classdict__" : Str)) = false := by decide) :
    PE X (.Call (.Name x p) [.Lambda params body scope lpos] [] pos) (tLam T TT t) := by
  refine ⟨fun pins s σ H Q I h => ?_⟩
  obtain ⟨hT, h⟩ := h
  refine wpAny_Call_Name_kw (ld_glob I hg hm ?_ hdb)
  refine PySem.W.callWith_K (h₀ := X.base) I.ok.mod.kin hk ?_ (by rfl) (by rfl)
  show wpAny _ _ (spliced ((false, eval (.Lambda params body scope lpos) X.env) :: backTo pos (starEach [] X.env))) _ _ s
  refine Calls.spliced_cons (lam_make2 I TB hcode hmT hu hT hdef (L.has I.ok) fun f c' pm' ctv H1 s' I1 eN T1 hf hfn hfr hco => ?_)
  refine Calls.spliced_nil ⟨I1.kIn, ?_⟩
  have rc : codeAny (model X.prog X.w) X.A (.call (.ref g) ⟨[.ref f], []⟩) (CR C8.CX0 X.stack X.prog X.w H1 s' Q C8.E0) s' := by
    refine run_ofS (N := Ng) (ps := [a]) (us := [.ref f]) (vs := [.ref f]) lk hcg Sg hr I1.env0 (hb s' [.ref f] I1.kIn rfl) (.cons rfl .nil) rfl fun hr' => ?_
    obtain ⟨t', ht', hq'⟩ := hG f c' s' H1 Q (fun E H' Q' => t E σ H' Q') (fun W pn xe E p1 p2 tk hW => pe_actS (i := 0) I1 L hf hfn hfr (hbind _ _ _ _ _) tk hW hr' (fun A outer s H E hr2 => hbody A outer s H E f c' hr2) hNg hva hd hcd) hco (h H1 eN T1)
    exact ⟨t', ht'.nox, hq'⟩
  refine wpAny_call (codeAny_mono rc fun r s2 hq => ?_)
  cases r with
  | error e => exact (show False from hq).elim
  | ok fl =>
    cases fl with
    | ret u => exact I1.after hq
    | next => exact False.elim hq
    | brk => exact False.elim hq
    | cont => exact False.elim hq
end
end L2.TP

/-! Layer O: what stays when a code table grows. -/
namespace L2.TP
open PySem PySem.Spec PyProof.Rows LamX
/-- the table of the code object at c is not written down -/
def noTab (K : PySem.W.Frag) (c : Addr) : Bool := match K.lookup c with
  | some ⟨_, _, .fields vs, _⟩ => match (vs[11]? : Option Value) with
    | some (.ref P) => (K.lookup P).isNone
    | _ => false
  | _ => false
theorem noTab_of {K : PySem.W.Frag} {h : Heap} {c P : Addr} (X : K.In h) (e : noTab K c = true) (t : h.TableAt c P #[]) : K.lookup P = none := by
  obtain ⟨⟨o, vs, e1, _, e3, e4⟩, _⟩ := t
  unfold noTab at e
  split at e
  · rename_i vs' _ hk
    have q := X _ _ hk
    rw [e1] at q
    cases q
    cases e3
    rw [e4] at e
    simpa using e
  · cases e
section
variable {H H' : Hp}
mutual
theorem Dq.extN (e : ExtN H H') : ∀ {v : V} {d : PyData}, Dq H v d → Dq H' v d
  | _, _, .non => .non
  | _, _, .bl b => .bl b
  | _, _, .int i => .int i
  | _, _, .str x => .str x
  | _, _, .lst h t => .lst (e _ _ h fun _ z => by cases z) (DqAll.extN e t)
  | _, _, .tup h t => .tup (e _ _ h fun _ z => by cases z) (DqAll.extN e t)
  | _, _, .dct h t => .dct (e _ _ h fun _ z => by cases z) (DqKv.extN e t)
theorem DqAll.extN (e : ExtN H H') : ∀ {v : List V} {d : List PyData}, DqAll H v d → DqAll H' v d
  | _, _, .nil => .nil
  | _, _, .cons h t => .cons (Dq.extN e h) (DqAll.extN e t)
theorem DqKv.extN (e : ExtN H H') : ∀ {v : List (Key × V)} {d : List (PyData × PyData)}, DqKv H v d → DqKv H' v d
  | _, _, .nil => .nil
  | _, _, .cons h t => .cons (Dq.extN e h) (DqKv.extN e t)
end
theorem SmH.extN (e : ExtN H H') (h : SmH H) : SmH H' := by
  obtain ⟨o, q⟩ := h
  exact ⟨o, e _ _ q fun _ z => by cases z⟩
theorem Pot.extN {p : Addr} {k : Nat} (e : ExtN H H') (h : Pot H p k) : Pot H' p k := by
  obtain ⟨a, b, c, q, r⟩ := h.at_
  exact ⟨a, b, c, e _ _ q (fun _ z => by cases z), r⟩
end
/-- all but the pot at p and the code tables -/
def KeepB (p : Addr) (H H' : Hp) : Prop := ∀ b o, b ≠ p → H b = some o → (∀ ps, o ≠ .tbl ps) → H' b = some o
theorem KeepB.refl {p : Addr} {H : Hp} : KeepB p H H := fun _ _ _ e _ => e
theorem KeepB.trans {p : Addr} {H H1 H2 : Hp} (a : KeepB p H H1) (b : KeepB p H1 H2) : KeepB p H H2 := fun c o n e t => b c o n (a c o n e t) t
theorem KeepB.ofN {p : Addr} {H H1 : Hp} (e : ExtN H H1) : KeepB p H H1 := fun c o _ q t => e c o q t
theorem KeepB.of {p : Addr} {H H1 : Hp} (e : Ext H H1) : KeepB p H H1 := fun c o _ q _ => e c o q
theorem KeepB.ofW {p : Addr} {k : Nat} {H G H1 : Hp} (e : Ext (butP H p) G) (w : WP G p k H1) : KeepB p H H1 := fun c o n q _ => w.ext _ _ (e _ _ ((if_neg n).trans q))
/-- the same for the tables -/
theorem Tabs.ofW {p : Addr} {k : Nat} {H G H1 : Hp} {T : List (Addr × Str)} (t : Tabs T H) (hp : ∃ x y z, H p = some (.lst [x, y, z])) (e : Ext (butP H p) G) (w : WP G p k H1) : Tabs T H1 := fun q hq => by
  obtain ⟨ps, h1, h2, h3⟩ := t q hq
  obtain ⟨x, y, z, ep⟩ := hp
  have ne : ∀ {b : Addr} {o : HO}, H b = some o → (∀ xs, o ≠ .lst xs) → H1 b = some o := fun {b o} eb no => by
    have nb : b ≠ p := fun c => by
      rw [c, ep] at eb
      injection eb with eb
      exact no _ eb.symm
    exact w.ext _ _ (e _ _ ((if_neg nb).trans eb))
  refine ⟨ps, ne h1 (fun _ z => by cases z), h2, fun pos cv hc => ?_⟩
  obtain ⟨c, ec, hcc⟩ := h3 pos cv hc
  exact ⟨c, ec, ne hcc (fun _ z => by cases z)⟩
end L2.TP

/-! Layer P: an own error made as a value, not raised. -/
namespace L2.TP
open PySem PySem.Spec PyProof.Rows
section
variable {X : Cx} {C : Addr} {x : Str} {fs : List Str}
/-- x(e, ..): a new error, its dict -/
def tErrV (C : Addr) (fs : List Str) (ta : TA) : TE := fun σ H Q => ta σ H fun vs H1 => vs.length = fs.length ∧ ∀ a d, H1 a = none → H1 d = none → a ≠ d → Q (.ref a) (upd (upd H1 d (.xd (fs.zip vs))) a (ExV (.ref C) (some d) a))
theorem pe_err {e : Expr} {es : List Expr} {ta : TA} {p pos : Pos} {k : Nat} (T : Err X.prog X.K X.mg x fs C) (hfs : fs.length ≤ 1000) (hex : X.ex = []) (hr : Room k X.A) (ha : PA X (e :: es) ta) (hg : Gl X x := by rfl)
    (hdb : (x == ("__debug__" : Str)) = false := by decide)
    (he : starEach (e :: es) X.env = (false, eval e X.env) :: starEach es X.env := by rfl) (hpl : (backTo pos (starEach es X.env)).any (·.1) = false := by rfl) :
    PE X (.Call (.Name x p) (e :: es) [] pos) (tErrV C fs ta) := by
  refine ⟨fun pins s σ H Q I h => ?_⟩
  obtain ⟨fI, fd, TE, hbind⟩ := T.ex
  refine wpAny_Call_Name_kw (ld_glob I hg T.gC ?_ hdb)
  refine PySem.W.callWith_K (h₀ := X.base) I.ok.mod.kin T.kC (thn (ha.run pos pins s σ H _ I h) fun us s1 hh => ?_) he hpl
  obtain ⟨vs, H1, I1, r1, hl, q1⟩ := hh
  refine ⟨I1.kIn, ?_⟩
  show wpAny _ _ (call (.ref C) us) _ _ _
  have hlim := I1.nolimit
  obtain ⟨mb, hmb, hbb⟩ := I1.mod.blt
  have hul : us.length = fs.length := r1.length.symm.trans hl
  have hgl := I1.mod.glob.keeps I1.bk
  have hbl := hmb.keeps I1.bk
  have kin := I1.kIn
  obtain ⟨hp, g, dr, tk, os⟩ := s1
  refine wpAny_call (PySem.TPX.err_made (us := us) (vs := us) TE hul (by rw [hul]; exact Nat.le_trans hfs (by decide)) kin hlim hgl hbl hbb (by have := hr.dp; omega) (fun s' x' kk => ?_) fun h' tk' a d M => ?_)
  · have z := hbind s' (.ref x' :: us) kk (by simp [hul])
    rw [List.append_nil] at z
    exact z
  show EP X pins σ Q (.ref a) ⟨h', g, dr, tk', os⟩
  obtain ⟨oe, fv, hoe, hc, hd, hdat, h1, _, _⟩ := M.obj
  obtain ⟨mA, hns, hmA⟩ := M.ns
  have na : H1 a = none := I1.hok.fresh M.new
  have nd : H1 d = none := I1.hok.fresh M.dbig
  have J : Inv X pins σ (upd H1 d (.xd (fs.zip vs))) ⟨h', g, dr, tk', os⟩ := I1.laid (t' := tk') M.keep M.dbig ⟨mA, hns, fun f => by rw [hmA f]; exact relO_zip r1 f⟩
  have out : ∀ o, hp.get? a ≠ some o := fun o z => absurd (Heap.lt_size z) (Nat.not_lt.mpr M.new)
  have n0 : X.s_0.heap.get? a = none := by
    cases q : X.s_0.heap.get? a with
    | none => rfl
    | some o =>
      obtain ⟨o', z⟩ := I1.base.there a o q (by rw [hex]; simp)
      exact (out _ z).elim
  have na2 : upd H1 d (.xd (fs.zip vs)) a = none := by
    rw [upd_ne (Ne.symm M.dne)]
    exact na
  refine ⟨.ref a, _, Inv.track J n0 na2 (exV_ok hoe ⟨hc, hd⟩ hdat) (fun z => ?_) (fun y c e z => ?_) (fun p hp' z => ?_), rfl, q1 a d na nd (Ne.symm M.dne)⟩
  · obtain ⟨m, ⟨o, es', ep, eo, _⟩, _⟩ := I1.loc
    rw [← z] at eo
    exact out _ eo
  · obtain ⟨v, o, ho, _⟩ := I1.cell y c e
    rw [z] at ho
    exact out _ ho
  · obtain ⟨p1, _⟩ := I1.pin p hp'
    rw [z] at p1
    exact out _ p1
end
end L2.TP

/-! Layer Q: an own error class called with keywords. -/
namespace PySem.TPX
open PySem PySem.Spec PySem.Calls PyProof.Rows PySem.HandSPX
section
variable {M : Model} {A : Around} {E : Value → Shared → Prop} {h : Heap} {g : Array GenState} {d : Drawn} {t : Nat} {os : OsState}
variable {nm q : Str} {C N : Addr} {bs bm bmB : List Value} {hdct : Bool} {sn : List Str} {sub : List Value} {ab : Bool} {col : Option Bool} {dd : Option Addr} {k0 k1 k2 k3 k5 : Option Value} {B newId initId : String}
theorem check_new_kw (F : ExcBaseFacts B newId initId bmB) (hT : ∀ X : String, bm.contains (.type X) = bmB.contains (.type X)) {rest : List Value} {kw : List (Str × Value)} {Q : Unit → Shared → Prop}
    (hC : h.get? C = some (excClassObj nm q C N bs bm hdct sn sub ab col dd k0 k1 k2 k3 k5 newId)) (hq : Q () ⟨h, g, d, t, os⟩) : wpAny M A (checkBuiltinCall newId ⟨.ref C :: rest, kw⟩) Q E ⟨h, g, d, t, os⟩ := by
  have cB : (Value.ref C :: bm).contains (.type B) = true := by rw [List.contains_cons, hT, F.hasB, Bool.or_true]
  have st := F.noStar
  simp only [checkBuiltinCall, F.newKind, F.newSplit, F.newRow]
  repeat (first | refine wpAny_loadPart_at hC ?_ | (refine wpAny_isSubtype_exc hC ?_; rw [cB]) | refine wpAny_staticBase_exc hC ?_ | refine wpAny_madeBy_exc hC ?_ | simp only [bne_self_eq_false, Bool.false_eq_true, if_false] | wp_step)
  exact hq
end
section
variable {prog : Program} {w : World} {A : Around} {E : Value → Shared → Prop} {R : Result → Shared → Prop} {h : Heap} {g : Array GenState} {d : Drawn} {t : Nat} {os : OsState}
variable {nm q : Str} {C N : Addr} {bs bm bmB : List Value} {hdct : Bool} {sn : List Str} {sub : List Value} {ab : Bool} {col : Option Bool} {dd : Option Addr} {k0 k1 k2 k3 k5 : Option Value} {B newId initId : String} {kw : List (Str × Value)}
open Builtin Builtin.ObjectAttr
theorem new_kw (F : ExcBaseFacts B newId initId bmB) (hT : ∀ X : String, bm.contains (.type X) = bmB.contains (.type X)) {rest : List Value}
    (hC : h.get? C = some (excClassObj nm q C N bs bm hdct sn sub ab col dd k0 k1 k2 k3 k5 newId))
    (hq : R (.ok (.ret (.ref (h.objs.size + 1)))) ⟨(h.push (W.kdv_tup rest)).push (excO C h.objs.size), g, d, t, os⟩) (hrest : rest.length ≤ sizeLine) :
    codeAny (model prog w) A (.builtin newId ⟨.ref C :: rest, kw⟩) R ⟨h, g, d, t, os⟩ := by
  have hE := F.ends
  have cB : (Value.ref C :: bm).contains (.type B) = true := by rw [List.contains_cons, hT, F.hasB, Bool.or_true]
  have cA : (Value.ref C :: bm).contains (.type "AttributeError") = false := by rw [List.contains_cons, hT, F.noAttr]; rfl
  have cN : (Value.ref C :: bm).contains (.type "NameError") = false := by rw [List.contains_cons, hT, F.noName]; rfl
  refine codeAny_builtinAt F.entry ?_
  unfold Builtin.«BaseException.__new__»
  refine wpAt_bind ?_
  show wpAt _ _ _ (stack >>= _) _ _ _
  refine wpAt_bind (wpAt_stack fun p below => wpAt_of_wpAny ?_)
  wp_walk
  refine wpAt_of_wpAny ?_
  rw [F.owner]
  repeat (first | with_reducible refine wpAny_madeHere_exc F.canon hC ?_ | with_reducible refine wpAny_loadPart_at hC ?_ | (with_reducible refine wpAny_isSubtype_exc hC ?_; first | rw [cB] | rw [cA] | rw [cN]) | wp_step)
  show R _ _
  rw [Heap.size_push]
  exact hq
theorem type_call_kw (F : ExcBaseFacts B newId initId bmB) (hT : ∀ X : String, bm.contains (.type X) = bmB.contains (.type X)) {rest : List Value} {fI : Addr} {Q : Fin → Shared → Prop}
    (hC : h.get? C = some (excClassObj nm q C N bs bm hdct sn sub ab col dd k0 k1 k2 k3 k5 newId))
    (hi : W.Looks (model prog w) h (typeLookup (.ref C) "__init__") (some (.ref fI))) (hb : ∀ self, W.Looks (model prog w) h (bindSpecial (.ref fI) self) (.ref fI, [self])) (hrest : rest.length ≤ sizeLine)
    (hq : codeAny (model prog w) A (.call (.ref fI) ⟨.ref (h.objs.size + 1) :: rest, kw⟩)
      (fun r s' => match r with | .ok (.ret v) => v = .none ∧ Q (.done (.ret (.ref (h.objs.size + 1)))) s' | .ok _ => False | .error e => E e s')
      ⟨(h.push (W.kdv_tup rest)).push (excO C h.objs.size), g, d, t, os⟩) :
    wpAny (model prog w) A (Builtin.«type.__call__» ⟨.ref C :: rest, kw⟩) Q E ⟨h, g, d, t, os⟩ := by
  repeat (first | with_reducible refine wpAny_loadPart_at hC ?_ | with_reducible refine wpAny_madeBy_exc hC ?_ | wp_step)
  refine codeAny_call_builtin_code (Code.quiet_builtin _ F.quiet) (check_new_kw F hT hC ?_)
  refine new_kw F hT hC ?_ hrest
  show wpAny _ _ _ _ _ _
  have kk : ∀ b o, h.get? b = some o → ((h.push (W.kdv_tup rest)).push (excO C h.objs.size)).get? b = some o := fun b o e => Heap.get?_push_of_some _ (Heap.get?_push_of_some _ e)
  have hC1 := kk _ _ hC
  have hgt : ((h.push (W.kdv_tup rest)).push (excO C h.objs.size)).get? (h.objs.size + 1) = some (excO C h.objs.size) := by heap_get
  have cC : (Value.ref C :: bm).contains (.ref C) = true := by simp
  have i1 := hi.keeps kk
  have b1 := (hb (.ref (h.objs.size + 1))).keeps kk
  unfold isInstance
  repeat (first | with_reducible refine wpAny_loadPart_at hgt ?_ | (with_reducible refine wpAny_isSubtype_exc hC1 ?_; rw [cC]) | wp_step)
  show wpAny _ _ (typeLookup (.ref C) _) _ _ _
  refine i1.at ?_
  refine wpAny_holding (wpAny_bind (b1.at ?_))
  refine wpAny_bind (wpAny_call (codeAny_mono hq fun r s' z => ?_))
  rcases r with e | (v | _ | _ | _) <;> first | exact z | exact z.elim | skip
  obtain ⟨rfl, z⟩ := z
  first
    | exact wpAny_pure (wpAny_pure z)
    | (wp_walk; exact z)
theorem call_kw (F : ExcBaseFacts B newId initId bmB) (hT : ∀ X : String, bm.contains (.type X) = bmB.contains (.type X)) {rest : List Value} {fI : Addr}
    (hC : h.get? C = some (excClassObj nm q C N bs bm hdct sn sub ab col dd k0 k1 k2 k3 k5 newId))
    (hi : W.Looks (model prog w) h (typeLookup (.ref C) "__init__") (some (.ref fI))) (hb : ∀ self, W.Looks (model prog w) h (bindSpecial (.ref fI) self) (.ref fI, [self])) (hrest : rest.length ≤ sizeLine)
    (hq : codeAny (model prog w) (A.under (.builtin "type.__call__" ⟨.ref C :: rest, kw⟩)) (.call (.ref fI) ⟨.ref (h.objs.size + 1) :: rest, kw⟩) (W.InitBack (h.objs.size + 1) R)
      ⟨(h.push (W.kdv_tup rest)).push (excO C h.objs.size), g, d, t, os⟩) :
    codeAny (model prog w) A (.call (.ref C) ⟨rest, kw⟩) R ⟨h, g, d, t, os⟩ := by
  have f1 := tc_lookup
  have f2 := tc_bind (.ref C)
  have hTy : (⟨h, g, d, t, os⟩ : Shared).TypeIs (.ref C) "type" := ⟨_, hC, rfl⟩
  refine codeAny_of_tree ?_
  show wpAny _ _ (callAny (.ref C) _) _ _ _
  repeat (any_goals (first | assumption | with_reducible refine wpAny_loadPart_at hC ?_ | wp_step))
  refine ⟨rfl, ?_⟩
  refine codeAny_call_builtin_at (Code.quiet_builtin _ (by decide +kernel)) entry_typeCall (wpAny_check_type_call_sub hC (type_call_kw F hT hC hi hb hrest ?_))
  refine codeAny_mono hq fun r s' z => ?_
  rcases r with e | (v | _ | _ | _) <;> exact z
end
end PySem.TPX

/-! Layer R: an own error made as a value by keywords alone. -/
namespace PySem.TPX
open PySem PySem.Spec PySem.Calls PyProof.Rows PySem.W PySem.HandSPX
section
variable {prog : Program} {w : World} {A : Around} {R : Result → Shared → Prop} {s : Shared} {K : Frag} {mg mb : Str → Option Value} {C fI : Addr} {fs : List Str} {fd : FuncData}
theorem err_madeK (T : ErrK prog K fs C fI fd) {us vs : List Value} {kw : List (Str × Value)} (hl : vs.length = fs.length) (hul : us.length ≤ sizeLine) (X : K.In s.heap) (hlim : s.heap.NoLimit)
    (hgl : s.heap.Ns mainGlobals mg) (hbl : s.heap.Ns builtinsNs mb) (hbb : ∀ x : Str, x ≠ "__name__" → mb x = bootBuiltins x) (hroom : A.depth + 1 < recursionLimit)
    (hbind : ∀ (s : Shared) (x : Addr), K.In s.heap → BindsTo s fd ⟨.ref x :: us, kw⟩ (("self", .ref x) :: fs.zip vs))
    (hq : ∀ h' tk e d, ErrMade fs vs s.heap h' e C d → R (.ok (.ret (.ref e))) { s with heap := h', toks := tk }) :
    codeAny (model prog w) A (.call (.ref C) ⟨us, kw⟩) R s := by
  obtain ⟨nm, q, N, bs, bm, sn, sub, ab, col, dd, k0, k1, k2, k3, k5, hC, hbm⟩ := T.cls
  obtain ⟨hp, g, dr, tk, os⟩ := s
  have k : ∀ b o, hp.get? b = some o → ((hp.push (kdv_tup us)).push (excO C hp.objs.size)).get? b = some o := fun b o e => Heap.get?_push_of_some _ (Heap.get?_push_of_some _ e)
  have hget : ((hp.push (kdv_tup us)).push (excO C hp.objs.size)).get? (hp.objs.size + 1) = some (excO C hp.objs.size) := by heap_get
  have hnx : K.lookup (hp.objs.size + 1) = none := by
    cases e : K.lookup (hp.objs.size + 1) with
    | none => rfl
    | some o => exact absurd (Nat.lt_of_succ_lt (Heap.lt_size (X _ _ e))) (Nat.lt_irrefl _)
  refine call_kw F.excBase_ValueError (fun Z => refsVE_contains Z bm hbm) (X _ _ hC) (looks_findIn X T.iC) (fun self => bind_fn X self T.tI) hul ?_
  refine err_init (s := ⟨(hp.push (kdv_tup us)).push (excO C hp.objs.size), g, dr, tk, os⟩) T hl (X.keeps k) (hlim.keeps k) (hgl.keeps k) (hbl.keeps k) hbb hget hnx ?_ (hbind _ _ (X.keeps k)) fun h' tk' dx I => ?_
  · show A.depth + 1 < recursionLimit
    exact hroom
  · obtain ⟨k', ⟨t1, hx⟩, dn, dne, hns⟩ := I
    have old : ∀ b o, hp.get? b = some o → h'.get? b = some o := fun b o e => k' b o (Nat.ne_of_lt (Nat.lt_succ_of_lt (Heap.lt_size e))) (k b o e)
    have z : hp.objs.size + 1 + 1 ≤ dx := by
      have q := dn
      simp only [Heap.size_push] at q
      exact q
    exact ⟨rfl, hq h' tk' (hp.objs.size + 1) dx ⟨old, Nat.le_succ _, ⟨_, _, hx, rfl, rfl, rfl, rfl, rfl, by show 4 < 6; decide⟩, Nat.le_trans (Nat.le_trans (Nat.le_succ _) (Nat.le_succ _)) z, dne, hns⟩⟩
end
end PySem.TPX
namespace L2.TP
open PySem PySem.Spec PyProof.Rows
/-- what the text says of an error x whose __init__ is given ks by name, the others from their defaults dvs -/
structure ErrW (prog : Program) (K : PySem.W.Frag) (mg : Str → Option Value) (x : Str) (fs ks : List Str) (dvs : List V) (C : Addr) : Prop where
  ex : ∃ (fI : Addr) (fd : FuncData) (its : List Value), PySem.TPX.ErrK prog K fs C fI fd ∧ Vals dvs its ∧ ∀ (s : Shared) (x : Addr) (ws : List Value), K.In s.heap → ws.length = ks.length → BindsTo s fd ⟨[.ref x], ks.zip ws⟩ (("self", .ref x) :: fs.zip (ws ++ its))
  gC : mg x = some (.ref C)
  kC : PySem.W.keepIn K (.ref C) = true
section
variable {X : Cx} {C : Addr} {x : Str} {fs ks : List Str} {dvs : List V}
def tErrK (C : Addr) (fs : List Str) (n : Nat) (dvs : List V) (tk : TA) : TE := fun σ H Q => tk σ H fun zs H1 => zs.length = n ∧ (zs ++ dvs).length = fs.length ∧ ∀ a d, H1 a = none → H1 d = none → a ≠ d → Q (.ref a) (upd (upd H1 d (.xd (fs.zip (zs ++ dvs)))) a (ExV (.ref C) (some d) a))
/-- x(k = v, ..) -/
theorem pe_errK {kws : List Keyword} {tk : TA} {p pos : Pos} {k : Nat} (T : ErrW X.prog X.K X.mg x fs ks dvs C) (hex : X.ex = []) (hr : Room k X.A) (hkw : PK X kws tk) (hg : Gl X x := by rfl)
    (hall : (backToKw pos (keywordEach kws X.env)).all (·.1.isSome) = true := by rfl) (hks : (backToKw pos (keywordEach kws X.env)).filterMap (·.1) = ks := by rfl) (hdb : (x == ("__debug__" : Str)) = false := by decide)
    (hpl : ((backTo pos (starEach [] X.env)).any (·.1) || (backToKw pos (keywordEach kws X.env)).any (·.1.isNone)) = false := by rfl) :
    PE X (.Call (.Name x p) [] kws pos) (tErrK C fs ks.length dvs tk) := by
  refine ⟨fun pins s σ H Q I h => ?_⟩
  obtain ⟨fI, fd, its, TE, rd, hbind⟩ := T.ex
  refine wpAny_Call_Name_kw (ld_glob I hg T.gC ?_ hdb)
  refine PySem.W.callWith_KW0 (h₀ := X.base) I.ok.mod.kin T.kC hall ?_ hpl
  refine thn (hkw.run pos pins s σ H _ I h) fun ws s1 hh => ?_
  obtain ⟨zs, H1, I1, r1, hl, hl2, q1⟩ := hh
  refine ⟨I1.kIn, ?_⟩
  rw [hks]
  show wpAny _ _ (call (.ref C) [] (ks.zip ws)) _ _ _
  have hlim := I1.nolimit
  obtain ⟨mb, hmb, hbb⟩ := I1.mod.blt
  have hwl : ws.length = ks.length := r1.length.symm.trans hl
  have hvl : (ws ++ its).length = fs.length := (r1.append rd).length.symm.trans hl2
  have hgl := I1.mod.glob.keeps I1.bk
  have hbl := hmb.keeps I1.bk
  have kin := I1.kIn
  obtain ⟨hp, g, dr, tk, os⟩ := s1
  refine wpAny_call (PySem.TPX.err_madeK (us := []) (vs := ws ++ its) TE hvl (by decide) kin hlim hgl hbl hbb (by have := hr.dp; omega) (fun s' x' kk => hbind s' x' ws kk hwl) fun h' tk' a d M => ?_)
  show EP X pins σ Q (.ref a) ⟨h', g, dr, tk', os⟩
  obtain ⟨oe, fv, hoe, hc, hd, hdat, h1, _, _⟩ := M.obj
  obtain ⟨mA, hns, hmA⟩ := M.ns
  have na : H1 a = none := I1.hok.fresh M.new
  have nd : H1 d = none := I1.hok.fresh M.dbig
  have J : Inv X pins σ (upd H1 d (.xd (fs.zip (zs ++ dvs)))) ⟨h', g, dr, tk', os⟩ := I1.laid (t' := tk') M.keep M.dbig ⟨mA, hns, fun f => by rw [hmA f]; exact relO_zip (r1.append rd) f⟩
  have out : ∀ o, hp.get? a ≠ some o := fun o z => absurd (Heap.lt_size z) (Nat.not_lt.mpr M.new)
  have n0 : X.s_0.heap.get? a = none := by
    cases q : X.s_0.heap.get? a with
    | none => rfl
    | some o =>
      obtain ⟨o', z⟩ := I1.base.there a o q (by rw [hex]; simp)
      exact (out _ z).elim
  have na2 : upd H1 d (.xd (fs.zip (zs ++ dvs))) a = none := by
    rw [upd_ne (Ne.symm M.dne)]
    exact na
  refine ⟨.ref a, _, Inv.track J n0 na2 (exV_ok hoe ⟨hc, hd⟩ hdat) (fun z => ?_) (fun y c e z => ?_) (fun p hp' z => ?_), rfl, q1 a d na nd (Ne.symm M.dne)⟩
  · obtain ⟨m, ⟨o, es', ep, eo, _⟩, _⟩ := I1.loc
    rw [← z] at eo
    exact out _ eo
  · obtain ⟨v, o, ho, _⟩ := I1.cell y c e
    rw [z] at ho
    exact out _ ho
  · obtain ⟨p1, _⟩ := I1.pin p hp'
    rw [z] at p1
    exact out _ p1
end
end L2.TP

/-! Layer S: drawn values: new things beside the pot, small data that is known. -/
namespace L2.TP
open PySem PySem.Spec PyProof.Rows
theorem WP.newG {G H : Hp} {p x : Addr} {n : Nat} (o : HO) (w : WP G p n H) (h : H x = none) : ∃ G', Ext G G' ∧ G' x = some o ∧ WP G' p n (upd H x o) := ⟨_, ext_upd (ext_none w.ext h), upd_same, w.new h⟩
theorem WP.newD {G H : Hp} {p x : Addr} {n : Nat} (o o' : HO) (w : WP G p n H) (h : H x = none) : ∃ G', Ext G G' ∧ G' x = some o' ∧ WP G' p n (upd (upd H x o) x o') := by
  rw [upd_upd]
  exact WP.newG o' w h
/-- small data that stands in G -/
def Val (G : Hp) (i : Nat) (v : V) : Prop := ∃ d, Dq G v d ∧ Sd (2 + i) (60 + 10 * i) d
theorem Val.ext {G G' : Hp} {i : Nat} {v : V} (h : Val G i v) (e : Ext G G') : Val G' i v := by
  obtain ⟨d, h1, h2⟩ := h
  exact ⟨d, h1.ext e, h2⟩
theorem Val.mono {G : Hp} {i j : Nat} {v : V} (h : Val G i v) (e : i ≤ j) : Val G j v := by
  obtain ⟨d, h1, h2⟩ := h
  exact ⟨d, h1, h2.mono (by omega) (by omega)⟩
theorem sd0 {d : PyData} (h : (decide (d.depth ≤ 2) && decide (d.weight ≤ 60) && d.leavesShort 20 && d.showable) = true) : Sd 2 60 d := by
  obtain ⟨h, h4⟩ := Bool.and_eq_true_iff.mp h
  obtain ⟨h, h3⟩ := Bool.and_eq_true_iff.mp h
  obtain ⟨h1, h2⟩ := Bool.and_eq_true_iff.mp h
  exact ⟨of_decide_eq_true h1, of_decide_eq_true h2, h3, h4⟩
theorem val_of {G : Hp} {v : V} (d : PyData) (h : Dq G v d) (s : (decide (d.depth ≤ 2) && decide (d.weight ≤ 60) && d.leavesShort 20 && d.showable) = true) : Val G 0 v := ⟨d, h, sd0 s⟩
theorem str_eq {x : Str} : decide (V.str x = V.str x) = true := decide_eq_true rfl
theorem tabs_put {T : List (Addr × Str)} {H : Hp} {D : Addr} {xs : List V} {o : HO} (t : LamX.Tabs T H) (hD : H D = some (.lst xs)) : LamX.Tabs T (upd H D o) := fun pr hpr => by
  obtain ⟨ps, h1, h2, h3⟩ := t pr hpr
  have nl : ∀ {b : Addr} {u : HO}, H b = some u → (∀ xs, u ≠ .lst xs) → upd H D o b = some u := fun {b u} hb no => by
    have nb : b ≠ D := fun c => by
      rw [c, hD] at hb
      injection hb with hb
      exact no _ hb.symm
    rw [upd_ne nb]
    exact hb
  refine ⟨ps, nl h1 (fun _ z => by cases z), h2, fun pos cv hc => ?_⟩
  obtain ⟨c, ec, hcc⟩ := h3 pos cv hc
  exact ⟨c, ec, nl hcc (fun _ z => by cases z)⟩
theorem sm_put {H : Hp} {D : Addr} {xs : List V} {o : HO} (t : SmH H) (hD : H D = some (.lst xs)) : SmH (upd H D o) := by
  obtain ⟨oS, e⟩ := t
  have nb : sysModules ≠ D := fun c => by
    rw [c, hD] at e
    cases e
  exact ⟨oS, (upd_ne nb).trans e⟩
/-- the script is kept -/
theorem sq_keep {K : PySem.W.Frag} {H H' : Hp} {a : Addr} {xs : List V} (h : SqL K H a xs) (k : ∀ o, H a = some o → (∀ ps, o ≠ .tbl ps) → H' a = some o) : SqL K H' a xs := by
  rcases h with (h | ⟨o, h⟩) | h
  · exact .inl (.inl (k _ h fun _ z => by cases z))
  · exact .inl (.inr ⟨o, k _ h fun _ z => by cases z⟩)
  · exact .inr h
/-- small ints -/
theorem sd_int {i : Int} (h0 : 0 ≤ i) (h1 : i < 10) : Sd 0 4 (.int i) := by
  have h : i = 0 ∨ i = 1 ∨ i = 2 ∨ i = 3 ∨ i = 4 ∨ i = 5 ∨ i = 6 ∨ i = 7 ∨ i = 8 ∨ i = 9 := by omega
  rcases h with rfl | rfl | rfl | rfl | rfl | rfl | rfl | rfl | rfl | rfl
  all_goals exact ⟨by decide, by decide +kernel, by decide +kernel, by decide +kernel⟩
theorem SdA.mono {k k' w w' : Nat} {d : List PyData} (h : SdA k w d) (hk : k ≤ k') (hw : w ≤ w') : SdA k' w' d := ⟨Nat.le_trans h.dep hk, Nat.le_trans h.wt hw, h.short, h.shw⟩
/-- a list of small things -/
theorem sdA_of {k w : Nat} : ∀ {ds : List PyData}, (∀ d ∈ ds, Sd k w d) → SdA k ((w + 1) * ds.length) ds
  | [], _ => SdA.nil
  | d :: ds, h => by
    refine (SdA.cons (h d List.mem_cons_self) (sdA_of fun e he => h e (List.mem_cons_of_mem _ he))).mono (Nat.le_refl _) ?_
    rw [List.length_cons, Nat.mul_succ]
    omega
/-- ints as data -/
theorem dqAll_ints {H : Hp} : ∀ {ns : List Int}, DqAll H (ns.map V.int) (ns.map PyData.int)
  | [] => .nil
  | _ :: _ => .cons (.int _) dqAll_ints
theorem dqAll_app {H : Hp} : ∀ {xs ys : List V} {ds es : List PyData}, DqAll H xs ds → DqAll H ys es → DqAll H (xs ++ ys) (ds ++ es)
  | _, _, _, _, .nil, h => h
  | _, _, _, _, .cons a t, h => .cons a (dqAll_app t h)
theorem sdA_app {k w w' : Nat} : ∀ {ds es : List PyData}, SdA k w ds → SdA k w' es → SdA k (w + w') (ds ++ es)
  | [], es, _, h => h.mono (Nat.le_refl _) (Nat.le_add_left _ _)
  | d :: ds, es, ⟨a1, a2, a3, a4⟩, h => by
    have a1 : max d.depth (PyData.depthAll ds) ≤ k := a1
    have a2 : d.weight + 1 + PyData.weightAll ds ≤ w := a2
    have a3 : (d.leavesShort 20 && PyData.leavesShortAll 20 ds) = true := a3
    have a4 : (d.showable && PyData.showableAll ds) = true := a4
    obtain ⟨a3, b3⟩ := Bool.and_eq_true_iff.mp a3
    obtain ⟨a4, b4⟩ := Bool.and_eq_true_iff.mp a4
    have t := sdA_app (ds := ds) (w := w - d.weight - 1) ⟨by omega, by omega, b3, b4⟩ h
    exact (SdA.cons (d := d) (k := k) (w := d.weight) ⟨by omega, Nat.le_refl _, a3, a4⟩ t).mono (Nat.le_refl _) (by omega)
theorem WP.over {G H : Hp} {p D : Addr} {o o' : HO} {m : Nat} (w : WP (upd G D o) p m H) (h : G D = none) : WP (upd G D o') p m (upd H D o') := by
  have ne : p ≠ D := fun z => by
    have := w.no
    rw [z, upd_same] at this
    cases this
  obtain ⟨a, b, c, q, h2⟩ := w.pot.at_
  have n1 := w.no
  rw [upd_ne ne] at n1
  exact ⟨ext_both ((ext_upd h).trans w.ext), by rw [upd_ne ne]; exact n1, ⟨a, b, c, by rw [upd_ne ne]; exact q, h2⟩⟩
end L2.TP

/-! Layer T: an own error made as a value by position, its last fields from their defaults. -/
namespace L2.TP
open PySem PySem.Spec PyProof.Rows
/-- what the text says of an error x whose __init__ is given np things by position, the others from their defaults dvs -/
structure ErrP (prog : Program) (K : PySem.W.Frag) (mg : Str → Option Value) (x : Str) (fs : List Str) (np : Nat) (dvs : List V) (C : Addr) : Prop where
  ex : ∃ (fI : Addr) (fd : FuncData) (its : List Value), PySem.TPX.ErrK prog K fs C fI fd ∧ Vals dvs its ∧ ∀ (s : Shared) (x : Addr) (us : List Value), K.In s.heap → us.length = np → BindsTo s fd ⟨.ref x :: us, []⟩ (("self", .ref x) :: fs.zip (us ++ its))
  gC : mg x = some (.ref C)
  kC : PySem.W.keepIn K (.ref C) = true
section
variable {X : Cx} {C : Addr} {x : Str} {fs : List Str} {np : Nat} {dvs : List V}
def tErrP (C : Addr) (fs : List Str) (np : Nat) (dvs : List V) (ta : TA) : TE := fun σ H Q => ta σ H fun vs H1 => vs.length = np ∧ (vs ++ dvs).length = fs.length ∧ ∀ a d, H1 a = none → H1 d = none → a ≠ d → Q (.ref a) (upd (upd H1 d (.xd (fs.zip (vs ++ dvs)))) a (ExV (.ref C) (some d) a))
theorem pe_errP {e : Expr} {es : List Expr} {ta : TA} {p pos : Pos} {k : Nat} (T : ErrP X.prog X.K X.mg x fs np dvs C) (hnp : np ≤ 1000) (hex : X.ex = []) (hr : Room k X.A) (ha : PA X (e :: es) ta) (hg : Gl X x := by rfl)
    (hdb : (x == ("__debug__" : Str)) = false := by decide)
    (he : starEach (e :: es) X.env = (false, eval e X.env) :: starEach es X.env := by rfl) (hpl : (backTo pos (starEach es X.env)).any (·.1) = false := by rfl) :
    PE X (.Call (.Name x p) (e :: es) [] pos) (tErrP C fs np dvs ta) := by
  refine ⟨fun pins s σ H Q I h => ?_⟩
  obtain ⟨fI, fd, its, TE, rd, hbind⟩ := T.ex
  refine wpAny_Call_Name_kw (ld_glob I hg T.gC ?_ hdb)
  refine PySem.W.callWith_K (h₀ := X.base) I.ok.mod.kin T.kC (thn (ha.run pos pins s σ H _ I h) fun us s1 hh => ?_) he hpl
  obtain ⟨vs, H1, I1, r1, hl, hl2, q1⟩ := hh
  refine ⟨I1.kIn, ?_⟩
  show wpAny _ _ (call (.ref C) us) _ _ _
  have hlim := I1.nolimit
  obtain ⟨mb, hmb, hbb⟩ := I1.mod.blt
  have hul : us.length = np := r1.length.symm.trans hl
  have hvl : (us ++ its).length = fs.length := (r1.append rd).length.symm.trans hl2
  have hgl := I1.mod.glob.keeps I1.bk
  have hbl := hmb.keeps I1.bk
  have kin := I1.kIn
  obtain ⟨hp, g, dr, tk, os⟩ := s1
  refine wpAny_call (PySem.TPX.err_made (us := us) (vs := us ++ its) TE hvl (by rw [hul]; exact Nat.le_trans hnp (by decide)) kin hlim hgl hbl hbb (by have := hr.dp; omega) (fun s' x' kk => hbind s' x' us kk hul) fun h' tk' a d M => ?_)
  show EP X pins σ Q (.ref a) ⟨h', g, dr, tk', os⟩
  obtain ⟨oe, fv, hoe, hc, hd, hdat, h1, _, _⟩ := M.obj
  obtain ⟨mA, hns, hmA⟩ := M.ns
  have na : H1 a = none := I1.hok.fresh M.new
  have nd : H1 d = none := I1.hok.fresh M.dbig
  have J : Inv X pins σ (upd H1 d (.xd (fs.zip (vs ++ dvs)))) ⟨h', g, dr, tk', os⟩ := I1.laid (t' := tk') M.keep M.dbig ⟨mA, hns, fun f => by rw [hmA f]; exact relO_zip (r1.append rd) f⟩
  have out : ∀ o, hp.get? a ≠ some o := fun o z => absurd (Heap.lt_size z) (Nat.not_lt.mpr M.new)
  have n0 : X.s_0.heap.get? a = none := by
    cases q : X.s_0.heap.get? a with
    | none => rfl
    | some o =>
      obtain ⟨o', z⟩ := I1.base.there a o q (by rw [hex]; simp)
      exact (out _ z).elim
  have na2 : upd H1 d (.xd (fs.zip (vs ++ dvs))) a = none := by
    rw [upd_ne (Ne.symm M.dne)]
    exact na
  refine ⟨.ref a, _, Inv.track J n0 na2 (exV_ok hoe ⟨hc, hd⟩ hdat) (fun z => ?_) (fun y c e z => ?_) (fun p hp' z => ?_), rfl, q1 a d na nd (Ne.symm M.dne)⟩
  · obtain ⟨m, ⟨o, es', ep, eo, _⟩, _⟩ := I1.loc
    rw [← z] at eo
    exact out _ eo
  · obtain ⟨v, o, ho, _⟩ := I1.cell y c e
    rw [z] at ho
    exact out _ ho
  · obtain ⟨p1, _⟩ := I1.pin p hp'
    rw [z] at p1
    exact out _ p1
end
end L2.TP

/-! Layer U: own errors that are made without anything; isinstance of errors with and without a dict. -/
namespace PySem.TPX
open PySem.W PySem.Calls PyProof.Rows PySem.HandSPX
/-- super().__init__() -/
def supS0 (q1 q2 q3 q5 q6 : Pos) : Stmt := .Expr (.Call (.Attribute (.Call (.Name "super" q1) [] [] q2) "__init__" q3) [] [] q5) q6
structure ErrK0 (prog : Program) (K : Frag) (C fI : Addr) (fd : FuncData) : Prop where
  cls : ∃ nm q N bs bm sn sub ab col dd k0 k1 k2 k3 k5, K.lookup C = some (excClassObj nm q C N bs bm true sn sub ab col dd k0 k1 k2 k3 k5 "ValueError.__new__") ∧ refsVE bm = true
  iC : findIn K (.ref C) "__init__" = some (some (.ref fI))
  tI : typeIn K (.ref fI) = some (.type "function")
  sup : ks_superIn K C C "__init__" = some (some (.builtin "ValueError.__init__"))
  sB : subIn K (.ref C) (.type "ValueError") = some true
  mC : mroIn K C (.ref C) = some true
  nS : nsIn K mainGlobals "super" = some none
  tp : nsIn K cStatics "thirdparty.any" = some none
  top : (prog.main.scope.names.lookup ("super" : Str)).isSome = false
  fn : ∃ (oc : Value) (od : Option Addr) (osl : Array (Option Value)) (qual : Str) (params : Arguments) (body : List Stmt) (scope : Scope) (dV kV doc pm : Value) (an : Option Addr) (cda : Addr) (ct : Value) (cc : Addr),
    fd = ksFn "__init__" qual params body scope dV kV doc pm an (.ref cda) ct cc ∧ K.lookup fI = some ⟨oc, od, .func fd, osl⟩ ∧ codeIn K (.ref cda) qual = true ∧
    (∃ ccl cdd vs ccs file tf, K.lookup cda = some ⟨ccl, cdd, .fields vs, ccs⟩ ∧ vs[2]? = some (.str file tf) ∧ ((prog.main.file : Str) == file) = true) ∧
    (∃ cl cld csl, K.lookup cc = some ⟨cl, cld, .cell (some (.ref C)), csl⟩) ∧
    (∃ ar : Arg, (params.posonlyargs ++ params.args).head? = some ar ∧ ar.arg = "self") ∧ IniS [] scope ∧
    ∃ q1 q2 q3 q5 q6, (q3.endLine == q5.line) = true ∧ body = [supS0 q1 q2 q3 q5 q6]
section
variable {prog : Program} {w : World} {A : Around} {E : Value → Shared → Prop} {R : Result → Shared → Prop} {s : Shared} {K : Frag} {mg mb : Str → Option Value} {C fI : Addr} {fd : FuncData}
theorem sup_run0 (T : ErrK0 prog K C fI fd) {x t0 : Addr} {q1 q2 q3 q5 q6 : Pos} {body : List Stmt} {qual : Str} {params : Arguments} {scope : Scope} {dV kV doc pm : Value} {an : Option Addr} {cda cc : Addr} {ct : Value}
    {oc : Value} {od : Option Addr} {osl : Array (Option Value)} {L : Addr} {m : Str → Option Value} {Q : Flow → Shared → Prop}
    (efd : fd = ksFn "__init__" qual params body scope dV kV doc pm an (.ref cda) ct cc) (lf : K.lookup fI = some ⟨oc, od, .func fd, osl⟩)
    (hcode : ∃ ccl cdd vs ccs file tf, K.lookup cda = some ⟨ccl, cdd, .fields vs, ccs⟩ ∧ vs[2]? = some (.str file tf) ∧ ((prog.main.file : Str) == file) = true)
    (hcell : ∃ cl cld csl, K.lookup cc = some ⟨cl, cld, .cell (some (.ref C)), csl⟩)
    (hpos : (q3.endLine == q5.line) = true) (hpar : ∃ ar : Arg, (params.posonlyargs ++ params.args).head? = some ar ∧ ar.arg = "self") (S : IniS [] scope)
    (X : K.In s.heap) (hgl : s.heap.Ns mainGlobals mg) (hbl : s.heap.Ns builtinsNs mb) (hbb : ∀ x : Str, x ≠ "__name__" → mb x = bootBuiltins x)
    (hns : s.heap.Ns L m) (ms : m "self" = some (.ref x)) (hx : s.heap.get? x = some (excO C t0))
    (hq : ∀ h' tk t1, (∀ b o, b ≠ x → s.heap.get? b = some o → h'.get? b = some o) → h'.get? x = some (excO C t1) → Q .next { s with heap := h', toks := tk }) :
    wpAt (model prog w) A (.func body (ksEnv qual scope L fI (.ref cda) cc)) (exec (supS0 q1 q2 q3 q5 q6) (ksEnv qual scope L fI (.ref cda) cc)) Q E s := by
  obtain ⟨nm, q, N, bs, bm, sn, sub, ab, col, dd, k0, k1, k2, k3, k5, hC, hbm⟩ := T.cls
  obtain ⟨ccl, cdd, vs, ccs, file, tf, lc, hvs, hfile⟩ := hcode
  obtain ⟨cl, cld, csl, lcell⟩ := hcell
  obtain ⟨ar, hhead, har⟩ := hpar
  have hcl := clsIn_err hC
  have hC1 := X _ _ hC
  have hInst : InstAt s.heap x (excO C t0) C none := ⟨hx, rfl, rfl, trivial⟩
  refine ks_wpAt_Expr_any ?_ (by show (scope.kind == ScopeKind.module && _) = false; rw [S.kind]; rfl) rfl
  refine ks_wpAt_MethodCall (pl := (do return (← importBound (.Call (.Name "super" q1) [] [] q2) (ksEnv qual scope L fI (.ref cda) cc)).getD true)) ?_ (by
    show (do
      let ov ← attributeBase (.Call (.Name "super" q1) [] [] q2) "__init__" (ksEnv qual scope L fI (.ref cda) cc) (eval (.Call (.Name "super" q1) [] [] q2) (ksEnv qual scope L fI (.ref cda) cc))
      standAt q3.atName
      methodCall (.Call (.Name "super" q1) [] [] q2) "__init__" q3 q5 (ksEnv qual scope L fI (.ref cda) cc) ov 0 (backTo q5 (starEach [] (ksEnv qual scope L fI (.ref cda) cc))) []) = _
    unfold methodCall methodCallPos
    rw [hpos]
    rfl)
  obtain ⟨hh, g, d, tk, os⟩ := s
  refine ks_wpAt_super_base (env := ksEnv qual scope L fI (.ref cda) cc) S.sup S.cls (by decide) rfl (X _ _ lf) rfl (by rw [efd]; exact hhead) rfl (X _ _ lc) rfl hvs hfile T.top ?_
  refine ks_loadName_global S.kind S.sup (loadGlobal_builtin (env := ksEnv qual scope L fI (.ref cda) cc) hgl (mg_none_of X hgl T.nS) hbl ((hbb _ (by decide +kernel)).trans (by decide +kernel)) ⟨rfl, ?_⟩)
  refine wpAny_loadName_free S.kind S.cls rfl ⟨_, X _ _ lcell, rfl⟩ ?_
  refine wpAny_loadName_local S.kind (by rw [har]; exact S.slf) hns (by rw [har]; exact ms) ?_
  refine ks_wpAny_isType_cls hC1 rfl ⟨rfl, ?_⟩
  refine ks_wpAny_call_super hC1 rfl hx rfl (fun c z => nomatch z) (looks_mroIn X T.mC) (fun h1 e1 k1 => ?_)
  have X1 := X.keeps k1
  have hx1 := k1 _ _ hx
  have hI1 : InstAt h1 x (excO C t0) C none := ⟨hx1, rfl, rfl, trivial⟩
  have sup : alongIn K "__init__" ((((Value.ref C :: bm).dropWhile (· != .ref C)).drop 1)) = some (some (.builtin "ValueError.__init__")) := by
    have z := T.sup
    unfold ks_superIn at z
    rw [hcl, Option.bind_some] at z
    exact z
  refine kxs_getMethod kxs_ValueError e1 (looks_opaque X1 T.tp) (l₀ := Value.ref C :: bm) (fun A Q E s k q => wpAny_bind ((looks_clsIn X1 hcl) A _ E s k (wpAny_pure q))) rfl X1 sup (hI1.type.andThen (looks_subIn X1 T.sB)) (ks_ne X1 hI1 hcl) (by decide) ?_
  have k2 : ∀ b o, h1.get? b = some o → (h1.push (kxs_mw "ValueError.__init__" x)).get? b = some o := fun b o e => Heap.get?_push_of_some _ e
  have hu : (h1.push (kxs_mw "ValueError.__init__" x)).get? h1.objs.size = some (kxs_mw "ValueError.__init__" x) := Heap.get?_push_at rfl rfl
  refine kxs_callWith (i := "ValueError.__init__") (x := x) rfl (evalArgs_empty ⟨hu, ?_⟩)
  refine wpAny_call (codeAny_of_tree ?_)
  show wpAny _ A.in1 (callAny (.ref h1.objs.size) ⟨[], []⟩) _ _ _
  simp only [callAny]
  refine wpAny_bind (wpAny_load hu ?_)
  simp only [kxs_mw, show (Value.type "method-wrapper" == Value.type "method" || Value.type "method-wrapper" == Value.type "builtin_function_or_method" || Value.type "method-wrapper" == Value.type "method-wrapper") = true by decide, if_true]
  refine KFB.if_so (by decide) ?_
  refine wpAny_bind (check_bound_init F.excBase_ValueError.toExcCallFacts (k2 _ _ (k1 _ _ hC1)) (k2 _ _ hx1) rfl ?_)
  refine wpAny_bind (wpAny_pure (wpAny_pure ?_))
  refine ⟨plainId_quiet F.excBase_ValueError.init.plain _, codeAny_builtin F.excBase_ValueError.initEntry ?_⟩
  refine exc_init_tree (cls := .ref C) (t0 := t0) (dv := none) (c2 := .none) (c3 := .none) (b4 := .bool false) (k2 _ _ hx1) (by show 0 ≤ sizeLine; exact Nat.zero_le _) (fun h' kk e' t' => ?_)
  exact hq h' _ _ (fun b o hb e => kk b o hb (k2 _ _ (k1 _ _ e))) e'
theorem err_init0 (T : ErrK0 prog K C fI fd) {x t0 : Addr} {args : Args} (X : K.In s.heap) (hlim : s.heap.NoLimit)
    (hgl : s.heap.Ns mainGlobals mg) (hbl : s.heap.Ns builtinsNs mb) (hbb : ∀ x : Str, x ≠ "__name__" → mb x = bootBuiltins x)
    (hx : s.heap.get? x = some (excO C t0)) (hnx : K.lookup x = none) (hroom : A.depth < recursionLimit)
    (hbind : BindsTo s fd args [("self", .ref x)])
    (hq : ∀ h' tk t1, (∀ b o, b ≠ x → s.heap.get? b = some o → h'.get? b = some o) → h'.get? x = some (excO C t1) → R (.ok (.ret .none)) { s with heap := h', toks := tk }) :
    codeAny (model prog w) A (.call (.ref fI) args) R s := by
  obtain ⟨oc, od, osl, qual, params, body, scope, dV, kV, doc, pm, an, cda, ct, cc, efd, lf, hcd, hcode, hcell, hpar, S, hshape⟩ := T.fn
  have hloc : ∀ y ∈ ([("self", .ref x)] : List (Str × Value)), scope.names.lookup y.1 = some .local := fun y hy => by
    rw [List.mem_singleton.mp hy]
    exact S.slf
  subst efd
  refine ks_codeAny_call_defAt (body := body) (binds := [("self", .ref x)]) hroom (X _ _ lf) rfl hlim (codeRec_of X hcd) rfl hbind S.nocell hloc (fun h1 hns hk1 => ?_) S.co S.gen S.kind
  obtain ⟨q1, q2, q3, q5, q6, hpos, rfl⟩ := hshape
  refine ks_wpAt_execs_cons (sup_run0 T rfl lf hcode hcell hpos hpar S (X.keeps hk1) (hgl.keeps hk1) (hbl.keeps hk1) hbb hns (by simp [List.lookup]) (hk1 _ _ hx) (fun h2 tk2 t2 k2 hx2 => ?_))
  refine wpAt_of_wpAny (wpAny_execs_nil ?_)
  exact hq h2 tk2 t2 (fun b o hb e => k2 b o hb (hk1 b o e)) hx2
theorem err_made0 (T : ErrK0 prog K C fI fd) (X : K.In s.heap) (hlim : s.heap.NoLimit)
    (hgl : s.heap.Ns mainGlobals mg) (hbl : s.heap.Ns builtinsNs mb) (hbb : ∀ x : Str, x ≠ "__name__" → mb x = bootBuiltins x) (hroom : A.depth + 1 < recursionLimit)
    (hbind : ∀ (s : Shared) (x : Addr), K.In s.heap → BindsTo s fd ⟨[.ref x], []⟩ [("self", .ref x)])
    (hq : ∀ h' tk e t1, (∀ b o, s.heap.get? b = some o → h'.get? b = some o) → s.heap.objs.size ≤ e → h'.get? e = some (excO C t1) → R (.ok (.ret (.ref e))) { s with heap := h', toks := tk }) :
    codeAny (model prog w) A (.call (.ref C) ⟨[], []⟩) R s := by
  obtain ⟨nm, q, N, bs, bm, sn, sub, ab, col, dd, k0, k1, k2, k3, k5, hC, hbm⟩ := T.cls
  obtain ⟨hp, g, dr, tk, os⟩ := s
  have k : ∀ b o, hp.get? b = some o → ((hp.push (kdv_tup [])).push (excO C hp.objs.size)).get? b = some o := fun b o e => Heap.get?_push_of_some _ (Heap.get?_push_of_some _ e)
  have hget : ((hp.push (kdv_tup [])).push (excO C hp.objs.size)).get? (hp.objs.size + 1) = some (excO C hp.objs.size) := by heap_get
  have hnx : K.lookup (hp.objs.size + 1) = none := by
    cases e : K.lookup (hp.objs.size + 1) with
    | none => rfl
    | some o => exact absurd (Nat.lt_of_succ_lt (Heap.lt_size (X _ _ e))) (Nat.lt_irrefl _)
  refine call_own F.excBase_ValueError (fun Z => refsVE_contains Z bm hbm) (X _ _ hC) (looks_findIn X T.iC) (fun self => bind_fn X self T.tI) (Nat.zero_le _) ?_
  refine err_init0 (s := ⟨(hp.push (kdv_tup [])).push (excO C hp.objs.size), g, dr, tk, os⟩) T (X.keeps k) (hlim.keeps k) (hgl.keeps k) (hbl.keeps k) hbb hget hnx ?_ (hbind _ _ (X.keeps k)) fun h' tk' t1 k' hx => ?_
  · show A.depth + 1 < recursionLimit
    exact hroom
  · have old : ∀ b o, hp.get? b = some o → h'.get? b = some o := fun b o e => k' b o (Nat.ne_of_lt (Nat.lt_succ_of_lt (Heap.lt_size e))) (k b o e)
    exact ⟨rfl, hq h' tk' (hp.objs.size + 1) t1 old (Nat.le_succ _) hx⟩
end
end PySem.TPX
namespace L2.TP
open PySem PySem.Spec PyProof.Rows
structure Err0 (prog : Program) (K : PySem.W.Frag) (mg : Str → Option Value) (x : Str) (C : Addr) : Prop where
  ex : ∃ (fI : Addr) (fd : FuncData), PySem.TPX.ErrK0 prog K C fI fd ∧ ∀ (s : Shared) (x : Addr), K.In s.heap → BindsTo s fd ⟨[.ref x], []⟩ [("self", .ref x)]
  gC : mg x = some (.ref C)
  kC : PySem.W.keepIn K (.ref C) = true
/-- x(): a new error -/
def tErr0 (C : Addr) : TE := fun σ H Q => ∀ a, H a = none → Q (.ref a) (upd H a (ExV (.ref C) none a))
/-- isinstance(x, c), x a kept exception -/
def rIsW (K : PySem.W.Frag) : List V → Hp → VK → Prop := fun xs H Q => ∃ (a D : Addr) (dd : Option Addr) (c : V) (u : Value) (b : Bool), xs = [.ref a, c] ∧ ClsV c u ∧ H a = some (ExV (.ref D) dd a) ∧ (∀ d, dd = some d → ∃ fs, H d = some (.xd fs)) ∧ ExcC K D ∧ PySem.W.kitOne K (.ref D) u = some b ∧ Q (.bl b) H
section
variable {X : Cx} {C : Addr} {x : Str}
theorem pe_err0 {p pos : Pos} {k : Nat} (T : Err0 X.prog X.K X.mg x C) (hex : X.ex = []) (hr : Room k X.A) (hg : Gl X x := by rfl) (hdb : (x == ("__debug__" : Str)) = false := by decide) :
    PE X (.Call (.Name x p) [] [] pos) (tErr0 C) := by
  refine ⟨fun pins s σ H Q I h => ?_⟩
  obtain ⟨fI, fd, TE, hbind⟩ := T.ex
  refine wpAny_Call_Name_kw (ld_glob I hg T.gC ?_ hdb)
  refine PySem.W.callWith_K0 I.kIn T.kC ?_
  show wpAny _ _ (call (.ref C) []) _ _ _
  have hlim := I.nolimit
  obtain ⟨mb, hmb, hbb⟩ := I.mod.blt
  have hgl := I.mod.glob.keeps I.bk
  have hbl := hmb.keeps I.bk
  have kin := I.kIn
  obtain ⟨hp, g, dr, tk, os⟩ := s
  refine wpAny_call (PySem.TPX.err_made0 TE kin hlim hgl hbl hbb (by have := hr.dp; omega) hbind fun h' tk' a t1 old new hoe => ?_)
  show EP X pins σ Q (.ref a) ⟨h', g, dr, tk', os⟩
  have na : H a = none := I.hok.fresh new
  have J : Inv X pins σ H ⟨h', g, dr, tk', os⟩ := I.kept (t' := tk') old
  have out : ∀ o, hp.get? a ≠ some o := fun o z => absurd (Heap.lt_size z) (Nat.not_lt.mpr new)
  have n0 : X.s_0.heap.get? a = none := by
    cases q : X.s_0.heap.get? a with
    | none => rfl
    | some o =>
      obtain ⟨o', z⟩ := I.base.there a o q (by rw [hex]; simp)
      exact (out _ z).elim
  refine ⟨.ref a, _, Inv.track J n0 na (exV_ok hoe ⟨rfl, rfl⟩ rfl) (fun z => ?_) (fun y c e z => ?_) (fun p hp' z => ?_), rfl, h a na⟩
  · obtain ⟨m, ⟨o, es', ep, eo, _⟩, _⟩ := I.loc
    rw [← z] at eo
    exact out _ eo
  · obtain ⟨v, o, ho, _⟩ := I.cell y c e
    rw [z] at ho
    exact out _ ho
  · obtain ⟨p1, _⟩ := I.pin p hp'
    rw [z] at p1
    exact out _ p1
theorem call_isW : CallR X (.builtin "isinstance") (rIsW X.K) := by
  intro pins s σ H xs us Q I r h
  obtain ⟨a, D, dd, c, u, b, rfl, hc, ea, ed, C, k, q⟩ := h
  cases dd with
  | some d =>
    obtain ⟨fs, ed⟩ := ed d rfl
    exact call_isV pins s σ H _ us Q I r ⟨a, D, d, fs, c, u, b, rfl, hc, ea, ed, C, k, q⟩
  | none =>
    obtain ⟨u1, u2, rfl, r1, r2⟩ := r.two
    cases r1
    have e2 := hc.eq r2
    subst e2
    obtain ⟨⟨oe, vs, ha, hz, hd⟩, _, _⟩ := I.hok a _ ea
    have J : PySem.W.InstAt s.heap a oe D none := by
      obtain ⟨oc, od, oda, osl⟩ := oe
      obtain ⟨h1, h2⟩ := hz
      dsimp only at h1 h2 hd
      subst h1 h2 hd
      exact ⟨ha, rfl, rfl, trivial⟩
    exact PySem.W.kia_one (PySem.W.handS_kitx_exc C.hg C.hk C.hs C.hd C.ha C.hn C.ht C.hm) I.kIn J k (fun z => nomatch z) fun tk => ⟨.bl b, H, I.kept (t' := tk) fun _ _ z => z, rfl, q⟩
end
/-- all that is asked of an error class with the first field f -/
structure ErrV (P : Program) (K : PySem.W.Frag) (mg : Str → Option Value) (x f : Str) (fs : List Str) (dvs : List V) (CT C : Addr) : Prop where
  ep : ErrP P K mg x fs 1 dvs C
  ew : ErrW P K mg x fs [f] dvs C
  xf : XfC K C
  no : PySem.W.findIn K (.ref C) f = some none
  ex : ExcC K C
  te : PySem.W.kitOne K (.ref C) (.ref CT) = some true
  ve : PySem.W.kitOne K (.ref C) (.type "ValueError") = some true
  tC : PySem.W.typeIn K (.ref C) = some (.type "type")
  sT : PySem.W.subIn K (.ref C) (.ref CT) = some true
/-- of one without fields -/
structure ErrZ (P : Program) (K : PySem.W.Frag) (mg : Str → Option Value) (x : Str) (CT C : Addr) : Prop where
  e0 : Err0 P K mg x C
  ex : ExcC K C
  te : PySem.W.kitOne K (.ref C) (.ref CT) = some true
  ve : PySem.W.kitOne K (.ref C) (.type "ValueError") = some true
/-- an error with the fields fs, vs stands at a -/
def ErAt (H : Hp) (fs : List Str) (vs : List V) (C a : Addr) : Prop := ∃ d, H a = some (ExV (.ref C) (some d) a) ∧ H d = some (.xd (fs.zip vs))
theorem ErAt.ext {H H' : Hp} {fs : List Str} {vs : List V} {C a : Addr} (h : ErAt H fs vs C a) (e : Ext H H') : ErAt H' fs vs C a := by
  obtain ⟨d, h1, h2⟩ := h
  exact ⟨d, e _ _ h1, e _ _ h2⟩
inductive Ers (H : Hp) (fs : List Str) (vs : List V) : List Addr → List Addr → Prop
  | nil : Ers H fs vs [] []
  | cons {C a : Addr} {Cs as : List Addr} (h : ErAt H fs vs C a) (t : Ers H fs vs Cs as) : Ers H fs vs (C :: Cs) (a :: as)
theorem Ers.ext {H H' : Hp} {fs : List Str} {vs : List V} (e : Ext H H') : ∀ {Cs as : List Addr}, Ers H fs vs Cs as → Ers H' fs vs Cs as
  | _, _, .nil => .nil
  | _, _, .cons h t => .cons (h.ext e) (Ers.ext e t)
theorem Ers.app {H : Hp} {fs : List Str} {vs : List V} : ∀ {Cs as Ds bs : List Addr}, Ers H fs vs Cs as → Ers H fs vs Ds bs → Ers H fs vs (Cs ++ Ds) (as ++ bs)
  | _, _, _, _, .nil, k => k
  | _, _, _, _, .cons h t, k => .cons h (t.app k)
theorem Ers.len {H : Hp} {fs : List Str} {vs : List V} : ∀ {Cs as : List Addr}, Ers H fs vs Cs as → as.length = Cs.length
  | _, _, .nil => rfl
  | _, _, .cons _ t => congrArg Nat.succ t.len
theorem Ers.at {H : Hp} {fs : List Str} {vs : List V} : ∀ {Cs as : List Addr}, Ers H fs vs Cs as → ∀ {i : Nat} {a : Addr}, as[i]? = some a → ∃ C, Cs[i]? = some C ∧ ErAt H fs vs C a
  | _, _, .nil, i, a, e => by simp at e
  | _, _, .cons h t, 0, a, e => by
    cases e
    exact ⟨_, rfl, h⟩
  | _, _, .cons h t, i + 1, a, e => t.at (i := i) e
/-- errors of the classes Cs, each made of what stands in the slot i -/
def tErs (i : Nat) (fs : List Str) (dvs : List V) : List Addr → TA
  | [] => tNil
  | C :: Cs => tCons (tErrP C fs 1 dvs (tCons (tVar i) tNil)) (tErs i fs dvs Cs)
theorem er_new {H : Hp} {fs : List Str} {vs : List V} {C a d : Addr} (na : H a = none) (nd : H d = none) (ne : a ≠ d) :
    Ext H (upd (upd H d (.xd (fs.zip vs))) a (ExV (.ref C) (some d) a)) ∧ ErAt (upd (upd H d (.xd (fs.zip vs))) a (ExV (.ref C) (some d) a)) fs vs C a :=
  ⟨ext_over (ext_upd nd) na, d, upd_same, by rw [upd_ne (Ne.symm ne)]; exact upd_same⟩
theorem tErs_ok {i : Nat} {fs : List Str} {dvs : List V} {σ : L2.St} {v : V} (hσ : σ[i]? = some (some v)) (hl : ([v] ++ dvs).length = fs.length) :
    ∀ (Cs : List Addr) (H : Hp) (Q : List V → Hp → Prop), (∀ as H', Ext H H' → Ers H' fs ([v] ++ dvs) Cs as → Q (as.map V.ref) H') → tErs i fs dvs Cs σ H Q
  | [], H, Q, k => k [] H Ext.rfl' .nil
  | C :: Cs, H, Q, k => by
    refine ⟨v, hσ, rfl, hl, fun a d na nd ne => ?_⟩
    obtain ⟨x1, e1⟩ := er_new (fs := fs) (vs := [v] ++ dvs) (C := C) na nd ne
    exact tErs_ok hσ hl Cs _ _ fun as H' x2 h2 => k (a :: as) H' (x1.trans x2) (.cons (e1.ext x2) h2)
/-- isinstance of what stands in the slot i, by the classes Cs -/
def tIss (K : PySem.W.Frag) (i : Nat) : List Addr → TA
  | [] => tNil
  | C :: Cs => tCons (tCB (rIsW K) (tCons (tVar i) (tCons (tC (.ref C)) tNil))) (tIss K i Cs)
/-- an error of the class D stands at a -/
def ErO (H : Hp) (D a : Addr) : Prop := ∃ dd, H a = some (ExV (.ref D) dd a) ∧ ∀ d, dd = some d → ∃ fs, H d = some (.xd fs)
theorem ErO.ext {H H' : Hp} {D a : Addr} (h : ErO H D a) (e : Ext H H') : ErO H' D a := by
  obtain ⟨dd, h1, h2⟩ := h
  refine ⟨dd, e _ _ h1, fun d z => ?_⟩
  obtain ⟨fs, q⟩ := h2 d z
  exact ⟨fs, e _ _ q⟩
theorem ErAt.o {H : Hp} {fs : List Str} {vs : List V} {C a : Addr} (h : ErAt H fs vs C a) : ErO H C a := by
  obtain ⟨d, h1, h2⟩ := h
  refine ⟨some d, h1, fun z e => ?_⟩
  cases e
  exact ⟨_, h2⟩
theorem tIss_ok {K : PySem.W.Frag} {i : Nat} {σ : L2.St} {H : Hp} {a D : Addr} {f : Addr → Bool} (hσ : σ[i]? = some (some (.ref a))) (he : ErO H D a) (ec : ExcC K D) :
    ∀ (Cs : List Addr) (Q : List V → Hp → Prop), (∀ C ∈ Cs, PySem.W.kitOne K (.ref D) (.ref C) = some (f C)) → Q (Cs.map fun C => V.bl (f C)) H → tIss K i Cs σ H Q
  | [], Q, _, q => q
  | C :: Cs, Q, hk, q => by
    obtain ⟨dd, h1, h2⟩ := he
    exact ⟨_, hσ, a, D, dd, _, _, f C, rfl, .own _, h1, h2, ec, hk C List.mem_cons_self, tIss_ok hσ ⟨dd, h1, h2⟩ ec Cs _ (fun E hE => hk E (List.mem_cons_of_mem _ hE)) q⟩
end L2.TP

/-! Layer V: comprehensions whose items are told one by one, the heap growing. -/
namespace L2.TP
open PySem PySem.Spec PyProof.Rows
/-- [te for g in it]: the heap grows, the i-th item is told by R -/
theorem lc_ext {J : It} {n : Nat} {G : Hp → Prop} {Y : Nat → Hp → V → Hp → Prop} (w : Walk J n G Y) {g : TG} {te : TE} {vs : List Nat} {σ : L2.St} {H1 : Hp} {D : Addr} {Qd : Hp → Prop}
    (R : Nat → V → Hp → Prop) (hD : H1 D = none) (hn : n ≤ 100000) (g1 : G H1) (hg : ∀ H H', Ext H H' → G H → G H') (hR : ∀ i y H H', Ext H H' → R i y H → R i y H')
    (hP : ∀ i y H acc acc', H D = some (.lst acc) → R i y H → R i y (upd H D (.lst acc')))
    (hs : ∀ i x H H' acc (Q : VK), i < n → Ext H1 H → acc.length = i → H D = some (.lst acc) → G H → Y i H x H' → (∀ y H4, Ext H H4 → R i y H4 → Q y H4) →
      g x (wipe σ vs) H' fun σ2 H2 => wipe σ2 vs = wipe σ vs ∧ te σ2 H2 Q)
    (hd : ∀ ys H, Ext H1 H → H D = some (.lst ys) → ys.length = n → (∀ i y, ys[i]? = some y → R i y H) → Qd H) :
    ∃ W : Nat → Nat → Hp → Prop, (∃ m, W 0 m (upd H1 D (.lst []))) ∧ ∀ i m H, W i m H →
      (J.stop i H ∧ Qd H) ∨ (J.go i H ∧ ∃ Nx : Hp → Prop, (∀ H', Nx H' → ∃ m', m' < m ∧ W (i + 1) m' H') ∧ ∀ x H', J.yld i H x H' → g x (wipe σ vs) H' fun σ2 H2 => wipe σ2 vs = wipe σ vs ∧ tYes σ2 H2 fun b H3 =>
        if b = true then te σ2 H3 fun y H4 => ∃ acc, H4 D = some (.lst acc) ∧ acc.length < sizeLine ∧ Nx (upd H4 D (.lst (acc ++ [y]))) else Nx H3) := by
  refine lc_it w (fun i H => Ext H1 H ∧ ∃ ys, ys.length = i ∧ H D = some (.lst ys) ∧ ∀ j y, ys[j]? = some y → R j y H) ⟨ext_upd hD, [], rfl, upd_same, fun j y e => by simp at e⟩ (fun i H _ h => hg _ _ h.1 g1) (fun i x H H' hi h y => ?_) (fun H h => ?_)
  · obtain ⟨x1, ys, hl, hd', hr⟩ := h
    refine hs i x H H' ys _ hi x1 hl hd' (hg _ _ x1 g1) y fun z H4 x4 r4 => ?_
    have d4 := x4 _ _ hd'
    refine ⟨ys, d4, by rw [hl]; exact Nat.lt_of_lt_of_le hi (Nat.le_trans hn (by decide)), ext_over (x1.trans x4) hD, ys ++ [z], by rw [List.length_append]; exact congrArg Nat.succ hl, upd_same, fun j u e => ?_⟩
    refine hP _ _ _ _ _ d4 ?_
    by_cases c : j < ys.length
    · rw [List.getElem?_append_left c] at e
      exact hR _ _ _ _ x4 (hr j u e)
    · rw [List.getElem?_append_right (by omega)] at e
      have e0 : j - ys.length = 0 := by
        cases q : j - ys.length with
        | zero => rfl
        | succ m =>
          rw [q] at e
          simp at e
      rw [e0] at e
      cases e
      have : j = i := by omega
      subst this
      exact r4
  · obtain ⟨x1, ys, hl, hd', hr⟩ := h
    exact hd ys H x1 hd' hl hr
/-- the items do not ask for the heap -/
theorem lc_flat {J : It} {n : Nat} {G : Hp → Prop} {Y : Nat → Hp → V → Hp → Prop} (w : Walk J n G Y) {g : TG} {te : TE} {vs : List Nat} {σ : L2.St} {H1 : Hp} {D : Addr} {Qd : Hp → Prop}
    (f : Nat → V) (hD : H1 D = none) (hn : n ≤ 100000) (g1 : G H1) (hg : ∀ H H', Ext H H' → G H → G H')
    (hs : ∀ i x H H' acc (Q : VK), i < n → Ext H1 H → acc.length = i → H D = some (.lst acc) → G H → Y i H x H' → (∀ H4, Ext H H4 → Q (f i) H4) →
      g x (wipe σ vs) H' fun σ2 H2 => wipe σ2 vs = wipe σ vs ∧ te σ2 H2 Q)
    (hd : ∀ H, Ext H1 H → H D = some (.lst ((List.range n).map f)) → Qd H) :
    ∃ W : Nat → Nat → Hp → Prop, (∃ m, W 0 m (upd H1 D (.lst []))) ∧ ∀ i m H, W i m H →
      (J.stop i H ∧ Qd H) ∨ (J.go i H ∧ ∃ Nx : Hp → Prop, (∀ H', Nx H' → ∃ m', m' < m ∧ W (i + 1) m' H') ∧ ∀ x H', J.yld i H x H' → g x (wipe σ vs) H' fun σ2 H2 => wipe σ2 vs = wipe σ vs ∧ tYes σ2 H2 fun b H3 =>
        if b = true then te σ2 H3 fun y H4 => ∃ acc, H4 D = some (.lst acc) ∧ acc.length < sizeLine ∧ Nx (upd H4 D (.lst (acc ++ [y]))) else Nx H3) := by
  refine lc_ext w (fun i y _ => y = f i) hD hn g1 hg (fun _ _ _ _ _ h => h) (fun _ _ _ _ _ _ h => h) (fun i x H H' acc Q hi x1 hl hd' gH y k => hs i x H H' acc Q hi x1 hl hd' gH y fun H4 x4 => k _ H4 x4 rfl) (fun ys H x1 e hl hr => hd H x1 ?_)
  rw [e]
  congr 2
  refine List.ext_getElem? fun i => ?_
  by_cases c : i < n
  · have h1 : i < ys.length := by omega
    rw [List.getElem?_map, List.getElem?_range c, List.getElem?_eq_getElem h1, hr i _ (List.getElem?_eq_getElem h1)]
    rfl
  · rw [List.getElem?_eq_none (by omega), List.getElem?_eq_none (by rw [List.length_map, List.length_range]; omega)]
theorem range_const {n : Nat} {v : V} : (List.range n).map (fun _ => v) = List.replicate n v := by
  rw [List.map_const', List.length_range]
theorem range_map {α β : Type} {xs : List α} {f : α → β} {g : Nat → β} (h : ∀ i x, xs[i]? = some x → g i = f x) : (List.range xs.length).map g = xs.map f := by
  refine List.ext_getElem? fun i => ?_
  by_cases c : i < xs.length
  · rw [List.getElem?_map, List.getElem?_range c, List.getElem?_map, List.getElem?_eq_getElem c, Option.map_some, Option.map_some, h i _ (List.getElem?_eq_getElem c)]
  · rw [List.getElem?_eq_none (by rw [List.length_map, List.length_range]; omega), List.getElem?_eq_none (by rw [List.length_map]; omega)]
theorem new_of {H M : Hp} {l : Addr} {o : HO} (e : upd H l o = M) (h : H l = none) : Ext H M ∧ M l = some o := by
  subst e
  exact ⟨ext_upd h, upd_same⟩
theorem lst_new {H : Hp} {l : Addr} {xs : List V} (h : H l = none) : Ext H (upd H l (.lst xs)) ∧ upd H l (.lst xs) l = some (.lst xs) := ⟨ext_upd h, upd_same⟩
theorem tup_new {H : Hp} {l : Addr} {xs : List V} (h : H l = none) : Ext H (upd H l (.tup xs)) ∧ upd H l (.tup xs) l = some (.tup xs) := ⟨ext_upd h, upd_same⟩
end L2.TP

/-! Layer W: the head by a Hook of facts: each a Bool of the written part. -/
namespace L2.TP
open PySem PySem.Spec PyProof.Rows
/-! ### the written part -/
def refsM (o : Obj) : List Addr := match o.data with
  | .dict es _ => es.toList.flatMap fun e => He.refV e.val
  | .func fd => He.refV fd.code ++ (He.refV fd.defaults ++ (He.refV fd.kwdefaults ++ fd.closure.map (·.2)))
  | .cls cd => [cd.ns]
  | .seq its _ => its.toList.flatMap He.refV
  | .fields vs => if o.cls == .type "property" then vs.toList.flatMap He.refV else []
  | _ => []
def nextM (g : Addr → Option Obj) (as : List Addr) : List Addr := as.flatMap fun a => match g a with
  | some o => refsM o
  | none => []
def frL {α : Type} : List Addr → (List Addr → α) → α
  | [], k => k []
  | a :: r, k => HandSHeadRun.frNat a fun a => frL r fun r => k (a :: r)
theorem frL_eq {α : Type} : ∀ (l : List Addr) (k : List Addr → α), frL l k = k l
  | [], _ => rfl
  | a :: r, k => by
    show HandSHeadRun.frNat a (fun a => frL r fun r => k (a :: r)) = _
    rw [HandSHeadRun.frNat_eq, frL_eq r]
def partM (g : Addr → Option Obj) {α : Type} (k : PySem.W.Frag → α) : α :=
  frL (nextM g [mainGlobals]) fun l1 => frL (nextM g l1) fun l2 => frL (nextM g l2) fun l3 => frL (nextM g l3) fun l4 => frL (nextM g l4) fun l5 => k (He.frG g (cStatics :: mainGlobals :: (l1 ++ (l2 ++ (l3 ++ (l4 ++ l5))))))
theorem partM_eq (g : Addr → Option Obj) {α : Type} (k : PySem.W.Frag → α) : ∃ as, partM g k = k (He.frG g as) := by
  unfold partM
  simp only [frL_eq]
  exact ⟨_, rfl⟩
/-! ### functions, as the text has them -/
abbrev FnY : Type := Option (Str × Str × Arguments × FuncBody × Scope × Addr × Addr)
def fnY (K : PySem.W.Frag) (f : Addr) : FnY := match K.lookup f with
  | some ⟨_, _, .func fd, _⟩ => some (fd.name, fd.qualname, fd.params, fd.body, fd.scope, fd.globals, fd.builtins)
  | _ => none
structure DfY where
  at_ : PySem.W.Frag → Addr
  name : Str
  qual : Str
  params : Arguments
  body : List Stmt
  scope : Scope
def DfY.val (d : DfY) : FnY := some (d.name, d.qual, d.params, .stmts d.body, d.scope, mainGlobals, builtinsNs)
abbrev AlY : Type := Bool × List FnY
def obsY (chk : List (PySem.W.Frag → Bool)) (fn : List DfY) (K : PySem.W.Frag) : AlY := (chk.all fun c => c K, fn.map fun d => fnY K (d.at_ K))
def valY (fn : List DfY) : AlY := (true, fn.map DfY.val)
def SaysY (chk : List (PySem.W.Frag → Bool)) (fn : List DfY) (K : PySem.W.Frag) : Prop := obsY chk fn K = valY fn
def obsYG (chk : List (PySem.W.Frag → Bool)) (fn : List DfY) (g : Addr → Option Obj) : AlY := partM g (obsY chk fn)
def hookY (chk : List (PySem.W.Frag → Bool)) (fn : List DfY) : PySem.W.Hook where
  α := AlY
  obs := fun s => obsYG chk fn s.heap.get?
  val := fun _ => valY fn
  says := fun _ h => ∃ K : PySem.W.Frag, K.In h ∧ SaysY chk fn K
  of := fun _ s e => by
    obtain ⟨as, q⟩ := partM_eq s.heap.get? (obsY chk fn)
    have e : partM s.heap.get? (obsY chk fn) = valY fn := e
    rw [q] at e
    exact ⟨_, He.frG_in, e⟩
  keeps := fun _ _ _ ⟨K, hK, c⟩ k => ⟨K, PySem.W.Frag.In.keeps hK k, c⟩
def obT (chk : List (PySem.W.Frag → Bool)) (fn : List DfY) (s : PySem.W.SharedT) : AlY := obsYG chk fn (HandSHeadRun.getT s)
theorem obT_eq {chk : List (PySem.W.Frag → Bool)} {fn : List DfY} (s : PySem.W.SharedT) : obT chk fn s = (hookY chk fn).obs s.abs := by
  have e : HandSHeadRun.getT s = s.abs.heap.get? := funext (HandSHeadRun.getT_eq s)
  unfold obT
  rw [e]
  rfl
section
variable {chk : List (PySem.W.Frag → Bool)} {fn : List DfY} {K : PySem.W.Frag}
theorem SaysY.fact (c : SaysY chk fn K) (i : Nat) {f : PySem.W.Frag → Bool} (h : chk[i]? = some f) : f K = true := by
  have c1 : (chk.all fun c => c K) = true := congrArg (fun z : AlY => z.1) c
  exact List.all_eq_true.mp c1 f (List.mem_of_getElem? h)
theorem SaysY.def_ (c : SaysY chk fn K) (i : Nat) {d : DfY} (h : fn[i]? = some d) : fnY K (d.at_ K) = d.val := by
  have e : fn.map (fun d => fnY K (d.at_ K)) = fn.map DfY.val := congrArg (fun z : AlY => z.2) c
  have e2 : (fn.map fun d => fnY K (d.at_ K))[i]? = (fn.map DfY.val)[i]? := by rw [e]
  rw [List.getElem?_map, List.getElem?_map, h] at e2
  exact Option.some.inj e2
end
/-! ### defs -/
def fnB (K : PySem.W.Frag) (f : Addr) (qual : Str) (dvs : List V) (kws : List (Str × V)) : Bool := PySem.W.keepIn K (.ref f) && (match K.lookup f with
  | some ⟨_, _, .func fd, _⟩ => fd.closure.isEmpty && (PySem.W.codeIn K fd.code qual && (He.dflB K fd.defaults dvs && He.kwdB K fd.kwdefaults kws))
  | _ => false)
theorem funD_of {K : PySem.W.Frag} {d : DfY} {dvs : List V} {kws : List (Str × V)} (e : fnY K (d.at_ K) = d.val) (c : fnB K (d.at_ K) d.qual dvs kws = true) : ∃ fd, FunD K d.name d.qual d.params d.body d.scope dvs kws (d.at_ K) fd := by
  obtain ⟨kp, c2⟩ := He.ba c
  unfold fnY at e
  cases q : K.lookup (d.at_ K) with
  | none =>
    rw [q] at c2
    cases c2
  | some o =>
    obtain ⟨oc, od, dt, osl⟩ := o
    rw [q] at c2 e
    cases dt with
    | func fd =>
      obtain ⟨n1, n2, n3, n4, n5, n6, n7, n8, n9, n10, n11, n12, n13, n14, n15⟩ := fd
      have e2 : (some (n1, n2, n3, n4, n5, n6, n15) : FnY) = some (d.name, d.qual, d.params, .stmts d.body, d.scope, mainGlobals, builtinsNs) := e
      simp only [Option.some.injEq, Prod.mk.injEq] at e2
      obtain ⟨h1, h2, h3, h4, h5, h6, h8⟩ := e2
      subst h1 h2 h3 h4 h5 h6 h8
      have c3 : (n7.isEmpty && (PySem.W.codeIn K n13 d.qual && (He.dflB K n8 dvs && He.kwdB K n9 kws))) = true := c2
      obtain ⟨k0, c3⟩ := He.ba c3
      obtain ⟨k1, k2⟩ := He.ba c3
      obtain ⟨k3, k4⟩ := He.ba k2
      have e7 : n7 = [] := List.isEmpty_iff.mp k0
      subst e7
      exact ⟨_, ⟨oc, od, n8, n9, n10, n11, n12, n13, n14, osl, rfl, q, k1, He.dflB_ok k3, He.kwdB_ok k4⟩, kp⟩
    | _ => cases c2
theorem fun_of {K : PySem.W.Frag} {d : DfY} {st : Stmt} (e : fnY K (d.at_ K) = d.val) (c : fnB K (d.at_ K) d.qual [] [] = true) (h1 : d.params = defArgs st) (h2 : d.body = defBody st) (h3 : d.scope = defScope st) : ∃ fd, Fun K d.name d.qual st (d.at_ K) fd := by
  obtain ⟨fd, ⟨oc, od, dV, kV, doc, pm, an, cdv, ct, osl, ef, lk, hc, hd, _⟩, kp⟩ := funD_of e c
  rcases hd with ⟨_, rfl⟩ | ⟨hn, _⟩
  · rw [h1, h2, h3] at ef
    exact ⟨fd, ⟨oc, od, kV, doc, pm, an, cdv, ct, osl, ef, lk, hc⟩, kp⟩
  · exact absurd rfl hn
/-! ### properties -/
def prF (K : PySem.W.Frag) (p : Addr) : Addr := match PySem.W.recIn K p "property" with
  | some (.ref F :: _) => F
  | _ => 0
def prB (K : PySem.W.Frag) (C : Addr) (m : Str) : Bool := He.eqO (PySem.W.findIn K (.ref C) m) (some (some (.ref (He.ma K C m)))) && (He.eqO (PySem.W.specialIn K (.ref (He.ma K C m)) "__get__") (some (some (.builtin "property.__get__"))) &&
  (decide (PySem.W.takesIn K (.ref (He.ma K C m)) = some true) && (match PySem.W.recIn K (He.ma K C m) "property" with
    | some (.ref _ :: _) => true
    | _ => false)))
theorem prB_ok {K : PySem.W.Frag} {C : Addr} {m : Str} (h : prB K C m = true) : PropOf K C m (He.ma K C m) (prF K (He.ma K C m)) := by
  obtain ⟨h1, h⟩ := He.ba h
  obtain ⟨h2, h⟩ := He.ba h
  obtain ⟨h3, h4⟩ := He.ba h
  refine ⟨He.eqO_ok h1, He.eqO_ok h2, of_decide_eq_true h3, ?_⟩
  unfold prF
  split at h4
  · rename_i F r hr
    rw [hr]
    exact ⟨_, rfl⟩
  · cases h4
/-! ### classes -/
def clB (K : PySem.W.Frag) (x : Str) : Bool := He.eqO (PySem.W.nsIn K mainGlobals x) (some (some (.ref (He.ga K x)))) && ((He.Fa.cls x).ok K && (PySem.W.keepIn K (.ref (He.ga K x)) && decide (PySem.W.typeIn K (.ref (He.ga K x)) = some (.type "type"))))
theorem clB_ok {K : PySem.W.Frag} {x : Str} (h : clB K x = true) : PySem.W.nsIn K mainGlobals x = some (some (.ref (He.ga K x))) ∧ Cls K (He.ga K x) ∧ PySem.W.keepIn K (.ref (He.ga K x)) = true ∧ ((PySem.W.clsIn K (He.ga K x)).isSome = true ∧ PySem.W.typeIn K (.ref (He.ga K x)) = some (.type "type")) := by
  obtain ⟨h1, h⟩ := He.ba h
  obtain ⟨h2, h⟩ := He.ba h
  obtain ⟨h3, h4⟩ := He.ba h
  have c := He.cls_ok h2
  have hd : PySem.W.hasDictIn K (He.ga K x) = true := (He.ba (He.ba h2).2).1
  exact ⟨He.eqO_ok h1, c, h3, cls_some hd, of_decide_eq_true h4⟩
/-! ### errors -/
def excB (K : PySem.W.Frag) (C : Addr) : Bool := match K.lookup C with
  | some ⟨cl, _, .cls cd, sl⟩ => (match cd.mro, sl.toList with
    | .ref C' :: bm, [_, _, _, _, some (.builtin n), _] => decide (cl = .type "type") && (C' == C && (decide (n = "ValueError.__new__") && (!cd.hasDel && (cd.hasDict && PySem.HandSPX.refsVE bm))))
    | _, _ => false)
  | _ => false
theorem excB_ok {K : PySem.W.Frag} {C : Addr} (h : excB K C = true) : ∃ nm q N bs bm sn sub ab col dd k0 k1 k2 k3 k5, K.lookup C = some (excClassObj nm q C N bs bm true sn sub ab col dd k0 k1 k2 k3 k5 "ValueError.__new__") ∧ PySem.HandSPX.refsVE bm = true := by
  unfold excB at h
  split at h
  · rename_i cl dd cd sl ho
    split at h
    · rename_i C' bm k0 k1 k2 k3 n k5 hm hs
      obtain ⟨h1, h⟩ := He.ba h
      obtain ⟨h2, h⟩ := He.ba h
      obtain ⟨h3, h⟩ := He.ba h
      obtain ⟨h4, h⟩ := He.ba h
      obtain ⟨h5, h6⟩ := He.ba h
      obtain ⟨nm, bs, mro, ns, q, hd, sn, sub, ab, col, del⟩ := cd
      dsimp only at hm h4 h5
      have e1 := of_decide_eq_true h1
      have e2 : C' = C := beq_iff_eq.mp h2
      have e3 := of_decide_eq_true h3
      have e4 : del = false := by simpa using h4
      have e6 : sl = #[k0, k1, k2, k3, some (.builtin n), k5] := by
        apply Array.toList_inj.mp
        exact hs
      subst e1 e2 e3 e4 h5 hm e6
      exact ⟨_, _, _, _, _, _, _, _, _, _, _, _, _, _, _, ho, h6⟩
    · cases h
  · cases h
/-- the file that a code object tells -/
def fileB (K : PySem.W.Frag) (c : Addr) (file : Str) : Bool := match K.lookup c with
  | some ⟨_, _, .fields vs, _⟩ => (match (vs[2]? : Option Value) with
    | some (.str f _) => file == f
    | _ => false)
  | _ => false
theorem fileB_ok {K : PySem.W.Frag} {c : Addr} {file : Str} (h : fileB K c file = true) : ∃ ccl cdd vs ccs f tf, K.lookup c = some ⟨ccl, cdd, .fields vs, ccs⟩ ∧ vs[2]? = some (.str f tf) ∧ (file == f) = true := by
  unfold fileB at h
  split at h
  · rename_i ccl cdd vs ccs ho
    split at h
    · rename_i f tf hv
      exact ⟨_, _, _, _, _, _, ho, hv, h⟩
    · cases h
  · cases h
def cellB (K : PySem.W.Frag) (c C : Addr) : Bool := match K.lookup c with
  | some ⟨_, _, .cell (some (.ref D)), _⟩ => D == C
  | _ => false
theorem cellB_ok {K : PySem.W.Frag} {c C : Addr} (h : cellB K c C = true) : ∃ cl cld csl, K.lookup c = some ⟨cl, cld, .cell (some (.ref C)), csl⟩ := by
  unfold cellB at h
  split at h
  · rename_i cl cld D csl ho
    rw [beq_iff_eq.mp h] at ho
    exact ⟨_, _, _, ho⟩
  · cases h
/-- defaults, their items told -/
def DfI (K : PySem.W.Frag) (dV : Value) (dvs : List V) (its : List Value) : Prop := (dvs = [] ∧ dV = .none ∧ its = []) ∨ (dvs ≠ [] ∧ ∃ (T : Addr) (o : Obj) (n : Nat), dV = .ref T ∧ K.lookup T = some o ∧ o.data = .seq its.toArray n)
theorem DfI.of {K : PySem.W.Frag} {dV : Value} {dvs : List V} (h : DflV K dV dvs) : ∃ its, DfI K dV dvs its ∧ Vals dvs its := by
  rcases h with ⟨rfl, rfl⟩ | ⟨hn, T, o, its, n, h1, h2, h3, h4⟩
  · exact ⟨[], .inl ⟨rfl, rfl, rfl⟩, .nil⟩
  · exact ⟨its, .inr ⟨hn, T, o, n, h1, h2, h3⟩, h4⟩
/-- what is asked of any error class -/
def ercB (K : PySem.W.Frag) (x : Str) : Bool := He.eqO (PySem.W.nsIn K mainGlobals x) (some (some (.ref (He.ga K x)))) && (excB K (He.ga K x) && (He.eqO (PySem.W.findIn K (.ref (He.ga K x)) "__init__") (some (some (.ref (He.ma K (He.ga K x) "__init__")))) &&
  (decide (PySem.W.typeIn K (.ref (He.ma K (He.ga K x) "__init__")) = some (.type "function")) && (He.eqO (PySem.W.ks_superIn K (He.ga K x) (He.ga K x) "__init__") (some (some (.builtin "ValueError.__init__"))) &&
  (decide (PySem.W.subIn K (.ref (He.ga K x)) (.type "ValueError") = some true) && (decide (PySem.W.mroIn K (He.ga K x) (.ref (He.ga K x)) = some true) && (PySem.W.keepIn K (.ref (He.ga K x)) &&
  (decide (PySem.W.subIn K (.ref (He.ga K x)) (.type "BaseException") = some true) && (PySem.W.hasDictIn K (He.ga K x) && (He.eqO (PySem.W.findIn K (.ref (He.ga K x)) "__getattribute__") (some (some (.builtin "BaseException.__getattribute__"))) &&
  (He.eqO (PySem.W.findIn K (.ref (He.ga K x)) "__getattr__") (some none) && (He.eqO (PySem.W.findIn K (.ref (He.ga K x)) "__class__") (some (some (.builtin "object.__class__"))) && (decide (PySem.W.mroIn K (He.ga K x) (.type "object") = some true) &&
  (decide (PySem.W.subIn K (.ref (He.ga K x)) (.ref (He.ga K "TapeError")) = some true) && (decide (PySem.W.kitOne K (.ref (He.ga K x)) (.type "ValueError") = some true) && (decide (PySem.W.typeIn K (.ref (He.ga K x)) = some (.type "type")) &&
  He.eqO (PySem.W.findIn K (.ref (He.ga K x)) "__setattr__") (some (some (.builtin "object.__setattr__")))))))))))))))))))
structure ErcOk (K : PySem.W.Frag) (x : Str) : Prop where
  a : PySem.W.nsIn K mainGlobals x = some (some (.ref (He.ga K x)))
  cls : ∃ nm q N bs bm sn sub ab col dd k0 k1 k2 k3 k5, K.lookup (He.ga K x) = some (excClassObj nm q (He.ga K x) N bs bm true sn sub ab col dd k0 k1 k2 k3 k5 "ValueError.__new__") ∧ PySem.HandSPX.refsVE bm = true
  iC : PySem.W.findIn K (.ref (He.ga K x)) "__init__" = some (some (.ref (He.ma K (He.ga K x) "__init__")))
  tI : PySem.W.typeIn K (.ref (He.ma K (He.ga K x) "__init__")) = some (.type "function")
  sup : PySem.W.ks_superIn K (He.ga K x) (He.ga K x) "__init__" = some (some (.builtin "ValueError.__init__"))
  sB : PySem.W.subIn K (.ref (He.ga K x)) (.type "ValueError") = some true
  mC : PySem.W.mroIn K (He.ga K x) (.ref (He.ga K x)) = some true
  kC : PySem.W.keepIn K (.ref (He.ga K x)) = true
  bE : PySem.W.subIn K (.ref (He.ga K x)) (.type "BaseException") = some true
  hd : PySem.W.hasDictIn K (He.ga K x) = true
  ga : PySem.W.findIn K (.ref (He.ga K x)) "__getattribute__" = some (some (.builtin "BaseException.__getattribute__"))
  gg : PySem.W.findIn K (.ref (He.ga K x)) "__getattr__" = some none
  cc : PySem.W.findIn K (.ref (He.ga K x)) "__class__" = some (some (.builtin "object.__class__"))
  cm : PySem.W.mroIn K (He.ga K x) (.type "object") = some true
  te : PySem.W.subIn K (.ref (He.ga K x)) (.ref (He.ga K "TapeError")) = some true
  ve : PySem.W.kitOne K (.ref (He.ga K x)) (.type "ValueError") = some true
  tC : PySem.W.typeIn K (.ref (He.ga K x)) = some (.type "type")
  sa : PySem.W.findIn K (.ref (He.ga K x)) "__setattr__" = some (some (.builtin "object.__setattr__"))
theorem ercB_ok {K : PySem.W.Frag} {x : Str} (h : ercB K x = true) : ErcOk K x := by
  unfold ercB at h
  simp only [Bool.and_eq_true, decide_eq_true_eq, He.eqO] at h
  obtain ⟨h1, h2, h3, h4, h5, h6, h7, h8, h9, h10, h11, h12, h13, h14, h15, h16, h17, h18⟩ := h
  exact ⟨h1, excB_ok h2, h3, h4, h5, h6, h7, h8, h9, h10, h11, h12, h13, h14, h15, h16, h17, h18⟩
/-- what all errors share -/
def errsB (K : PySem.W.Frag) : Bool := He.eqO (PySem.W.nsIn K mainGlobals "super") (some none) && (He.eqO (PySem.W.nsIn K cStatics "thirdparty.any") (some none) && (He.eqO (PySem.W.specialIn K (.builtin "object.__class__") "__get__") (some (some (.builtin "getset_descriptor.__get__"))) &&
  (decide (PySem.W.takesIn K (.builtin "object.__class__") = some true) && (PySem.W.hasDictIn K (He.ga K "TapeError") && (decide (PySem.W.typeIn K (.ref (He.ga K "TapeError")) = some (.type "type")) && (decide (PySem.W.subIn K (.ref (He.ga K "TapeError")) (.type "BaseException") = some true) &&
  He.eqO (PySem.W.nsIn K mainGlobals "TapeError") (some (some (.ref (He.ga K "TapeError"))))))))))
structure ErrsOk (K : PySem.W.Frag) : Prop where
  nS : PySem.W.nsIn K mainGlobals "super" = some none
  tp : PySem.W.nsIn K cStatics "thirdparty.any" = some none
  cg : PySem.W.specialIn K (.builtin "object.__class__") "__get__" = some (some (.builtin "getset_descriptor.__get__"))
  ct : PySem.W.takesIn K (.builtin "object.__class__") = some true
  td : PySem.W.hasDictIn K (He.ga K "TapeError") = true
  tt : PySem.W.typeIn K (.ref (He.ga K "TapeError")) = some (.type "type")
  tb : PySem.W.subIn K (.ref (He.ga K "TapeError")) (.type "BaseException") = some true
  ta : PySem.W.nsIn K mainGlobals "TapeError" = some (some (.ref (He.ga K "TapeError")))
theorem errsB_ok {K : PySem.W.Frag} (h : errsB K = true) : ErrsOk K := by
  unfold errsB at h
  simp only [Bool.and_eq_true, decide_eq_true_eq, He.eqO] at h
  obtain ⟨h1, h2, h3, h4, h5, h6, h7, h8⟩ := h
  exact ⟨h1, h2, h3, h4, h5, h6, h7, h8⟩
theorem ErcOk.exc {K : PySem.W.Frag} {x : Str} (c : ErcOk K x) (g : ErrsOk K) : ExcC K (He.ga K x) := ⟨c.ga, c.gg, c.bE, c.hd, c.cc, g.cg, g.ct, c.cm⟩
theorem ErcOk.tape {K : PySem.W.Frag} {x : Str} (c : ErcOk K x) (g : ErrsOk K) : PySem.W.kitOne K (.ref (He.ga K x)) (.ref (He.ga K "TapeError")) = some true := kit_ref ⟨cls_some g.td, g.tt⟩ c.te fun _ => rfl
/-- an error's __init__ -/
def iniB (K : PySem.W.Frag) (file x qual : Str) (fs : List Str) (dvs : List V) : Bool := (match K.lookup (He.ma K (He.ga K x) "__init__") with
  | some ⟨_, _, .func fd, _⟩ => (match fd.closure, fd.code with
    | [(n, cc)], .ref cda => decide (n = "__class__") && (PySem.W.codeIn K (.ref cda) qual && (fileB K cda file && (cellB K cc (He.ga K x) && He.dflB K fd.defaults dvs)))
    | _, _ => false)
  | _ => false) && (fs.all fun f => He.eqO (PySem.W.findIn K (.ref (He.ga K x)) f) (some none))
theorem iniB_ok {K : PySem.W.Frag} {file x qual : Str} {fs : List Str} {dvs : List V} {params : Arguments} {body : List Stmt} {scope : Scope} (c : iniB K file x qual fs dvs = true) (e : fnY K (He.ma K (He.ga K x) "__init__") = (some (("__init__" : Str), qual, params, FuncBody.stmts body, scope, mainGlobals, builtinsNs) : FnY)) :
    (∃ (oc : Value) (od : Option Addr) (osl : Array (Option Value)) (dV kV doc pm : Value) (an : Option Addr) (cda : Addr) (ct : Value) (cc : Addr) (its : List Value),
      K.lookup (He.ma K (He.ga K x) "__init__") = some ⟨oc, od, .func (PySem.W.ksFn "__init__" qual params body scope dV kV doc pm an (.ref cda) ct cc), osl⟩ ∧ PySem.W.codeIn K (.ref cda) qual = true ∧
      (∃ ccl cdd vs ccs f tf, K.lookup cda = some ⟨ccl, cdd, .fields vs, ccs⟩ ∧ vs[2]? = some (.str f tf) ∧ (file == f) = true) ∧ (∃ cl cld csl, K.lookup cc = some ⟨cl, cld, .cell (some (.ref (He.ga K x))), csl⟩) ∧ DfI K dV dvs its ∧ Vals dvs its) ∧
    ∀ f ∈ fs, PySem.W.findIn K (.ref (He.ga K x)) f = some none := by
  obtain ⟨c1, c2⟩ := He.ba c
  refine ⟨?_, fun f hf => He.eqO_ok (List.all_eq_true.mp c2 f hf)⟩
  unfold fnY at e
  cases q : K.lookup (He.ma K (He.ga K x) "__init__") with
  | none =>
    rw [q] at c1
    cases c1
  | some o =>
    obtain ⟨oc, od, dt, osl⟩ := o
    rw [q] at c1 e
    cases dt with
    | func fd =>
      obtain ⟨n1, n2, n3, n4, n5, n6, n7, n8, n9, n10, n11, n12, n13, n14, n15⟩ := fd
      have e2 : (some (n1, n2, n3, n4, n5, n6, n15) : FnY) = some (("__init__" : Str), qual, params, FuncBody.stmts body, scope, mainGlobals, builtinsNs) := e
      simp only [Option.some.injEq, Prod.mk.injEq] at e2
      obtain ⟨h1, h2, h3, h4, h5, h6, h8⟩ := e2
      subst h1 h2 h3 h4 h5 h6 h8
      dsimp only at c1
      split at c1
      · rename_i n cc cda
        obtain ⟨k0, c1⟩ := He.ba c1
        obtain ⟨k1, c1⟩ := He.ba c1
        obtain ⟨k2, c1⟩ := He.ba c1
        obtain ⟨k3, k4⟩ := He.ba c1
        have en := of_decide_eq_true k0
        subst en
        obtain ⟨its, hi, hv⟩ := DfI.of (He.dflB_ok k4)
        exact ⟨oc, od, osl, n8, n9, n10, n11, n12, cda, n14, cc, its, rfl, k1, fileB_ok k2, cellB_ok k3, hi, hv⟩
      · cases c1
    | _ => cases c1
section
variable {P : Program} {K : PySem.W.Frag} {h : Heap} {mg : Str → Option Value} {x f qual : Str} {fs : List Str} {dvs : List V} {params : Arguments} {body : List Stmt} {scope : Scope}
open PySem.TPX in
theorem errV_of (X : K.In h) (G : h.Ns mainGlobals mg) (hP : (P.main.scope.names.lookup ("super" : Str)).isSome = false) (g : ErrsOk K) (c : ErcOk K x) (i : iniB K P.main.file x qual fs dvs = true)
    (e : fnY K (He.ma K (He.ga K x) "__init__") = (some (("__init__" : Str), qual, params, FuncBody.stmts body, scope, mainGlobals, builtinsNs) : FnY)) (hf : f ∈ fs) (hpar : ∃ ar : Arg, (params.posonlyargs ++ params.args).head? = some ar ∧ ar.arg = "self") (S : IniS fs scope)
    (hb : (∃ f q1 q2 q3 q4 q5 q6 r1 r2 r3 r4, (q3.endLine == q5.line) = true ∧ fs = [f] ∧ body = [supS f q1 q2 q3 q4 q5 q6, keepS f r1 r2 r3 r4]) ∨
      (∃ f g q1 q2 q3 q4 q5 q6 r1 r2 r3 r4 p1 p2 p3 p4, (q3.endLine == q5.line) = true ∧ fs = [f, g] ∧ f ≠ g ∧ body = [supS f q1 q2 q3 q4 q5 q6, keepS f r1 r2 r3 r4, keepS g p1 p2 p3 p4]))
    (b1 : ∀ (dV kV doc pm : Value) (an : Option Addr) (cdv ct : Value) (cc : Addr) (its : List Value), DfI K dV dvs its → Vals dvs its → ∀ (s : Shared) (x : Addr) (us : List Value), K.In s.heap → us.length = 1 → BindsTo s (PySem.W.ksFn "__init__" qual params body scope dV kV doc pm an cdv ct cc) ⟨.ref x :: us, []⟩ (("self", .ref x) :: fs.zip (us ++ its)))
    (b2 : ∀ (dV kV doc pm : Value) (an : Option Addr) (cdv ct : Value) (cc : Addr) (its : List Value), DfI K dV dvs its → Vals dvs its → ∀ (s : Shared) (x : Addr) (ws : List Value), K.In s.heap → ws.length = 1 → BindsTo s (PySem.W.ksFn "__init__" qual params body scope dV kV doc pm an cdv ct cc) ⟨[.ref x], [f].zip ws⟩ (("self", .ref x) :: fs.zip (ws ++ its))) :
    ErrV P K mg x f fs dvs (He.ga K "TapeError") (He.ga K x) := by
  obtain ⟨⟨oc, od, osl, dV, kV, doc, pm, an, cda, ct, cc, its, lk, hcd, hfile, hcell, hdf, hv⟩, nof⟩ := iniB_ok i e
  have T : ErrK P K fs (He.ga K x) (He.ma K (He.ga K x) "__init__") (PySem.W.ksFn "__init__" qual params body scope dV kV doc pm an (.ref cda) ct cc) :=
    ⟨c.cls, c.sa, c.iC, c.tI, c.sup, c.sB, c.mC, g.nS, g.tp, hP, nof, oc, od, osl, qual, params, body, scope, dV, kV, doc, pm, an, cda, ct, cc, rfl, lk, hcd, hfile, hcell, hpar, S, hb⟩
  have m := PySem.W.mg_of X G c.a
  exact ⟨⟨⟨_, _, its, T, hv, b1 _ _ _ _ _ _ _ _ _ hdf hv⟩, m, c.kC⟩, ⟨⟨_, _, its, T, hv, b2 _ _ _ _ _ _ _ _ _ hdf hv⟩, m, c.kC⟩, ⟨c.ga, c.gg, c.bE, c.hd⟩, nof f hf, c.exc g, c.tape g, c.ve, c.tC, c.te⟩
open PySem.TPX in
theorem errZ_of (X : K.In h) (G : h.Ns mainGlobals mg) (hP : (P.main.scope.names.lookup ("super" : Str)).isSome = false) (g : ErrsOk K) (c : ErcOk K x) (i : iniB K P.main.file x qual [] [] = true)
    (e : fnY K (He.ma K (He.ga K x) "__init__") = (some (("__init__" : Str), qual, params, FuncBody.stmts body, scope, mainGlobals, builtinsNs) : FnY)) (hpar : ∃ ar : Arg, (params.posonlyargs ++ params.args).head? = some ar ∧ ar.arg = "self") (S : IniS [] scope)
    (hb : ∃ q1 q2 q3 q5 q6, (q3.endLine == q5.line) = true ∧ body = [supS0 q1 q2 q3 q5 q6])
    (b1 : ∀ (dV kV doc pm : Value) (an : Option Addr) (cdv ct : Value) (cc : Addr), dV = .none → ∀ (s : Shared) (x : Addr), K.In s.heap → BindsTo s (PySem.W.ksFn "__init__" qual params body scope dV kV doc pm an cdv ct cc) ⟨[.ref x], []⟩ [("self", .ref x)]) :
    ErrZ P K mg x (He.ga K "TapeError") (He.ga K x) := by
  obtain ⟨⟨oc, od, osl, dV, kV, doc, pm, an, cda, ct, cc, its, lk, hcd, hfile, hcell, hdf, hv⟩, nof⟩ := iniB_ok i e
  have dn : dV = .none := by
    rcases hdf with ⟨_, z, _⟩ | ⟨hn, _⟩
    · exact z
    · exact absurd rfl hn
  have T : ErrK0 P K (He.ga K x) (He.ma K (He.ga K x) "__init__") (PySem.W.ksFn "__init__" qual params body scope dV kV doc pm an (.ref cda) ct cc) :=
    ⟨c.cls, c.iC, c.tI, c.sup, c.sB, c.mC, g.nS, g.tp, hP, oc, od, osl, qual, params, body, scope, dV, kV, doc, pm, an, cda, ct, cc, rfl, lk, hcd, hfile, hcell, hpar, S, hb⟩
  exact ⟨⟨⟨_, _, T, b1 _ _ _ _ _ _ _ _ dn⟩, PySem.W.mg_of X G c.a, c.kC⟩, c.exc g, c.tape g, c.ve⟩
end
/-! ### the law's end -/
theorem walkLE {l : PySem.W.OpenLaw} {n k : Nat} {q : Program} {loose : List Str} {XP : (Str → Option Value) → Heap → Prop} {YP : World → Heap → Prop} {d : DefRec} {CX : CXT} {x : Str}
    (hn : l.most = some n) (hn2 : n ≤ sizeLine) (hdf : d.params.defaults = []) (hr : Room k callerA) (hi : importsNone q = true)
    (F : ∀ (w : World) (mg : Str → Option Value) (fa : Addr) (h : Heap), YP w h → (∀ d ∈ recsOf q, ∃ a o fd c P, mg d.name = some (.ref a) ∧ h.get? a = some o ∧ o.data = .func fd ∧ fd.code = .ref c ∧ h.IsCode c P #[] ∧ h.TableAt c P #[]) →
      h.Ns mainGlobals mg → mg d.name = some (.ref fa) → ∃ K : PySem.W.Frag, K.In h ∧ K.lookup sysModules = none ∧ LawL l w K CX k n x mg fa h)
    (hCX : ∀ (H : Hp) (s : Shared) (e : Value) (s' : Shared), CX [] H s (fun _ _ _ => False) e s' → False) :
    PySem.W.WalkO q loose XP YP l.row.toRowW d [] (fun f vs => PySem.call f vs) := by
  refine Att.attach_callB hn hdf fun w s0 s1 mg mb fa o pm cd doc a vs ns G Y ho hd hcd hmg hobj hints hlen hbits hg => ?_
  obtain ⟨K, KX, hm, fd, cs, sp, hT, nT, C, hb, hsp, hF⟩ := F w mg fa _ Y G.T.tab G.T.g hmg
  obtain ⟨mm, hmm, _⟩ := (G.T.seer hi).mods
  exact law_callL ⟨KX, G.T.g, G.T.b, G.T.builtins, G.T.nolimit, hT, nT, C, G.T.bmain, ⟨mm, hmm⟩, hm⟩ hobj hints (Nat.le_trans hlen hn2) hg hr hF hb (fun H oS h1 h2 h3 => hsp H oS a ns hlen h1 h2 h3) fun H e s' => hCX H s1 e s'
end L2.TP

/-! Layer X: rules with the written part said by its name (for use within comprehensions). -/
namespace L2.TP
open PySem PySem.Spec PyProof.Rows
section
variable {X : Cx} {K : PySem.W.Frag}
theorem call_isWK (h : X.K = K) : CallR X (.builtin "isinstance") (rIsW K) := by
  subst h
  exact call_isW
theorem call_isiK (h : X.K = K) : CallR X (.builtin "isinstance") (rIsi K) := by
  subst h
  exact call_isi
theorem pe_xfVK {e : Expr} {te : TE} {pos : Pos} {n : Str} (h : X.K = K) (he : PE X e te) (hb : attributeBase e n X.env (eval e X.env) = eval e X.env := by rfl) : PE X (.Attribute e n pos) (tXfV K n te) := by
  subst h
  exact pe_xfV he hb
theorem ix_listK (h : X.K = K) : IxR X (rIxL K) := by
  subst h
  exact ix_list
theorem ix_tupK (h : X.K = K) : IxR X (rIxT K) := by
  subst h
  exact ix_tup
end
end L2.TP

/-! Layer Y: a lambda with parameters, handed to a def and called there (also within a comprehension): the cells that it captured are tracked while the def runs. -/
namespace L2.TP
open PySem PySem.Spec PyProof.Rows LamX NdefX
/-- captured cells: their objects -/
abbrev Cels := Addr → Option Obj
def lessH (H : Hp) (cs : Cels) : Hp := fun b => if (cs b).isSome then none else H b
def plusH (H : Hp) (cs : Cels) : Hp := fun b => match cs b with
  | some o => some (.frz o (.own b))
  | none => H b
theorem less_no {H : Hp} {cs : Cels} {b : Addr} (h : cs b = none) : lessH H cs b = H b := by
  unfold lessH
  rw [h]
  rfl
theorem less_yes {H : Hp} {cs : Cels} {b : Addr} {o : Obj} (h : cs b = some o) : lessH H cs b = none := by
  unfold lessH
  rw [h]
  rfl
theorem plus_no {H : Hp} {cs : Cels} {b : Addr} (h : cs b = none) : plusH H cs b = H b := by
  unfold plusH
  rw [h]
theorem plus_yes {H : Hp} {cs : Cels} {b : Addr} {o : Obj} (h : cs b = some o) : plusH H cs b = some (.frz o (.own b)) := by
  unfold plusH
  rw [h]
/-- all of them are tracked -/
def Trk (H : Hp) (cs : Cels) : Prop := ∀ c o, cs c = some o → H c = some (.frz o (.own c))
theorem Trk.ext {H H' : Hp} {cs : Cels} (h : Trk H cs) (e : Ext H H') : Trk H' cs := fun c o q => e _ _ (h c o q)
theorem Trk.plus {H : Hp} {cs : Cels} : Trk (plusH H cs) cs := fun _ _ q => plus_yes q
theorem plus_less {H : Hp} {cs : Cels} (t : Trk H cs) : plusH (lessH H cs) cs = H := by
  funext b
  cases q : cs b with
  | none => rw [plus_no q, less_no q]
  | some o => rw [plus_yes q, t b o q]
theorem less_plus {H : Hp} {cs : Cels} (t : ∀ c o, cs c = some o → H c = none) : lessH (plusH H cs) cs = H := by
  funext b
  cases q : cs b with
  | none => rw [less_no q, plus_no q]
  | some o => rw [less_yes q, t b o q]
theorem ext_plus {H H' : Hp} {cs : Cels} (t : Trk H cs) (e : Ext (lessH H cs) H') : Ext H (plusH H' cs) := fun b o h => by
  cases q : cs b with
  | none =>
    rw [plus_no q]
    exact e b o (by rw [less_no q]; exact h)
  | some ob =>
    rw [plus_yes q, ← t b ob q]
    exact h
theorem ext_less {H H' : Hp} {cs : Cels} (t : ∀ c o, cs c = some o → H c = none) (e : Ext (plusH H cs) H') : Ext H (lessH H' cs) := fun b o h => by
  cases q : cs b with
  | none =>
    rw [less_no q]
    exact e b o (by rw [plus_no q]; exact h)
  | some ob =>
    rw [t b ob q] at h
    cases h
/-- data does not lean on them -/
theorem at_less {H : Hp} {cs : Cels} {a : Addr} {o : HO} (t : Trk H cs) (h : H a = some o) (n : ∀ ob u, o ≠ .frz ob u) : lessH H cs a = some o := by
  cases q : cs a with
  | none =>
    rw [less_no q]
    exact h
  | some ob =>
    rw [t a ob q] at h
    injection h with h
    exact absurd h.symm (n _ _)
section
variable {H : Hp} {cs : Cels}
mutual
theorem Dq.less (t : Trk H cs) : ∀ {v : V} {d : PyData}, Dq H v d → Dq (lessH H cs) v d
  | _, _, .non => .non
  | _, _, .bl b => .bl b
  | _, _, .int i => .int i
  | _, _, .str x => .str x
  | _, _, .lst h k => .lst (at_less t h fun _ _ z => by cases z) (DqAll.less t k)
  | _, _, .tup h k => .tup (at_less t h fun _ _ z => by cases z) (DqAll.less t k)
  | _, _, .dct h k => .dct (at_less t h fun _ _ z => by cases z) (DqKv.less t k)
theorem DqAll.less (t : Trk H cs) : ∀ {v : List V} {d : List PyData}, DqAll H v d → DqAll (lessH H cs) v d
  | _, _, .nil => .nil
  | _, _, .cons h k => .cons (Dq.less t h) (DqAll.less t k)
theorem DqKv.less (t : Trk H cs) : ∀ {v : List (Key × V)} {d : List (PyData × PyData)}, DqKv H v d → DqKv (lessH H cs) v d
  | _, _, .nil => .nil
  | _, _, .cons h k => .cons (Dq.less t h) (DqKv.less t k)
end
theorem Dq.plus (t : ∀ c o, cs c = some o → H c = none) {v : V} {d : PyData} (h : Dq H v d) : Dq (plusH H cs) v d := h.ext fun b o e => by
  cases q : cs b with
  | none => rw [plus_no q]; exact e
  | some ob => rw [t b ob q] at e; cases e
theorem ext_plusH (t : ∀ c o, cs c = some o → H c = none) : Ext H (plusH H cs) := fun b o e => by
  cases q : cs b with
  | none => rw [plus_no q]; exact e
  | some ob => rw [t b ob q] at e; cases e
end
/-! ### the two ways -/
section
variable {P : Program} {w : World} {K : PySem.W.Frag} {mg : Str → Option Value} {base : Heap} {A : Around} {outer : List Env} {s : Shared} {H : Hp} {cs : Cels}
theorem hok_less {h : Heap} (k : HOk P w H h) (t : Trk H cs) : HOk P w (lessH H cs) h := fun a o e => by
  cases q : cs a with
  | some ob =>
    rw [less_yes q] at e
    cases e
  | none =>
    rw [less_no q] at e
    exact (k a o e).stay (fun _ _ _ z => z) (fun b z => at_less t z fun _ _ y => by cases y) fun b xs z => at_less t z fun _ _ y => by cases y
theorem hok_plus {h : Heap} (k : HOk P w H h) (t : ∀ c o, cs c = some o → H c = none) (hc : ∀ c o, cs c = some o → h.get? c = some o) : HOk P w (plusH H cs) h := fun a o e => by
  cases q : cs a with
  | some ob =>
    rw [plus_yes q] at e
    cases e
    exact ⟨hc a ob q, ob, hc a ob q⟩
  | none =>
    rw [plus_no q] at e
    exact (k a o e).stay (fun _ _ _ z => z) (fun b z => ext_plusH t _ _ z) fun b xs z => ext_plusH t _ _ z
/-- the cells are let go of -/
theorem env_less (e : Env0 P w K mg base A outer s H) (t : Trk H cs) : Env0 P w K mg base A outer s (lessH H cs) := by
  have n : ∀ b, H b = none → lessH H cs b = none := fun b h => by
    cases q : cs b with
    | none => rw [less_no q]; exact h
    | some o => exact less_yes q
  exact ⟨e.frames, e.mod, fun b o z => ⟨(e.bs b o z).1, n b (e.bs b o z).2⟩, e.bsz, e.funs, fun b z => n b (e.frf b z), hok_less e.hok t, e.bare⟩
theorem ce_plus {Q : VK} {u : Value} {s' : Shared} (e : Env0 P w K mg base A outer s H) (t : Trk H cs) (h : CE outer P w (lessH H cs) s Q u s') : CE outer P w H s (fun v H' => ∃ H0, H' = plusH H0 cs ∧ Q v H0) u s' := by
  obtain ⟨v, H0, os, bare, un, hok, r, q⟩ := h
  have hg : ∀ c o, cs c = some o → s.heap.get? c = some o := fun c o z => (e.hok c _ (t c o z)).1
  have nf : ∀ c o, cs c = some o → c ∉ frs outer := fun c o z y => by
    have := e.frf c y
    rw [t c o z] at this
    cases this
  have h0 : ∀ c o, cs c = some o → H0 c = none := fun c o z => un.free c o (hg c o z) (less_yes z) (by simp)
  have hc : ∀ c o, cs c = some o → s'.heap.get? c = some o := fun c o z => un.keep c o (hg c o z) (less_yes z) (nf c o z) (by simp)
  have no : ∀ b, H b = none → cs b = none := fun b z => by
    cases q : cs b with
    | none => rfl
    | some o => rw [t b o q] at z; cases z
  have no2 : ∀ b o, H b = some o → (∀ ob u, o ≠ .frz ob u) → cs b = none := fun b o z n => by
    cases q : cs b with
    | none => rfl
    | some ob =>
      rw [t b ob q] at z
      injection z with z
      exact absurd z.symm (n _ _)
  refine ⟨v, plusH H0 cs, os, bare, ⟨fun b o z n x y => ?_, fun b o z n x y => ?_, fun b o z n y => ?_, fun b o z y => un.there b o z y, fun b xs z => ?_, fun b o u z => ?_, fun b ps z => ?_⟩, hok_plus hok h0 hc, r, H0, rfl, q⟩
  · exact un.keep b o z (by rw [less_no (no b n)]; exact n) x y
  · exact un.slot b o z (by rw [less_no (no b n)]; exact n) x y
  · rw [plus_no (no b n)]
    exact un.free b o z (by rw [less_no (no b n)]; exact n) y
  · have c := no2 b _ z fun _ _ y => by cases y
    rw [plus_no c]
    exact un.tups b xs (by rw [less_no c]; exact z)
  · cases c : cs b with
    | none =>
      rw [plus_no c]
      exact un.frzs b o u (by rw [less_no c]; exact z)
    | some ob =>
      rw [plus_yes c, ← t b ob c]
      exact z
  · have c := no2 b _ z fun _ _ y => by cases y
    rw [plus_no c]
    exact un.tbls b ps (by rw [less_no c]; exact z)
/-- the cells are tracked -/
theorem env_plus (e : Env0 P w K mg base A outer s H) (t : ∀ c o, cs c = some o → H c = none) (hc : ∀ c o, cs c = some o → s.heap.get? c = some o) (hb : ∀ c o, cs c = some o → base.get? c = none) (hf : ∀ c o, cs c = some o → c ∉ frs outer) : Env0 P w K mg base A outer s (plusH H cs) := by
  refine ⟨e.frames, e.mod, fun b o z => ⟨(e.bs b o z).1, ?_⟩, e.bsz, e.funs, fun b z => ?_, hok_plus e.hok t hc, e.bare⟩
  · cases q : cs b with
    | none => rw [plus_no q]; exact (e.bs b o z).2
    | some ob => rw [hb b ob q] at z; cases z
  · cases q : cs b with
    | none => rw [plus_no q]; exact e.frf b z
    | some ob => exact absurd z (hf b ob q)
theorem ce_less {Q : VK} {u : Value} {s' : Shared} (t : ∀ c o, cs c = some o → H c = none) (hc : ∀ c o, cs c = some o → s.heap.get? c = some o) (h : CE outer P w (plusH H cs) s Q u s') : CE outer P w H s (fun v H' => ∃ H2, H' = lessH H2 cs ∧ Trk H2 cs ∧ Q v H2) u s' := by
  obtain ⟨v, H2, os, bare, un, hok, r, q⟩ := h
  have tr : Trk H2 cs := fun c o z => un.frzs c o _ (plus_yes z)
  have no2 : ∀ b o, H b = some o → cs b = none := fun b o z => by
    cases q : cs b with
    | none => rfl
    | some ob => rw [t b ob q] at z; cases z
  refine ⟨v, lessH H2 cs, os, bare, ⟨fun b o z n x y => ?_, fun b o z n x y => ?_, fun b o z n y => ?_, fun b o z y => un.there b o z y, fun b xs z => ?_, fun b o u z => ?_, fun b ps z => ?_⟩, hok_less hok tr, r, H2, rfl, tr, q⟩
  · cases c : cs b with
    | none => exact un.keep b o z (by rw [plus_no c]; exact n) x y
    | some ob =>
      have e1 := hc b ob c
      rw [z] at e1
      cases e1
      exact (hok b _ (tr b o c)).1
  · cases c : cs b with
    | none => exact un.slot b o z (by rw [plus_no c]; exact n) x y
    | some ob =>
      have e1 := hc b ob c
      rw [z] at e1
      cases e1
      exact ⟨o.slots, (hok b _ (tr b o c)).1⟩
  · cases c : cs b with
    | none =>
      rw [less_no c]
      exact un.free b o z (by rw [plus_no c]; exact n) y
    | some ob => exact less_yes c
  · have c := no2 b _ z
    rw [less_no c]
    exact un.tups b xs (by rw [plus_no c]; exact z)
  · have c := no2 b _ z
    rw [less_no c]
    exact un.frzs b o u (by rw [plus_no c]; exact z)
  · have c := no2 b _ z
    rw [less_no c]
    exact un.tbls b ps (by rw [plus_no c]; exact z)
end
/-! ### the lambda -/
structure LF where
  qual : Str
  params : Arguments
  body : Expr
  scope : Scope
  cl : List (Str × Addr)
  c : Addr
def LF.nf (F : LF) : NF := ⟨"<lambda>", F.qual, F.params, [], F.scope, F.cl, F.c⟩
def LmO (f : Addr) (F : LF) : HO := .ext fun h => ∃ pm ctv : Value, h.get? f = some (PySem.W.kla_obj "<lambda>" F.qual F.params F.body F.scope F.cl pm F.c ctv)
structure LamAt (H : Hp) (f : Addr) (F : LF) (cs : Cels) : Prop where
  fn : H f = some (LmO f F)
  co : H F.c = some (CodeO F.c F.qual)
  trk : Trk H cs
theorem LamAt.ext {H H' : Hp} {f : Addr} {F : LF} {cs : Cels} (h : LamAt H f F cs) (e : Ext H H') : LamAt H' f F cs := ⟨e _ _ h.fn, e _ _ h.co, h.trk.ext e⟩
/-- what the cells hold, by their objects -/
structure CelsOk (cl : List (Str × Addr)) (fr : List Str) (ws : List (Option V)) (cs : Cels) : Prop where
  len : ws.length = fr.length
  all : ∀ y c, cl.lookup y = some c → ∃ o v, cs c = some o ∧ o.data = .cell v
  inj : ∀ x y c, cl.lookup x = some c → cl.lookup y = some c → x = y
  has : ∀ (i : Nat) (y : Str), fr[i]? = some y → ∃ c o, cl.lookup y = some c ∧ cs c = some o ∧ ∀ v, ws[i]? = some (some v) → ∃ u, L2.RelV v u ∧ o.data = .cell (some u)
/-- the promise of the lambda F at f -/
structure LOk (P : Program) (w : World) (K : PySem.W.Frag) (mg : Str → Option Value) (base : Heap) (k : Nat) (f : Addr) (F : LF) (cs : Cels) (sp : Sp) : Prop where
  run : ∀ (A : Around) (outer : List Env) (s : Shared) (H : Hp) (us : List Value) (vs : List V) (Q : VK), Room k A → Env0 P w K mg base A outer s H → LamAt H f F cs → Vals vs us → sp vs H Q C8.E0 →
    codeAny (model P w) A (.call (.ref f) ⟨us, []⟩) (CR C8.CX0 outer P w H s Q C8.E0) s
section
variable {P : Program} {w : World} {K : PySem.W.Frag} {mg : Str → Option Value} {base : Heap} {N ps fr : List Str} {f : Addr} {F : LF} {cs : Cels} {ws : List (Option V)} {k : Nat} {sp : Sp}
theorem LOk.mono {j : Nat} (L : LOk P w K mg base j f F cs sp) (h : j ≤ k) : LOk P w K mg base k f F cs sp := ⟨fun A outer s H us vs Q hr => L.run A outer s H us vs Q (hr.mono h)⟩
theorem lok_of (S : NScope N ps fr F.scope) (hb : ∀ (pm ctv : Value) (us : List Value), us.length = ps.length → bindArgs (PySem.W.kla_fn "<lambda>" F.qual F.params F.body F.scope F.cl pm (.ref F.c) ctv) ⟨us, []⟩ = pure (ps.zip us)) (C : CelsOk F.cl fr ws cs)
    (len : ∀ vs H Q E, sp vs H Q E → vs.length = ps.length)
    (hbody : ∀ (A : Around) (outer : List Env) (s : Shared) (H : Hp) (vs : List V) (Q : VK), Room k (A.deeper (envF F.nf f s.heap.objs.size)) → LamAt H f F cs → sp vs H Q C8.E0 →
      ∃ t : TE, PE (ncx C8.CX0 P w K mg base N F.nf f A outer s (lessH H cs) C8.E0) F.body t ∧ t (startF N vs ws) (lessH H cs) fun v H' => Q v (plusH H' cs)) :
    LOk P w K mg base (k + 1) f F cs sp := by
  refine ⟨fun A outer s H us vs Q hr e0 L r hsp => ?_⟩
  have hl := len _ _ _ _ hsp
  have lim : s.heap.NoLimit := e0.mod.nolimit.keeps fun b o e => (e0.bs b o e).1
  obtain ⟨⟨pm, ctv, ho⟩, _, _⟩ := e0.hok f _ L.fn
  refine PySem.W.kla_callFunE hr.depth ho rfl S.co S.gen rfl (codeO_at e0.hok L.co) ?_
  rw [hb pm ctv us (by rw [← r.length]; exact hl)]
  refine wpAny_pure (wpAny_newFunctionEnv S.nocell (fun ⟨n, _⟩ hy => S.par n (List.of_mem_zip hy).1) (fun h₁ hns hsb => ⟨lim.fresh _ hsb, ?_⟩) S.kind)
  show codeAny _ _ (.expr F.body (envF F.nf f s.heap.objs.size)) _ _
  have kp : ∀ b o, s.heap.get? b = some o → h₁.get? b = some o := fun b o e => hsb.extBut b o (Nat.ne_of_lt (Heap.lt_size e)) (Heap.get?_push_of_some _ e)
  obtain ⟨t, ht, hq⟩ := hbody A outer s H vs Q (hr.deeper _) L hsp
  have hg : ∀ c o, cs c = some o → s.heap.get? c = some o := fun c o z => (e0.hok c _ (L.trk c o z)).1
  have CA : CellsAt F.nf.cl fr ws s.heap (lessH H cs) := by
    refine ⟨C.len, fun y c e => ?_, C.inj, fun i y e => ?_⟩
    · obtain ⟨o, v, h1, h2⟩ := C.all y c e
      exact ⟨less_yes h1, v, o, hg c o h1, h2⟩
    · obtain ⟨c, o, h1, h2, h3⟩ := C.has i y e
      refine ⟨c, h1, fun v ev => ?_⟩
      obtain ⟨u, ru, hd⟩ := h3 v ev
      exact ⟨u, ru, o, hg c o h2, hd⟩
  have I : Inv (ncx C8.CX0 P w K mg base N F.nf f A outer s (lessH H cs) C8.E0) [] (startF N vs ws) (lessH H cs) { s with heap := h₁, toks := s.toks + (ps.zip us).length } := inv_startN S hr.hd (env_less e0 L.trk) hl r CA hns kp
  refine PySem.W.kla_codeExpr (wpAny_mono (ht.run [] _ _ _ _ I hq) (fun v s' hq => ?_) fun e s' hq => ?_)
  · obtain ⟨w', H', J', rv, q⟩ := hq
    have ce : CE outer P w (lessH H cs) s (fun v H' => Q v (plusH H' cs)) v s' := ⟨w', H', J'.os, J'.bare, J'.base, J'.hok, rv, q⟩
    obtain ⟨v2, H2, a1, a2, a3, a4, a5, H0, rfl, q2⟩ := ce_plus e0 L.trk ce
    exact ⟨v2, _, a1, a2, a3, a4, a5, q2⟩
  · exact hq
end
/-- f(..), f a name that holds the lambda F -/
def tCallLm (i : Nat) (f : Addr) (F : LF) (cs : Cels) (sp : Sp) (t : TA) : TE := fun σ H Q => σ[i]? = some (some (.ref f)) ∧ H f = some (LmO f F) ∧ t σ H fun vs H1 => LamAt H1 f F cs ∧ sp vs H1 Q C8.E0
section
variable {X : Cx} {pins : List (Addr × Obj)} {σ : L2.St} {H : Hp} {s : Shared}
theorem lmAt_of {f : Addr} {F : LF} (I : Inv X pins σ H s) (e : H f = some (LmO f F)) : PySem.W.FnAt f s.heap := by
  obtain ⟨⟨pm, ctv, ho⟩, _, _⟩ := I.hok f _ e
  exact ⟨_, _, _, _, ho⟩
theorem pe_callLm {f : Addr} {F : LF} {cs : Cels} {sp : Sp} {k i : Nat} {x : Str} {t : TA} {e : Expr} {es : List Expr} {p pos : Pos} (L : LOk X.prog X.w X.K X.mg X.base k f F cs sp) (hr : Room k X.A) (hN : X.N[i]? = some x) (hv : Vis X.env.scope x) (ha : PA X (e :: es) t)
    (hd : (x == ("__debug__" : Str)) = false := by decide) (hcd : (x == ("__classdict__" : Str)) = false := by decide)
    (he : starEach (e :: es) X.env = (false, eval e X.env) :: starEach es X.env := by rfl) (hpl : (backTo pos (starEach es X.env)).any (·.1) = false := by rfl) :
    PE X (.Call (.Name x p) (e :: es) [] pos) (tCallLm i f F cs sp t) := by
  refine ⟨fun pins s σ H Q I h => ?_⟩
  obtain ⟨hs, hf, ht⟩ := h
  refine wpAny_Call_Name_kw (thn ((pe_var (pos := p) hN hv hd hcd).run pins s σ H (fun v H1 => v = .ref f ∧ H1 = H) I ⟨.ref f, hs, rfl, rfl⟩) fun u s1 ⟨v, H1, I1, r1, q1⟩ => ?_)
  obtain ⟨ev, eH⟩ := q1
  subst ev
  rw [eH] at I1
  obtain rfl : u = Value.ref f := r1
  refine PySem.W.callWith_F (first := []) (lmAt_of I1 hf) (thn (ha.run pos pins s1 σ H _ I1 ht) fun us s2 ⟨vs, H2, I2, r, h1, q⟩ => ⟨lmAt_of I2 h1.fn, ?_⟩) he hpl
  show wpAny _ _ (call (.ref f) us) _ _ _
  refine wpAny_call (codeAny_mono (L.run X.A X.stack s2 H2 us vs Q hr I2.env0 h1 r q) fun r s' hq => ?_)
  cases r with
  | error e => exact (show False from hq).elim
  | ok fl =>
    cases fl with
    | ret u => exact I2.after hq
    | next => exact False.elim hq
    | brk => exact False.elim hq
    | cont => exact False.elim hq
/-! ### its making -/
/-- the object of a lambda of X's text -/
abbrev lmObj (X : Cx) (params : Arguments) (body : Expr) (scope : Scope) (c' : Addr) (ctv : Value) : Obj :=
  PySem.W.kla_obj "<lambda>" (X.env.qual ++ "<lambda>") params body scope (cloFrom X.env.cells scope.names []) ((X.mg "__name__").getD .none) c' ctv
theorem tabs_more {T : List (Addr × Str)} {P c' : Addr} {qn : Str} {ps : Array Value} {pos : Pos} (tabs : Tabs T H) (uni : ∀ p ∈ T, p.1 = P → p.2 = qn) (hP : H P = some (.tbl ps)) (ok : TriplesOk ps.toList) (old : ∀ (z : Pos) (cv : Value), codeAmong z ps.toList = some cv → ∃ d, cv = .ref d ∧ H d = some (CodeO d qn)) (nc : H c' = none) :
    ExtN H (upd (upd H P (.tbl (ps ++ #[rawInt pos.line, rawInt pos.col, .ref c']))) c' (CodeO c' qn)) ∧ Tabs T (upd (upd H P (.tbl (ps ++ #[rawInt pos.line, rawInt pos.col, .ref c']))) c' (CodeO c' qn)) := by
  generalize hM : upd (upd H P (.tbl (ps ++ #[rawInt pos.line, rawInt pos.col, .ref c']))) c' (CodeO c' qn) = M
  have mP : M P = some (.tbl (ps ++ #[rawInt pos.line, rawInt pos.col, .ref c'])) := by
    rw [← hM, upd_ne (ne_of_none hP nc), upd_same]
  have mc : M c' = some (CodeO c' qn) := by
    rw [← hM]
    exact upd_same
  have mo : ∀ d, d ≠ P → d ≠ c' → M d = H d := fun d h1 h2 => by
    rw [← hM, upd_ne h2, upd_ne h1]
  have grow : ExtN H M := fun d o hd no => by
    rw [mo d (fun z => ?_) (ne_of_none hd nc)]
    · exact hd
    · rw [z, hP] at hd
      exact no ps (Option.some.inj hd).symm
  refine ⟨grow, fun t ht => ?_⟩
  by_cases isP : t.1 = P
  · rw [uni t ht isP, isP]
    have el : (ps ++ #[rawInt pos.line, rawInt pos.col, Value.ref c']).toList = ps.toList ++ [rawInt pos.line, rawInt pos.col, .ref c'] := by simp
    refine ⟨_, mP, el ▸ PySem.TriplesOk_snoc _ _ _ _ ok, fun z cv hz => ?_⟩
    rw [el] at hz
    cases among_app _ ok hz with
    | inl h =>
      obtain ⟨d, e1, e2⟩ := old z cv h
      exact ⟨d, e1, grow _ _ e2 codeO_ne⟩
    | inr h => exact ⟨c', h, mc⟩
  · obtain ⟨qs, b1, b2, b3⟩ := tabs t ht
    refine ⟨qs, (mo _ isP (ne_of_none b1 nc)).trans b1, b2, fun z cv hz => ?_⟩
    obtain ⟨d, e1, e2⟩ := b3 z cv hz
    exact ⟨d, e1, grow _ _ e2 codeO_ne⟩
/-- a lambda is made: where it stands is new -/
theorem lam_make3 {T : List (Addr × Str)} {c P : Addr} {params : Arguments} {body : Expr} {scope : Scope} {pos : Pos} {E : Value → Shared → Prop} {R : Value → Shared → Prop} (J : Inv X pins σ H s) (TB : TabB X.base X.mg c P) (hcode : X.env.code = .ref c)
    (mem : (P, X.env.qual ++ "<lambda>") ∈ T) (uni : ∀ p ∈ T, p.1 = P → p.2 = X.env.qual ++ "<lambda>") (tabs : Tabs T H) (nodef : defaultsOf params X.env = ([], [])) (capt : ∀ y ∈ scope.names, y.2 = .free → ∃ d, X.env.cells.lookup y.1 = some d)
    (go : ∀ (f c' : Addr) (ctv : Value) (M : Hp) (s' : Shared), Inv X pins σ M s' → ExtN H M → Tabs T M → s'.heap.get? f = some (lmObj X params body scope c' ctv) → M f = none → s.heap.objs.size ≤ f → M c' = some (CodeO c' (X.env.qual ++ "<lambda>")) → R (.ref f) s') :
    wpAny (model X.prog X.w) X.A (eval (.Lambda params body scope pos) X.env) R E s := by
  obtain ⟨ps, tblP, triOk, known⟩ := tabs _ mem
  have atP : s.heap.get? P = some { cls := .none, data := .fields ps } := J.hok P _ tblP
  have globs := J.mod.glob.keeps J.bk
  have codes := TB.code.keeps J.bk
  have blts : s.heap.BuiltinsAt X.mg P := TB.bm.keeps J.bk
  refine PySem.W.kla_eval nodef ?_
  cases among : codeAmong pos ps.toList with
  | some cv =>
    obtain ⟨c', rfl, cO⟩ := known pos cv among
    refine PySem.W.kla_makeFunctionHit (mg := X.mg) (c := c) (P := P) (ps := ps) (closure_ok capt) J.ok.glob globs hcode codes atP triOk among blts fun ctv g tk keep big => ?_
    have J2 : Inv X pins σ H { s with heap := g.push (lmObj X params body scope c' ctv), toks := tk } := J.kept fun b o e => Heap.get?_push_of_some _ (keep b o e)
    exact go g.objs.size c' ctv H _ J2 (ExtN.refl H) tabs (Heap.get?_push_size _ rfl) (J.hok.fresh big) big cO
  | none =>
    refine PySem.W.kla_makeFunction (mg := X.mg) (c := c) (P := P) (ps := ps) (closure_ok capt) J.ok.glob globs hcode codes atP triOk among TB.gP blts fun c' ctv g tk keep big less rec tab => ?_
    obtain ⟨d, oc, vs, t, ed, atc, hdat, hnam⟩ := rec
    cases ed
    have big2 : s.heap.objs.size ≤ g.objs.size := Nat.le_of_lt (Nat.lt_of_le_of_lt big less)
    have newC : H c' = none := J.hok.fresh big
    obtain ⟨gr, tb2⟩ := tabs_more (pos := pos) tabs uni tblP triOk known newC
    have J2 := inv_table (t' := tk) (more := #[rawInt pos.line, rawInt pos.col, .ref c']) (h' := g.push (lmObj X params body scope c' ctv)) (q := X.env.qual ++ "<lambda>") J tblP (fun b o ne e => Heap.get?_push_of_some _ (keep b o ne e)) (Heap.get?_push_of_some _ tab) big ⟨oc, vs, t, Heap.get?_push_of_some _ atc, hdat, hnam⟩
    refine go g.objs.size c' ctv _ _ J2 gr tb2 (Heap.get?_push_size _ rfl) ?_ big2 upd_same
    rw [upd_ne (Nat.ne_of_gt less), upd_ne (Nat.ne_of_gt (Nat.lt_of_lt_of_le (Heap.lt_size atP) big2))]
    exact J.hok.fresh big2
/-- lambda ..: body, the last of the arguments -/
def tLamA (T : List (Addr × Str)) (mk : Addr → LF) : TA := fun σ H Q => Tabs T H ∧ ∀ (f c' : Addr) (H1 : Hp), ExtN H H1 → Tabs T H1 → H f = none → H1 f = some (LmO f (mk c')) → H1 c' = some (CodeO c' (mk c').qual) → Q [.ref f] H1
theorem pa_lam {T : List (Addr × Str)} {c P : Addr} {params : Arguments} {body : Expr} {scope : Scope} {lpos : Pos} (TB : TabB X.base X.mg c P) (hcode : X.env.code = .ref c) (hex : X.ex = [])
    (hm : (P, X.env.qual ++ "<lambda>") ∈ T) (hu : ∀ p ∈ T, p.1 = P → p.2 = X.env.qual ++ "<lambda>") (hdef : defaultsOf params X.env = ([], [])) (hfree : ∀ y ∈ scope.names, y.2 = .free → X.env.scope.names.lookup y.1 = some .cell ∨ X.env.scope.names.lookup y.1 = some .free) :
    PA X [.Lambda params body scope lpos] (tLamA T fun c' => ⟨X.env.qual ++ "<lambda>", params, body, scope, cloFrom X.env.cells scope.names [], c'⟩) := by
  refine ⟨fun pos pins s σ H Q I h => ?_⟩
  obtain ⟨hT, h⟩ := h
  show wpAny _ _ (spliced ((false, eval (.Lambda params body scope lpos) X.env) :: backTo pos (starEach [] X.env))) _ _ s
  have hf : ∀ y ∈ scope.names, y.2 = .free → ∃ c, X.env.cells.lookup y.1 = some c := fun y hy e => (hfree y hy e).elim (fun z => I.ok.has _ (.inl z)) fun z => I.ok.has _ (.inr z)
  refine Calls.spliced_cons (lam_make3 I TB hcode hm hu hT hdef hf fun f c' ctv H1 s' I1 eN T1 ho hfn hnew hco => ?_)
  have n0 : X.s_0.heap.get? f = none := Heap.get?_none_of_le (Nat.le_trans I.sz hnew)
  have nf0 : H f = none := I.hok.fresh hnew
  have I2 : Inv X pins σ (upd H1 f (LmO f ⟨X.env.qual ++ "<lambda>", params, body, scope, cloFrom X.env.cells scope.names [], c'⟩)) s' := by
    refine Inv.track I1 n0 hfn ⟨⟨_, ctv, ho⟩, ⟨_, ho⟩, fun h1 h2 ⟨a, b, z⟩ st => ⟨a, b, st _ z⟩⟩ (fun z => ?_) (fun y cc e z => ?_) fun p hp z => ?_
    · have := I.lt
      rw [← z] at this
      exact absurd (Nat.lt_of_lt_of_le this hnew) (Nat.lt_irrefl _)
    · obtain ⟨v, o, hoc, hd⟩ := I.cell y cc e
      rw [z] at hoc
      exact absurd (Nat.lt_of_lt_of_le (Heap.lt_size hoc) hnew) (Nat.lt_irrefl _)
    · obtain ⟨p1, _⟩ := I.pin p hp
      rw [z] at p1
      exact absurd (Nat.lt_of_lt_of_le (Heap.lt_size p1) hnew) (Nat.lt_irrefl _)
  have x12 : Ext H1 (upd H1 f (LmO f ⟨X.env.qual ++ "<lambda>", params, body, scope, cloFrom X.env.cells scope.names [], c'⟩)) := ext_upd hfn
  exact Calls.spliced_nil ⟨[.ref f], _, I2, .cons rfl .nil, h f c' _ (fun b o e n => x12 _ _ (eN b o e n)) (T1.ext x12) nf0 upd_same (x12 _ _ hco)⟩
/-! ### the call of a def that gets it -/
/-- g(..): the cells of X that cl names are tracked while g runs -/
def tCallC (cl : List (Str × Addr)) (fr : List Str) (js : List Nat) (sp : Sp) (t : TA) : TE := fun σ H Q => t σ H fun vs H1 => ∀ cs : Cels, CelsOk cl fr (js.map (NdefX.slotAt σ)) cs → (∀ c o, cs c = some o → H1 c = none) → sp vs (plusH H1 cs) (fun v H2 => Trk H2 cs → Q v (lessH H2 cs)) C8.E0
theorem pe_callC {cl : List (Str × Addr)} {fr : List Str} {js : List Nat} {k : Nat} {f : Addr} {fd : FuncData} {ps : List Str} {sp : Sp} {x : Str} {p pos : Pos} {e : Expr} {es : List Expr} {t : TA} (cp : X.Ok → Caps X cl fr js) (hfn : ∀ y, X.fn y = true) (F : FnOk X.prog X.w X.K X.mg X.base C8.CX0 k f fd ps sp) (hr : Room k X.A)
    (hg : Gl X x) (hm : X.mg x = some (.ref f)) (hk : PySem.W.keepIn X.K (.ref f) = true) (hb : Binds X.K fd ps []) (ha : PA X (e :: es) t) (hdb : (x == ("__debug__" : Str)) = false := by decide)
    (he : starEach (e :: es) X.env = (false, eval e X.env) :: starEach es X.env := by rfl) (hpl : (backTo pos (starEach es X.env)).any (·.1) = false := by rfl) : PE X (.Call (.Name x p) (e :: es) [] pos) (tCallC cl fr js sp t) := by
  refine ⟨fun pins s σ H Q I h => wpAny_Call_Name_kw (ld_glob I hg hm ?_ hdb)⟩
  refine PySem.W.callWith_K (h₀ := X.base) I.ok.mod.kin hk (thn (ha.run pos pins s σ H _ I h) fun us s1 hh => ?_) he hpl
  obtain ⟨vs, H1, I1, r, q⟩ := hh
  refine ⟨I1.kIn, ?_⟩
  show wpAny _ _ (call (.ref f) us) _ _ _
  have cp := cp I1.ok
  have CA := cells_of I1 cp
  have CA : CellsAt cl fr (js.map (NdefX.slotAt σ)) s1.heap H1 := CA
  let cs : Cels := fun c => if (cl.any fun q => decide (cl.lookup q.1 = some c)) = true then s1.heap.get? c else none
  have cin : ∀ y c, cl.lookup y = some c → cs c = s1.heap.get? c := fun y c e => if_pos (List.any_eq_true.mpr ⟨(y, c), PySem.mem_of_lookup e, decide_eq_true e⟩)
  have cat : ∀ c o, cs c = some o → s1.heap.get? c = some o ∧ ∃ y, cl.lookup y = some c := fun c o z => by
    by_cases m : (cl.any fun q => decide (cl.lookup q.1 = some c)) = true
    · obtain ⟨q, _, hq⟩ := List.any_eq_true.mp m
      exact ⟨(if_pos m).symm.trans z, q.1, of_decide_eq_true hq⟩
    · cases (if_neg m).symm.trans z
  have fresh : ∀ c o, cs c = some o → H1 c = none := fun c o z => by
    obtain ⟨_, y, hy⟩ := cat c o z
    exact (CA.all y c hy).1
  have high : ∀ c o, cs c = some o → X.s_0.heap.objs.size ≤ c := fun c o z => by
    obtain ⟨_, y, hy⟩ := cat c o z
    exact I1.ok.cab y c (hfn y) (cp.sub y c hy)
  have CO : CelsOk cl fr (js.map (NdefX.slotAt σ)) cs := by
    refine ⟨CA.len, fun y c e => ?_, CA.inj, fun i y e => ?_⟩
    · obtain ⟨_, v, o, ho, hd⟩ := CA.all y c e
      exact ⟨o, v, (cin y c e).trans ho, hd⟩
    · obtain ⟨c, hc, hv⟩ := CA.has i y e
      obtain ⟨_, v0, o, ho, hd⟩ := CA.all y c hc
      refine ⟨c, o, hc, (cin y c hc).trans ho, fun v ev => ?_⟩
      obtain ⟨u, ru, o2, ho2, hd2⟩ := hv v ev
      rw [ho] at ho2
      cases ho2
      exact ⟨u, ru, hd2⟩
  have nofr : ∀ c o, cs c = some o → c ∉ frs X.stack := fun c o z m => by
    obtain ⟨_, y, hy⟩ := cat c o z
    rcases List.mem_cons.mp (I1.stkSub c m) with e | e
    · exact I1.cne y c (cp.sub y c hy) e
    · obtain ⟨_, ob, hob, _⟩ := I1.ok.funs.mem e
      exact absurd (Nat.lt_of_lt_of_le (Heap.lt_size hob) (high c o z)) (Nat.lt_irrefl _)
  have e0 := env_plus (cs := cs) I1.env0 fresh (fun c o z => (cat c o z).1) (fun c o z => Heap.get?_none_of_le (Nat.le_trans I1.ok.bsz (high c o z))) nofr
  have hsp := q cs CO fresh
  have sl : us.length = ps.length := r.length.symm.trans (F.len _ _ _ _ hsp)
  have bb := hb s1 us I1.kIn (by rw [List.append_nil]; exact sl)
  rw [List.append_nil] at bb
  refine wpAny_call (codeAny_mono (F.run X.A X.stack s1 (plusH H1 cs) ⟨us, []⟩ us vs _ _ hr e0 bb r hsp) fun rr s' hq => ?_)
  cases rr with
  | error e => exact (show False from hq).elim
  | ok fl =>
    cases fl with
    | ret u =>
      obtain ⟨v, H', a1, a2, a3, a4, a5, H2, rfl, tr, q2⟩ := ce_less fresh (fun c o z => (cat c o z).1) hq
      exact I1.after ⟨v, _, a1, a2, a3, a4, a5, q2 tr⟩
    | next => exact False.elim hq
    | brk => exact False.elim hq
    | cont => exact False.elim hq
end
end L2.TP

/-! Layer Z: the hook, with the code tables of the functions that make lambdas. -/
namespace L2.TP
open PySem PySem.Spec PyProof.Rows LamX
/-- the code object of the function at f, its table -/
def tbOf (K : PySem.W.Frag) (f : Addr) : Addr × Addr := match K.lookup f with
  | some ⟨_, _, .func fd, _⟩ => (match fd.code with
    | .ref c => (c, match K.lookup c with
      | some ⟨_, _, .fields vs, _⟩ => (match (vs[11]? : Option Value) with
        | some (.ref P) => P
        | _ => 0)
      | _ => 0)
    | _ => (0, 0))
  | _ => (0, 0)
def tabE (K : PySem.W.Frag) (P : Addr) : Bool := match K.lookup P with
  | some ⟨.none, none, .fields vs, sl⟩ => vs.isEmpty && sl.isEmpty
  | _ => false
theorem tabE_ok {K : PySem.W.Frag} {P : Addr} (h : tabE K P = true) : K.lookup P = some { cls := .none, data := .fields #[] } := by
  unfold tabE at h
  split at h
  · rename_i vs sl ho
    obtain ⟨h1, h2⟩ := He.ba h
    rw [ho, Array.isEmpty_iff.mp h1, Array.isEmpty_iff.mp h2]
  · cases h
def tbB (K K2 : PySem.W.Frag) (f : Addr) : Bool := PySem.W.codeHdIn K (tbOf K f).1 (tbOf K f).2 && ((K.lookup (tbOf K f).2).isNone && tabE K2 (tbOf K f).2)
/-- what is told of the table of the function at f -/
structure TbAt (K : PySem.W.Frag) (h : Heap) (f : Addr) : Prop where
  code : PySem.W.codeHdIn K (tbOf K f).1 (tbOf K f).2 = true
  notK : K.lookup (tbOf K f).2 = none
  tab : h.get? (tbOf K f).2 = some { cls := .none, data := .fields #[] }
abbrev LamL := List (PySem.W.Frag → Addr)
def obsZ (chk : List (PySem.W.Frag → Bool)) (lams : LamL) (fn : List DfY) (g : Addr → Option Obj) (K : PySem.W.Frag) : AlY :=
  ((chk.all fun c => c K) && lams.all fun a => tbB K (He.frG g (lams.map fun a => (tbOf K (a K)).2)) (a K), fn.map fun d => fnY K (d.at_ K))
def obsZG (chk : List (PySem.W.Frag → Bool)) (lams : LamL) (fn : List DfY) (g : Addr → Option Obj) : AlY := partM g (obsZ chk lams fn g)
def hookZ (chk : List (PySem.W.Frag → Bool)) (lams : LamL) (fn : List DfY) : PySem.W.Hook where
  α := AlY
  obs := fun s => obsZG chk lams fn s.heap.get?
  val := fun _ => valY fn
  says := fun _ h => ∃ K : PySem.W.Frag, K.In h ∧ SaysY chk fn K ∧ ∀ a ∈ lams, TbAt K h (a K)
  of := fun _ s e => by
    obtain ⟨as, q⟩ := partM_eq s.heap.get? (obsZ chk lams fn s.heap.get?)
    have e : partM s.heap.get? (obsZ chk lams fn s.heap.get?) = valY fn := e
    rw [q] at e
    refine ⟨He.frG s.heap.get? as, He.frG_in, ?_, fun a ha => ?_⟩
    · have e1 := (He.ba (congrArg (fun z : AlY => z.1) e)).1
      have e2 : (obsZ chk lams fn s.heap.get? (He.frG s.heap.get? as)).2 = (valY fn).2 := congrArg (fun z : AlY => z.2) e
      exact Prod.ext e1 e2
    · have e1 := List.all_eq_true.mp (He.ba (congrArg (fun z : AlY => z.1) e)).2 a ha
      obtain ⟨h1, e1⟩ := He.ba e1
      obtain ⟨h2, h3⟩ := He.ba e1
      exact ⟨h1, by simpa using h2, He.frG_in _ _ (tabE_ok h3)⟩
  keeps := fun _ _ _ ⟨K, hK, c, t⟩ k => ⟨K, PySem.W.Frag.In.keeps hK k, c, fun a ha => ⟨(t a ha).code, (t a ha).notK, k _ _ (t a ha).tab⟩⟩
def obTZ (chk : List (PySem.W.Frag → Bool)) (lams : LamL) (fn : List DfY) (s : PySem.W.SharedT) : AlY := obsZG chk lams fn (HandSHeadRun.getT s)
theorem obTZ_eq {chk : List (PySem.W.Frag → Bool)} {lams : LamL} {fn : List DfY} (s : PySem.W.SharedT) : obTZ chk lams fn s = (hookZ chk lams fn).obs s.abs := by
  have e : HandSHeadRun.getT s = s.abs.heap.get? := funext (HandSHeadRun.getT_eq s)
  unfold obTZ
  rw [e]
  rfl
/-- the code of the function at f is the one that its table belongs to -/
theorem code_tb {K : PySem.W.Frag} {f : Addr} {oc : Value} {od : Option Addr} {fd : FuncData} {sl : Array (Option Value)} {cd : Value} {q : Str} (lk : K.lookup f = some ⟨oc, od, .func fd, sl⟩) (hc : fd.code = cd) (h : PySem.W.codeIn K cd q = true) : cd = .ref (tbOf K f).1 := by
  unfold tbOf
  rw [lk]
  dsimp only
  rw [hc]
  cases cd <;> first | rfl | (exact absurd h (by simp [PySem.W.codeIn]))
end L2.TP

/-! Layer 1: names and named things as data; zips of tuples. -/
namespace L2.TP
open PySem PySem.Spec PyProof.Rows RZ
theorem walk_zipT {K : PySem.W.Frag} {a b : Addr} {xs ys : List V} {n : Nat} (hn : n = min xs.length ys.length) : Walk (ItzT K a b) n (fun H => SqT K H a xs ∧ SqT K H b ys) (YPair (fun i => xs[i]?) (fun i => ys[i]?)) := by
  subst hn
  refine ⟨fun i _ hi q => ?_, fun _ q => ⟨xs, ys, q.1, q.2, by omega⟩, fun i H v H' _ q y => ?_⟩
  · have h1 : i < xs.length := by omega
    have h2 : i < ys.length := by omega
    exact ⟨xs, ys, xs[i], ys[i], q.1, q.2, List.getElem?_eq_getElem h1, List.getElem?_eq_getElem h2⟩
  · obtain ⟨T, x, z, e1, e2, e3, e4, e5⟩ := y
    exact ⟨T, x, z, e1, e2, e3, e4 xs q.1, e5 ys q.2⟩
section
variable {X : Cx} {K : PySem.W.Frag}
theorem pi_zipK {e e2 : Expr} {ta : TA} {p pos tpos : Pos} {elts : List Expr} {kk : Nat} (h : X.K = K) (hg : Gl X "zip") (hm : X.mg "zip" = none) (ha : PA X [e, e2] ta)
    (hs : starEach [e, e2] X.env = (false, eval e X.env) :: starEach [e2] X.env := by rfl) (hpl : (backTo pos (starEach [e2] X.env)).any (·.1) = false := by rfl) : PI X (.Tuple elts kk tpos) (.Call (.Name "zip" p) [e, e2] [] pos) (iZipA K ta) := by
  subst h
  exact pi_zipA hg hm ha hs hpl
theorem op_in_seqK (h : X.K = K) : OpR X (compareOp .In) (rIn K false) := by
  subst h
  exact op_in_seq
theorem call_len_seqK (h : X.K = K) : CallR X (.builtin "len") (fun xs H Q => ∃ p ys, xs = [.ref p] ∧ (SqL K H p ys ∨ SqT K H p ys) ∧ Q (.int ys.length) H) := by
  subst h
  exact call_len_seq
end
/-! ### names -/
def letters : Str := "abcdefghijklmnopqrstuvwxyz"
def signB (c : Nat) : Bool := !(Builtin.Str.occurrences letters ⟨#[c]⟩ 0 letters.length 1).isEmpty
def nameS (x : Str) : Bool := (decide (1 ≤ (x.length : Int)) && decide ((x.length : Int) ≤ 8)) && x.cps.toList.all signB
def nameD : PyData → Bool
  | .str x => nameS x
  | _ => false
def strB : PyData → Bool
  | .str _ => true
  | _ => false
def tupB : PyData → Bool
  | .tuple _ => true
  | _ => false
theorem kitS {K : PySem.W.Frag} (d : PyData) : PySem.W.kitOne K (.type (tnD d)) (.type "str") = some (strB d) := by
  cases d with
  | none => exact kit_ty (by show kitB "NoneType" "str" = some false; decide +kernel)
  | bool _ => exact kit_ty (by show kitB "bool" "str" = some false; decide +kernel)
  | int _ => exact kit_ty (by show kitB "int" "str" = some false; decide +kernel)
  | str _ => exact kit_ty (by show kitB "str" "str" = some true; decide +kernel)
  | list _ => exact kit_ty (by show kitB "list" "str" = some false; decide +kernel)
  | tuple _ => exact kit_ty (by show kitB "tuple" "str" = some false; decide +kernel)
  | dict _ => exact kit_ty (by show kitB "dict" "str" = some false; decide +kernel)
theorem kitT {K : PySem.W.Frag} (d : PyData) : PySem.W.kitOne K (.type (tnD d)) (.type "tuple") = some (tupB d) := by
  cases d with
  | none => exact kit_ty (by show kitB "NoneType" "tuple" = some false; decide +kernel)
  | bool _ => exact kit_ty (by show kitB "bool" "tuple" = some false; decide +kernel)
  | int _ => exact kit_ty (by show kitB "int" "tuple" = some false; decide +kernel)
  | str _ => exact kit_ty (by show kitB "str" "tuple" = some false; decide +kernel)
  | list _ => exact kit_ty (by show kitB "list" "tuple" = some false; decide +kernel)
  | tuple _ => exact kit_ty (by show kitB "tuple" "tuple" = some true; decide +kernel)
  | dict _ => exact kit_ty (by show kitB "dict" "tuple" = some false; decide +kernel)
theorem tupB_of {d : PyData} (h : tupB d = true) : ∃ ds, d = .tuple ds := by
  cases d <;> first | exact ⟨_, rfl⟩ | (cases h; done)
theorem strB_of {d : PyData} (h : strB d = true) : ∃ x, d = .str x := by
  cases d <;> first | exact ⟨_, rfl⟩ | (cases h; done)
def ltS (x y : Str) : Bool := decide (x.cps.toList < y.cps.toList)
def risingS (xs : List Str) : Bool := (xs.zip xs.tail).all fun p => ltS p.1 p.2
theorem zip_range {α : Type} {f : α → α → Bool} {d : α} : ∀ {xs ys : List α} {n : Nat}, n = min xs.length ys.length → ((List.range n).map fun i => f (xs.getD i d) (ys.getD i d)).all id = (xs.zip ys).all fun p => f p.1 p.2 := by
  intro xs ys n hn
  have e : (List.range n).map (fun i => f (xs.getD i d) (ys.getD i d)) = (xs.zip ys).map fun p => f p.1 p.2 := by
    have l : (xs.zip ys).length = n := by rw [List.length_zip, hn]
    rw [← l]
    refine range_map fun i x hx => ?_
    rw [List.getElem?_zip_eq_some] at hx
    rw [List.getD_eq_getElem?_getD, List.getD_eq_getElem?_getD, hx.1, hx.2]
    rfl
  rw [e, List.all_map]
  rfl
theorem tail_map {xs : List Str} : (xs.map V.str).drop 1 = xs.tail.map V.str := by
  cases xs <;> rfl
/-- things[1:] -/
theorem cut1 {xs : List V} : cutV xs (some 1) none = xs.drop 1 := by
  unfold cutV
  have h1 : HT.sIx xs.length 0 (some (1 : Int)) = min 1 xs.length := HT.sIx_nat _ _ 1
  rw [HT.sIx_none, h1]
  cases xs with
  | nil => rfl
  | cons x r =>
    have : min 1 (x :: r).length = 1 := by
      rw [List.length_cons]
      omega
    rw [this]
    show List.take ((x :: r).length - 1) r = r
    rw [List.length_cons, Nat.add_sub_cancel, List.take_length]
/-- the strings of data -/
def strD : PyData → Str
  | .str x => x
  | _ => ""
/-- a tuple of names in order, at most so many -/
def namesD (m : Int) : PyData → Bool
  | .tuple ds => decide ((ds.length : Int) ≤ m) && (ds.all nameD && risingS (ds.map strD))
  | _ => false
/-- a pair of a name and a part -/
def pairD (part : PyData → Bool) : PyData → Bool
  | .tuple [a, b] => nameD a && part b
  | _ => false
def fstD : PyData → PyData
  | .tuple (a :: _) => a
  | _ => .none
/-- named parts in order -/
def namedD (m : Int) (part : PyData → Bool) : PyData → Bool
  | .tuple ds => decide ((ds.length : Int) ≤ m) && (ds.all (pairD part) && risingS (ds.map fun d => strD (fstD d)))
  | _ => false
theorem pairD_of {part : PyData → Bool} {d : PyData} (h : pairD part d = true) : ∃ x b, d = .tuple [.str x, b] ∧ nameS x = true ∧ part b = true := by
  cases d with
  | tuple ds =>
    match ds, h with
    | [a, b], h =>
      obtain ⟨h1, h2⟩ := He.ba (show (nameD a && part b) = true from h)
      cases a <;> first | (cases h1; done) | exact ⟨_, _, rfl, h1, h2⟩
    | [], h => cases h
    | [_], h => cases h
    | _ :: _ :: _ :: _, h => cases h
  | _ => cases h
theorem nameD_of {d : PyData} (h : nameD d = true) : ∃ x, d = .str x ∧ nameS x = true := by
  cases d <;> first | (cases h; done) | exact ⟨_, rfl, h⟩
/-- items of a row -/
def areD (n m : Int) : PyData → Bool
  | .tuple ds => decide ((ds.length : Int) ≤ m) && ds.all (fromD 0 (n - 1))
  | _ => false
theorem isI_int {d : PyData} (h : (intB d && !boolB d) = true) : ∃ i, d = .int i := by
  cases d <;> first | exact ⟨_, rfl⟩ | (cases h; done)
theorem from_false {lo hi : Int} {d : PyData} (h : (intB d && !boolB d) = false) : fromD lo hi d = false := by
  cases d <;> first | rfl | (cases h; done)
theorem from_true {lo hi : Int} {d : PyData} (h : fromD lo hi d = true) : ∃ i, d = .int i ∧ lo ≤ i ∧ i ≤ hi := by
  cases d <;> first | (cases h; done) | skip
  rename_i i
  obtain ⟨h1, h2⟩ := Bool.and_eq_true_iff.mp h
  exact ⟨i, rfl, of_decide_eq_true h1, of_decide_eq_true h2⟩
theorem all_len {H : Hp} : ∀ {xs : List V} {ds : List PyData}, DqAll H xs ds → xs.length = ds.length
  | _, _, .nil => rfl
  | _, _, .cons _ t => congrArg Nat.succ (all_len t)
theorem all_at {H : Hp} : ∀ {xs : List V} {ds : List PyData}, DqAll H xs ds → ∀ {i : Nat} {x : V}, xs[i]? = some x → ∃ d, ds[i]? = some d ∧ Dq H x d
  | _, _, .nil, i, x, h => by simp at h
  | _, _, .cons h t, 0, x, e => by
    cases e
    exact ⟨_, rfl, h⟩
  | _, _, .cons _ t, i + 1, x, e => all_at t (i := i) e
/-- strings on the heap are themselves -/
theorem strs_of {H : Hp} : ∀ {xs : List V} {ds : List PyData}, DqAll H xs ds → ds.all strB = true → xs = (ds.map strD).map V.str
  | _, _, .nil, _ => rfl
  | _, _, .cons h t, a => by
    rw [List.all_cons] at a
    obtain ⟨a1, a2⟩ := He.ba a
    obtain ⟨x, rfl⟩ := strB_of a1
    cases h
    rw [strs_of t a2]
    rfl
end L2.TP

/-! Layer 2: raising an error whose last fields come from defaults; bindings where all is given. -/
namespace L2.TP
open PySem PySem.Spec PyProof.Rows
theorem binds_full {K : PySem.W.Frag} {fd : FuncData} {ps : List Str} {T : Addr} {o : Obj} {its : List Value} {n : Nat} {dvs : List V} (lT : K.lookup T = some o) (oT : o.data = .seq its.toArray n) (hv : Vals dvs its)
    (h : ∀ its : List Value, its.length = dvs.length → ∀ us : List Value, us.length = ps.length → ∃ k, bindArgs fd ⟨us, []⟩ = seqItems? (.ref T) >>= k ∧ k (some its.toArray) = pure (ps.zip us)) : Binds K fd ps [] :=
  binds_ks lT oT fun us hl => h its hv.length.symm us hl
section
variable {X : Cx} {C CT : Addr} {x f : Str} {fs : List Str} {np : Nat} {dvs : List V}
def tMkP (C : Addr) (fs : List Str) (np : Nat) (dvs : List V) (ta : TA) : L2.St → Hp → XK → Prop := fun σ H Q => ta σ H fun vs H1 => vs.length = np ∧ (vs ++ dvs).length = fs.length ∧ ∀ d, H1 d = none → Q (.ref C) (some d) (upd H1 d (.xd (fs.zip (vs ++ dvs))))
theorem pmk_errP {e : Expr} {es : List Expr} {ta : TA} {p pos : Pos} {k : Nat} (T : ErrP X.prog X.K X.mg x fs np dvs C) (bE : PySem.W.subIn X.K (.ref C) (.type "BaseException") = some true) (tC : PySem.W.typeIn X.K (.ref C) = some (.type "type")) (hnp : np ≤ 1000) (hr : Room k X.A) (ha : PA X (e :: es) ta) (hg : Gl X x := by rfl)
    (hdb : (x == ("__debug__" : Str)) = false := by decide)
    (he : starEach (e :: es) X.env = (false, eval e X.env) :: starEach es X.env := by rfl) (hpl : (backTo pos (starEach es X.env)).any (·.1) = false := by rfl) :
    PMk X (.Call (.Name x p) (e :: es) [] pos) (tMkP C fs np dvs ta) := by
  intro pins s σ H Q I h
  obtain ⟨fI, fd, its, TE, rd, hbind⟩ := T.ex
  refine wpAny_Call_Name_kw (ld_glob I hg T.gC ?_ hdb)
  refine PySem.W.callWith_K (h₀ := X.base) I.ok.mod.kin T.kC (thn (ha.run pos pins s σ H _ I h) fun us s1 hh => ?_) he hpl
  obtain ⟨vs, H1, I1, r1, hl, hl2, q1⟩ := hh
  refine ⟨I1.kIn, ?_⟩
  show wpAny _ _ (call (.ref C) us) _ _ _
  have hlim := I1.nolimit
  obtain ⟨mb, hmb, hbb⟩ := I1.mod.blt
  have hul : us.length = np := r1.length.symm.trans hl
  have hvl : (us ++ its).length = fs.length := (r1.append rd).length.symm.trans hl2
  have hgl := I1.mod.glob.keeps I1.bk
  have hbl := hmb.keeps I1.bk
  have kin := I1.kIn
  obtain ⟨hp, g, dr, tk, os⟩ := s1
  refine wpAny_call (PySem.TPX.err_made (us := us) (vs := us ++ its) TE hvl (by rw [hul]; exact Nat.le_trans hnp (by decide)) kin hlim hgl hbl hbb (by have := hr.dp; omega) (fun s' x' kk => hbind s' x' us kk hul) fun h' tk' e d M => ?_)
  show MkP X pins σ Q (.ref e) ⟨h', g, dr, tk', os⟩
  obtain ⟨oe, fv, hoe, hc, hd, hdat, h1, _, _⟩ := M.obj
  obtain ⟨mA, hns, hmA⟩ := M.ns
  obtain ⟨G', g1, g2⟩ := restrict h' fun b => decide (b ≠ e)
  have gk : ∀ b, b ≠ e → G'.get? b = h'.get? b := fun b hb => g1 b (decide_eq_true hb)
  have ge : G'.get? e = none := g2 e (by simp)
  have old : ∀ b o, hp.get? b = some o → G'.get? b = some o := fun b o q => (gk b (Nat.ne_of_lt (Nat.lt_of_lt_of_le (Heap.lt_size q) M.new))).trans (M.keep b o q)
  have ob : ObjOk X.prog X.w (upd H1 d (.xd (fs.zip (vs ++ dvs)))) G' d (.xd (fs.zip (vs ++ dvs))) :=
    ⟨mA, hns.at (fun o q => (gk d M.dne).trans q), fun f => by rw [hmA f]; exact relO_zip (r1.append rd) f⟩
  have J : Inv X pins σ (upd H1 d (.xd (fs.zip (vs ++ dvs)))) ⟨G', g, dr, tk', os⟩ := I1.laid (t' := tk') old M.dbig ob
  refine ⟨e, oe, fv, ⟨G', g, dr, tk', os⟩, _, .ref C, some d, rfl, J, fun b o q => ?_, ge, hoe, ⟨hc, hd⟩, hdat, h1, ?_, rfl, I1.bare, raises_own bE tC, q1 d (I1.hok.fresh M.dbig)⟩
  · by_cases hb : b = e
    · have q' : G'.get? b = some o := q
      rw [hb, ge] at q'
      cases q'
    · exact (gk b hb).symm.trans q
  · rw [upd_ne (Ne.symm M.dne)]
    exact I1.hok.fresh M.new
/-- raise x(e, ..) -/
theorem ps_raiseP {e : Expr} {es : List Expr} {ta : TA} {W : WX} {p pos pos2 : Pos} {k : Nat} (hc : X.calm = true) (tk : Takes X W) (T : ErrV X.prog X.K X.mg x f fs dvs CT C) (hnp : 1 ≤ 1000) (hr : Room k X.A) (ha : PA X (e :: es) ta)
    (hg : Gl X x := by rfl) (hdb : (x == ("__debug__" : Str)) = false := by decide)
    (he : starEach (e :: es) X.env = (false, eval e X.env) :: starEach es X.env := by rfl) (hpl : (backTo pos (starEach es X.env)).any (·.1) = false := by rfl) :
    PS X (.Raise (some (.Call (.Name x p) (e :: es) [] pos)) none pos2) (fun _ σ H => tMkP C fs 1 dvs ta σ H fun cls d H' => W cls d σ H') := ps_raise hc tk (pmk_errP T.ep T.ex.hs T.tC hnp hr ha hg hdb he hpl)
end
end L2.TP

/-! Layer 3: g(a, b, lambda ..). -/
namespace L2.TP
open PySem PySem.Spec PyProof.Rows LamX NdefX
theorem pe_callL3 {X : Cx} {T : List (Addr × Str)} {fr : List Str} {js : List Nat} {c P : Addr} {k : Nat} {f : Addr} {fd : FuncData} {ps : List Str} {sp : Sp} {x : Str} {p pos lpos : Pos} {e1 e2 : Expr} {te1 te2 : TE} {params : Arguments} {body : Expr} {scope : Scope}
    (TB : TabB X.base X.mg c P) (hcode : X.env.code = .ref c) (hex : X.ex = []) (hm : (P, X.env.qual ++ "<lambda>") ∈ T) (hu : ∀ p ∈ T, p.1 = P → p.2 = X.env.qual ++ "<lambda>") (hfn : ∀ y, X.fn y = true)
    (F : FnOk X.prog X.w X.K X.mg X.base C8.CX0 k f fd ps sp) (hr : Room k X.A) (hg : Gl X x) (hmg : X.mg x = some (.ref f)) (hk : PySem.W.keepIn X.K (.ref f) = true) (hb : Binds X.K fd ps []) (h1 : PE X e1 te1) (h2 : PE X e2 te2)
    (hB : ndefB X.env.scope scope fr = true) (hjs : js.map (fun j => X.N[j]?) = fr.map some) (hdef : defaultsOf params X.env = ([], [])) (hdb : (x == ("__debug__" : Str)) = false := by decide)
    (hs1 : starEach [e1, e2, .Lambda params body scope lpos] X.env = (false, eval e1 X.env) :: starEach [e2, .Lambda params body scope lpos] X.env := by rfl) (hs2 : starEach [e2, .Lambda params body scope lpos] X.env = (false, eval e2 X.env) :: starEach [.Lambda params body scope lpos] X.env := by rfl)
    (hpl : (backTo pos (starEach [e2, .Lambda params body scope lpos] X.env)).any (·.1) = false := by rfl) :
    PE X (.Call (.Name x p) [e1, e2, .Lambda params body scope lpos] [] pos) (tCallC (cloFrom X.env.cells scope.names []) fr js sp (tCons te1 (tCons te2 (tLamA T fun c' => ⟨X.env.qual ++ "<lambda>", params, body, scope, cloFrom X.env.cells scope.names [], c'⟩)))) :=
  pe_callC (fun ok => Caps.made ok (ndef_free hB) (ndef_fr hB) hjs) hfn F hr hg hmg hk hb (pa_cons h1 (pa_cons h2 (pa_lam TB hcode hex hm hu hdef (ndef_free hB)) hs2) hs1) hdb hs1 hpl
/-- all but the tables and what stands at r -/
def ExtNB (r : Addr) (H H' : Hp) : Prop := ∀ a o, a ≠ r → H a = some o → (∀ ps, o ≠ .tbl ps) → H' a = some o
theorem ExtNB.of {r : Addr} {H H' : Hp} (h : ExtN H H') : ExtNB r H H' := fun a o _ e n => h a o e n
theorem ExtNB.trans {r : Addr} {H H' H2 : Hp} (h : ExtNB r H H') (h2 : ExtNB r H' H2) : ExtNB r H H2 := fun a o n e t => h2 a o n (h a o n e t) t
theorem extNB_upd {r : Addr} {H : Hp} {o : HO} : ExtNB r H (upd H r o) := fun a o' n e _ => by rw [upd_ne n]; exact e
/-- the tables stay where an instance is written -/
theorem tabs_ins {T : List (Addr × Str)} {H : Hp} {r C dx : Addr} {fs : List (Str × V)} {o : HO} (t : Tabs T H) (h : H r = some (.ins C dx fs)) : Tabs T (upd H r o) := fun p hp => by
  obtain ⟨ps, a1, a2, a3⟩ := t p hp
  have ne : ∀ {b : Addr} {u : HO}, H b = some u → (∀ C dx fs, u ≠ .ins C dx fs) → upd H r o b = some u := fun {b u} hb no => by
    have nb : b ≠ r := fun z => by
      rw [z, h] at hb
      injection hb with hb
      exact no _ _ _ hb.symm
    rw [upd_ne nb]
    exact hb
  refine ⟨ps, ne a1 (fun _ _ _ z => by cases z), a2, fun pos cv hc => ?_⟩
  obtain ⟨c, e1, e2⟩ := a3 pos cv hc
  exact ⟨c, e1, ne e2 (fun _ _ _ z => by unfold CodeO at z; cases z)⟩
/-- the tables when cells come and go -/
theorem tabs_plus {T : List (Addr × Str)} {H : Hp} {cs : Cels} (t : Tabs T H) (fr : ∀ c o, cs c = some o → H c = none) : Tabs T (plusH H cs) := t.ext (ext_plusH fr)
theorem tabs_less {T : List (Addr × Str)} {H H2 : Hp} {cs : Cels} (t : Tabs T H) (fr : ∀ c o, cs c = some o → H c = none) (e : Ext (plusH H cs) H2) : Tabs T (lessH H2 cs) := t.ext (ext_less fr e)
end L2.TP

/-! Layer 4: a tuple taken once or not at all. -/
namespace L2.TP
open PySem PySem.Spec PyProof.Rows
theorem tupMul_one (l : Addr) (items : Array Value) (n : Nat) (dd : Option Addr) (sl : Array (Option Value)) (u : Tok) :
    Meets (Builtin.«tuple.__mul__» ⟨[.ref l, .int 1 u], []⟩) (fun _ R s => s.heap.get? l = some { cls := .type "tuple", dict := dd, data := .seq items n, slots := sl } ∧ R (.ok (.ret (.ref l))) s) := by
  refine .of_wp fun prog w A R s h => ?_
  obtain ⟨hp, g, d, tk, os⟩ := s
  obtain ⟨hl, h⟩ := h
  have f1 := AutoSeq1.idx_int
  have e1 : (items.isEmpty || (1 : Int) == 1) = true := by simp
  wp_walk using wpAny_loadPart' hl
  exact ⟨_, rfl, h⟩
theorem tupMul_none (l : Addr) (items : Array Value) (n : Nat) (dd : Option Addr) (sl : Array (Option Value)) (u : Tok) (ne : items.isEmpty = false) :
    Meets (Builtin.«tuple.__mul__» ⟨[.ref l, .int 0 u], []⟩) (fun _ R s => s.heap.get? l = some { cls := .type "tuple", dict := dd, data := .seq items n, slots := sl } ∧
      R (.ok (.ret (Value.ref s.heap.objs.size))) { s with heap := s.heap.push { cls := Value.type "tuple", data := Data.seq #[] }, toks := s.toks }) := by
  refine .of_wp fun prog w A R s h => ?_
  obtain ⟨hp, g, d, tk, os⟩ := s
  obtain ⟨hl, h⟩ := h
  have f1 := AutoSeq1.idx_int
  have e1 : ¬ (items.isEmpty || (0 : Int) == 1) = true := by rw [ne]; decide
  wp_walk using wpAny_loadPart' hl
  exact ⟨_, rfl, h⟩
/-- t * k, k 0 or 1 -/
def rRep01 (K : PySem.W.Frag) : R2 := fun x y H Q => ∃ l k xs, x = .ref l ∧ y = .int k ∧ SqT K H l xs ∧ xs ≠ [] ∧ ((k = 1 ∧ Q (.ref l) H) ∨ (k = 0 ∧ ∀ p, H p = none → Q (.ref p) (upd H p (.tup []))))
theorem op_rep01 {X : Cx} : OpR X (binaryOp .Mult) (rRep01 X.K) := by
  intro pins s σ H x y v u Q I rx ry h
  obtain ⟨l, k, xs, rfl, rfl, hT, some_, h⟩ := h
  obtain ⟨tk, rfl⟩ := ry
  cases rx
  obtain ⟨its, rel, ⟨⟨cl, dd, dat, sl⟩, at_, ec, n, ed⟩, _⟩ := I.tuple hT
  dsimp only at ec ed
  subst ec ed
  have full : its.toArray.isEmpty = false := by
    cases rel with
    | nil => exact absurd rfl some_
    | cons _ _ => rfl
  have ty : s.TypeIs (.ref l) "tuple" := ⟨_, at_, rfl⟩
  rcases h with ⟨rfl, q⟩ | ⟨rfl, q⟩
  · refine wpAny_binaryOp_repeat_ref (T := "tuple") (U := "int") (by decide) ty (fun z => typeIs_int z 1 tk) noFill_tuple_mul F.fills_int_mul F.slot_int_rmul repeat_tuple F.slot_int_index.lookup ?_
    refine call_meets F.slot_int_rmul (typeIs_int s 1 tk) F.entry_int_rmul (F.args_int_rmul_2 _ _) (int_rmul_tuple 1 tk l its.toArray n dd sl) ⟨at_, rfl, ty, ?_⟩
    exact call_meets F.slot_tuple_mul ty F.entry_tuple_mul (F.args_tuple_mul_2 _ _) (tupMul_one l its.toArray n dd sl tk) ⟨at_, .ref l, H, I, rfl, q⟩
  · refine wpAny_binaryOp_repeat_ref (T := "tuple") (U := "int") (by decide) ty (fun z => typeIs_int z 0 tk) noFill_tuple_mul F.fills_int_mul F.slot_int_rmul repeat_tuple F.slot_int_index.lookup ?_
    refine call_meets F.slot_int_rmul (typeIs_int s 0 tk) F.entry_int_rmul (F.args_int_rmul_2 _ _) (int_rmul_tuple 0 tk l its.toArray n dd sl) ⟨at_, rfl, ty, ?_⟩
    refine call_meets F.slot_tuple_mul ty F.entry_tuple_mul (F.args_tuple_mul_2 _ _) (tupMul_none l its.toArray n dd sl tk full) ⟨at_, .ref s.heap.objs.size, _, I.laid (t' := s.toks) (o := .tup []) (fun b ob z => Heap.get?_push_of_some _ z) (Nat.le_refl _) ?_, rfl, q _ (I.hok.fresh (Nat.le_refl _))⟩
    exact ⟨Nat.zero_le _, [], .nil, IsTup.new _ _⟩
end L2.TP

/-! Layer 5: comprehensions that draw from the pot. -/
namespace L2.TP
open PySem PySem.Spec PyProof.Rows
theorem butP_ne {G : Hp} {D b : Addr} (h : b ≠ D) : butP G D b = G b := if_neg h
theorem butP_eq {G : Hp} {D : Addr} : butP G D D = none := if_pos rfl
theorem upd_butP {G : Hp} {D : Addr} {o o' : HO} (h : G D = some o) : upd (butP G D) D o = G := by
  funext b
  by_cases z : b = D
  · rw [z, upd_same, h]
  · rw [upd_ne z, butP_ne z]
theorem butP_upd {G : Hp} {D : Addr} {o : HO} : butP (upd G D o) D = butP G D := by
  funext b
  by_cases z : b = D
  · rw [z, butP_eq, butP_eq]
  · rw [butP_ne z, butP_ne z, upd_ne z]
theorem butP_mono {G G' : Hp} {D : Addr} (e : Ext G G') : Ext (butP G D) (butP G' D) := fun b o h => by
  by_cases z : b = D
  · rw [z, butP_eq] at h
    cases h
  · rw [butP_ne z] at h ⊢
    exact e _ _ h
theorem ext_butP {G0 G : Hp} {D : Addr} (e : Ext G0 G) (n : G0 D = none) : Ext G0 (butP G D) := fun b o h => by
  have z : b ≠ D := fun z => by rw [z, n] at h; cases h
  rw [butP_ne z]
  exact e _ _ h
/-- [te for g in it], each item draws: c draws at most -/
theorem lc_pot {J : It} {n : Nat} {Gd : Hp → Prop} {Y : Nat → Hp → V → Hp → Prop} (w : Walk J n Gd Y) {g : TG} {te : TE} {vs : List Nat} {σ : L2.St} {H1 G0 : Hp} {D p : Addr} {k c : Nat} {Qd : Hp → Prop}
    (R : Nat → V → Hp → Prop) (hD : H1 D = none) (hn : n ≤ 1000) (w0 : WP G0 p k H1) (hg : ∀ G H, Ext G0 G → Ext G H → Gd H) (hR : ∀ i y G G', Ext G G' → R i y G → R i y G')
    (hB : ∀ i y G acc, G D = some (.lst acc) → R i y G → R i y (butP G D))
    (hs : ∀ i x H H' acc G (Q : VK), i < n → Ext G0 G → WP G p (k + c * i) H → G D = some (.lst acc) → Y i H x H' → (∀ y G' H4, Ext G G' → WP G' p (k + c * (i + 1)) H4 → R i y G' → Q y H4) →
      g x (wipe σ vs) H' fun σ2 H2 => wipe σ2 vs = wipe σ vs ∧ te σ2 H2 Q)
    (hd : ∀ ys G H, Ext G0 (butP G D) → Ext (butP G D) G → WP G p (k + c * n) H → G D = some (.lst ys) → ys.length = n → (∀ i y, ys[i]? = some y → R i y (butP G D)) → Qd H) :
    ∃ W : Nat → Nat → Hp → Prop, (∃ m, W 0 m (upd H1 D (.lst []))) ∧ ∀ i m H, W i m H →
      (J.stop i H ∧ Qd H) ∨ (J.go i H ∧ ∃ Nx : Hp → Prop, (∀ H', Nx H' → ∃ m', m' < m ∧ W (i + 1) m' H') ∧ ∀ x H', J.yld i H x H' → g x (wipe σ vs) H' fun σ2 H2 => wipe σ2 vs = wipe σ vs ∧ tYes σ2 H2 fun b H3 =>
        if b = true then te σ2 H3 fun y H4 => ∃ acc, H4 D = some (.lst acc) ∧ acc.length < sizeLine ∧ Nx (upd H4 D (.lst (acc ++ [y]))) else Nx H3) := by
  have g0 := ext_none w0.ext hD
  refine lc_it w (fun i H => ∃ G ys, Ext G0 G ∧ WP G p (k + c * i) H ∧ G D = some (.lst ys) ∧ ys.length = i ∧ ∀ j y, ys[j]? = some y → R j y (butP G D)) ⟨_, [], ext_upd g0, w0.new hD, upd_same, rfl, fun j y e => by simp at e⟩ (fun i H _ ⟨G, ys, x, wi, _⟩ => hg G H x wi.ext) (fun i x H H' hi h y => ?_) (fun H h => ?_)
  · obtain ⟨G, ys, x0, wi, hGD, hl, hr⟩ := h
    refine hs i x H H' ys G _ hi x0 wi hGD y fun z G' H4 x4 w4 r4 => ?_
    have d4 := x4 _ _ hGD
    refine ⟨ys, w4.ext _ _ d4, by rw [hl]; exact Nat.lt_of_lt_of_le hi (Nat.le_trans hn (by decide)), upd G' D (.lst (ys ++ [z])), ys ++ [z], fun b o hb => ?_, ?_, upd_same, by rw [List.length_append]; exact congrArg Nat.succ hl, fun j u e => ?_⟩
    · have ne : b ≠ D := fun q => by rw [q, g0] at hb; cases hb
      rw [upd_ne ne]
      exact x4 _ _ (x0 _ _ hb)
    · have e1 : upd (butP G' D) D (.lst ys) = G' := upd_butP (o' := .lst ys) d4
      have w5 : WP (upd (butP G' D) D (.lst ys)) p (k + c * (i + 1)) H4 := by rw [e1]; exact w4
      have w6 := WP.over (o' := .lst (ys ++ [z])) w5 butP_eq
      have e2 : upd (butP G' D) D (.lst (ys ++ [z])) = upd G' D (.lst (ys ++ [z])) := by
        funext b
        by_cases q : b = D
        · rw [q, upd_same, upd_same]
        · rw [upd_ne q, upd_ne q, butP_ne q]
      rw [e2] at w6
      exact w6
    · rw [butP_upd]
      by_cases q : j < ys.length
      · rw [List.getElem?_append_left q] at e
        exact hR _ _ _ _ (butP_mono x4) (hr j u e)
      · rw [List.getElem?_append_right (by omega)] at e
        have e0 : j - ys.length = 0 := by
          cases q2 : j - ys.length with
          | zero => rfl
          | succ m =>
            rw [q2] at e
            simp at e
        rw [e0] at e
        cases e
        have : j = i := by omega
        subst this
        exact hB _ _ _ _ d4 r4
  · obtain ⟨G, ys, x0, wi, hGD, hl, hr⟩ := h
    exact hd ys G H (ext_butP x0 g0) butP_ext wi hGD hl hr
/-- xs[:r] -/
theorem cutTo {xs : List V} {r : Int} (h : 0 ≤ r) : cutV xs none (some r) = xs.take r.toNat := by
  obtain ⟨n, rfl⟩ : ∃ n : Nat, r = (n : Int) := ⟨r.toNat, by omega⟩
  unfold cutV
  rw [HT.sIx_none, HT.sIx_nat, Nat.sub_zero, List.drop_zero, Int.toNat_natCast]
  by_cases c : n ≤ xs.length
  · rw [Nat.min_eq_left c]
  · rw [Nat.min_eq_right (by omega), List.take_length, List.take_of_length_le (by omega)]
/-- xs[2:] -/
theorem cutFrom {xs : List V} {k : Nat} : cutV xs (some (k : Int)) none = xs.drop k := by
  unfold cutV
  rw [HT.sIx_none, HT.sIx_nat]
  by_cases c : k ≤ xs.length
  · rw [Nat.min_eq_left c, List.take_of_length_le (by rw [List.length_drop]; omega)]
  · rw [Nat.min_eq_right (by omega), List.drop_of_length_le (Nat.le_refl _), List.drop_of_length_le (by omega), List.take_nil]
end L2.TP

/-! Layer 6: lists of data that grow; comprehensions of data; two sources. -/
namespace L2.TP
open PySem PySem.Spec PyProof.Rows
theorem butP_sub {H : Hp} {l : Addr} : Ext (butP H l) H := fun b o h => by
  by_cases z : b = l
  · rw [z, butP_eq] at h
    cases h
  · rw [butP_ne z] at h
    exact h
theorem butP_swap {H : Hp} {a b : Addr} : butP (butP H a) b = butP (butP H b) a := by
  funext c
  unfold butP
  split <;> split <;> rfl
theorem butP_none {H : Hp} {l : Addr} (h : H l = none) : butP H l = H := by
  funext c
  by_cases z : c = l
  · rw [z, butP_eq, h]
  · rw [butP_ne z]
theorem butP_at {H : Hp} {l t : Addr} {o o' : HO} (h : H l = some o) (e : H t = some o') (ne : o ≠ o') : butP H l t = some o' := by
  have z : t ≠ l := fun z => by rw [z, h] at e; cases e; exact ne rfl
  rw [butP_ne z]
  exact e
/-- a list of data that grows, beside what stood in H0 -/
def Lst (H0 : Hp) (l : Addr) (H : Hp) (ds : List PyData) : Prop := H0 l = none ∧ Ext H0 H ∧ ∃ xs, H l = some (.lst xs) ∧ DqAll (butP H l) xs ds
section
variable {H0 H H' : Hp} {l : Addr} {ds es : List PyData} {xs : List V}
theorem Lst.new (h : H0 l = none) : Lst H0 l (upd H0 l (.lst [])) [] := ⟨h, ext_upd h, [], upd_same, .nil⟩
theorem Lst.start (h : H0 l = none) (hx : DqAll H0 xs ds) : Lst H0 l (upd H0 l (.lst xs)) ds := ⟨h, ext_upd h, xs, upd_same, by rw [butP_upd, butP_none h]; exact hx⟩
theorem Lst.at_ (h : Lst H0 l H ds) : ∃ xs, H l = some (.lst xs) ∧ xs.length = ds.length := by
  obtain ⟨_, _, xs, h2, h3⟩ := h
  exact ⟨xs, h2, all_len h3⟩
theorem Lst.ext (h : Lst H0 l H ds) (e : Ext H H') : Lst H0 l H' ds := by
  obtain ⟨h0, h1, xs, h2, h3⟩ := h
  exact ⟨h0, h1.trans e, xs, e _ _ h2, h3.ext (butP_mono e)⟩
theorem Lst.base (h : Lst H0 l H ds) : Ext H0 (butP H l) := ext_butP h.2.1 h.1
theorem Lst.more (h : Lst H0 l H ds) (hx : H l = some (.lst xs)) {zs : List V} (hz : DqAll (butP H l) zs es) : Lst H0 l (upd H l (.lst (xs ++ zs))) (ds ++ es) := by
  obtain ⟨h0, h1, ys, h2, h3⟩ := h
  rw [hx] at h2
  cases h2
  exact ⟨h0, ext_over h1 h0, _, upd_same, by rw [butP_upd]; exact dqAll_app h3 hz⟩
theorem Lst.push (h : Lst H0 l H ds) (hx : H l = some (.lst xs)) {y : V} {d : PyData} (hy : Dq (butP H l) y d) : Lst H0 l (upd H l (.lst (xs ++ [y]))) (ds ++ [d]) := h.more hx (.cons hy .nil)
theorem Lst.dq (h : Lst H0 l H ds) : Dq H (.ref l) (.list ds) := by
  obtain ⟨_, _, xs, h2, h3⟩ := h
  exact .lst h2 (h3.ext butP_sub)
theorem Lst.len (h : Lst H0 l H ds) (hx : H l = some (.lst xs)) : xs.length = ds.length := by
  obtain ⟨_, _, ys, h2, h3⟩ := h
  rw [hx] at h2
  cases h2
  exact all_len h3
end
theorem dqAll_of' {H : Hp} : ∀ {ys : List V} {ds : List PyData}, ys.length = ds.length → (∀ (i : Nat) (y : V) (d : PyData), ys[i]? = some y → ds[i]? = some d → Dq H y d) → DqAll H ys ds
  | [], [], _, _ => .nil
  | y :: ys, d :: ds, h, k => .cons (k 0 y d rfl rfl) (dqAll_of' (Nat.succ.inj h) fun i z e h1 h2 => k (i + 1) z e h1 h2)
/-- [te for g in it], the items are data; f: what the data may not lean on -/
theorem lc_dq {J : It} {n : Nat} {G : Hp → Prop} {Y : Nat → Hp → V → Hp → Prop} (w : Walk J n G Y) {g : TG} {te : TE} {vs : List Nat} {σ : L2.St} {H1 : Hp} {D : Addr} {Qd : Hp → Prop}
    (f : Hp → Hp) (fm : ∀ H H', Ext H H' → Ext (f H) (f H')) (ds : Nat → PyData) (hD : H1 D = none) (hn : n ≤ 100000) (g1 : G H1) (hg : ∀ H H', Ext H H' → G H → G H')
    (hs : ∀ i x H H' acc (Q : VK), i < n → Ext H1 H → H D = some (.lst acc) → G H → Y i H x H' → (∀ y H4, Ext H H4 → Dq (f (butP H4 D)) y (ds i) → Q y H4) →
      g x (wipe σ vs) H' fun σ2 H2 => wipe σ2 vs = wipe σ vs ∧ te σ2 H2 Q)
    (hd : ∀ ys H, Ext H1 H → H D = some (.lst ys) → DqAll (f (butP H D)) ys ((List.range n).map ds) → Qd H) :
    ∃ W : Nat → Nat → Hp → Prop, (∃ m, W 0 m (upd H1 D (.lst []))) ∧ ∀ i m H, W i m H →
      (J.stop i H ∧ Qd H) ∨ (J.go i H ∧ ∃ Nx : Hp → Prop, (∀ H', Nx H' → ∃ m', m' < m ∧ W (i + 1) m' H') ∧ ∀ x H', J.yld i H x H' → g x (wipe σ vs) H' fun σ2 H2 => wipe σ2 vs = wipe σ vs ∧ tYes σ2 H2 fun b H3 =>
        if b = true then te σ2 H3 fun y H4 => ∃ acc, H4 D = some (.lst acc) ∧ acc.length < sizeLine ∧ Nx (upd H4 D (.lst (acc ++ [y]))) else Nx H3) := by
  refine lc_ext w (fun i y H => Dq (f (butP H D)) y (ds i)) hD hn g1 hg (fun i y H H' e h => h.ext (fm _ _ (butP_mono e))) (fun i y H acc acc' _ h => by rw [butP_upd]; exact h)
    (fun i x H H' acc Q hi x1 hl hd' gH y k => hs i x H H' acc Q hi x1 hd' gH y k) (fun ys H x1 e hl hr => hd ys H x1 e ?_)
  refine dqAll_of' (by rw [List.length_map, List.length_range, hl]) fun i y d h1 h2 => ?_
  have lt : i < n := by
    have := (List.getElem?_eq_some_iff.mp h1).1
    omega
  rw [List.getElem?_map, List.getElem?_range lt] at h2
  cases h2
  exact hr i y h1
/-- [te for g in it for g1 in it1] -/
def blk (c : Nat → Nat) (ds : Nat → Nat → PyData) (i : Nat) : List PyData := (List.range i).flatMap fun i => (List.range (c i)).map (ds i)
theorem blk_succ {c : Nat → Nat} {ds : Nat → Nat → PyData} {i : Nat} : blk c ds (i + 1) = blk c ds i ++ (List.range (c i)).map (ds i) := by
  unfold blk
  rw [List.range_succ, List.flatMap_append, List.flatMap_cons, List.flatMap_nil, List.append_nil]
theorem lc2_dq {J : It} {n : Nat} {G : Hp → Prop} {Y : Nat → Hp → V → Hp → Prop} (w : Walk J n G Y) {g g1 : TG} {wi1 : TI} {te : TE} {vs vs1 : List Nat} {σ : L2.St} {H1 : Hp} {D : Addr} {Qd : Hp → Prop}
    (c : Nat → Nat) (ds : Nat → Nat → PyData) (hD : H1 D = none) (hn : ∀ i, i ≤ n → (blk c ds i).length ≤ 100000) (gG : ∀ H, Ext H1 H → G H)
    (hs : ∀ i x H H' acc (Qi : L2.St → It → Hp → Prop), i < n → Ext H1 H → H D = some (.lst acc) → Y i H x H' →
      (∀ σ2 J1 H4 (G1 : Hp → Prop) (Y1 : Nat → Hp → V → Hp → Prop), Ext H H4 → Walk J1 (c i) G1 Y1 → (∀ H, Ext H1 H → G1 H) →
        (∀ j x H H' acc (Q : VK), j < c i → Ext H1 H → H D = some (.lst acc) → Y1 j H x H' → (∀ y H5, Ext H H5 → Dq (butP H5 D) y (ds i j) → Q y H5) → g1 x (wipe σ2 vs1) H' fun σ3 H6 => wipe σ3 vs1 = wipe σ2 vs1 ∧ te σ3 H6 Q) → Qi σ2 J1 H4) →
      g x (wipe σ vs) H' fun σ2 H2 => wipe σ2 vs = wipe σ vs ∧ wi1 σ2 H2 (Qi σ2))
    (hd : ∀ ys H, Ext H1 H → H D = some (.lst ys) → DqAll (butP H D) ys (blk c ds n) → Qd H) :
    ∃ W : Nat → Nat → Hp → Prop, (∃ m, W 0 m (upd H1 D (.lst []))) ∧ ∀ i m H, W i m H →
  (J.stop i H ∧ Qd H) ∨ (J.go i H ∧ ∃ Nx : Hp → Prop, (∀ H', Nx H' → ∃ m', m' < m ∧ W (i + 1) m' H') ∧ ∀ x H', J.yld i H x H' → g x (wipe σ vs) H' fun σ2 H2 => wipe σ2 vs = wipe σ vs ∧ tYes σ2 H2 fun b H3 =>
    if b = true then wi1 σ2 H3 fun J1 H4 => ∃ W1 : Nat → Nat → Hp → Prop, (∃ m, W1 0 m H4) ∧ ∀ j k H, W1 j k H →
      (J1.stop j H ∧ Nx H) ∨ (J1.go j H ∧ ∃ Nx1 : Hp → Prop, (∀ H', Nx1 H' → ∃ k', k' < k ∧ W1 (j + 1) k' H') ∧ ∀ x H', J1.yld j H x H' → g1 x (wipe σ2 vs1) H' fun σ3 H5 => wipe σ3 vs1 = wipe σ2 vs1 ∧ tYes σ3 H5 fun b H6 =>
        if b = true then te σ3 H6 fun y H7 => ∃ acc, H7 D = some (.lst acc) ∧ acc.length < sizeLine ∧ Nx1 (upd H7 D (.lst (acc ++ [y]))) else Nx1 H6)
    else Nx H3) := by
  refine ⟨fun i m H => m = n - i ∧ i ≤ n ∧ Lst H1 D H (blk c ds i), ⟨n, by simp, Nat.zero_le _, Lst.new hD⟩, ?_⟩
  rintro i m H ⟨rfl, hi, p⟩
  have q := gG H p.2.1
  by_cases hlt : i < n
  · refine .inr ⟨w.goes i H hlt q, fun H => Lst H1 D H (blk c ds (i + 1)), fun H' p' => ⟨n - (i + 1), by omega, rfl, hlt, p'⟩, fun x H' y => ?_⟩
    obtain ⟨acc0, hacc, _⟩ := p.2.2
    refine hs i x H H' acc0 _ hlt p.2.1 hacc (w.yields i H x H' hlt q y) fun σ2 J1 H4 G1 Y1 e4 w1 gG1 st => ?_
    refine ⟨fun j k H => k = c i - j ∧ j ≤ c i ∧ Lst H1 D H (blk c ds i ++ (List.range j).map (ds i)), ⟨c i, by simp, Nat.zero_le _, by rw [List.range_zero, List.map_nil, List.append_nil]; exact p.ext e4⟩, ?_⟩
    rintro j k H5 ⟨rfl, hj, p5⟩
    have q5 := gG1 H5 p5.2.1
    by_cases jl : j < c i
    · refine .inr ⟨w1.goes j H5 jl q5, fun H => Lst H1 D H (blk c ds i ++ (List.range (j + 1)).map (ds i)), fun H' p' => ⟨c i - (j + 1), by omega, rfl, jl, p'⟩, fun x6 H6 y6 => ?_⟩
      obtain ⟨acc, hacc5, _⟩ := p5.2.2
      refine st j x6 H5 H6 acc _ jl p5.2.1 hacc5 (w1.yields j H5 x6 H6 jl q5 y6) fun z H7 e7 dz => ?_
      have a7 := e7 _ _ hacc5
      have l5 := p5.len hacc5
      have b5 := hn (i + 1) hlt
      rw [blk_succ, List.length_append, List.length_map, List.length_range] at b5
      rw [List.length_append, List.length_map, List.length_range] at l5
      refine ⟨acc, a7, Nat.lt_of_lt_of_le (by show acc.length < 100000; omega) (by decide), ?_⟩
      rw [List.range_succ, List.map_append, ← List.append_assoc]
      exact (p5.ext e7).push a7 dz
    · have e : j = c i := by omega
      subst e
      exact .inl ⟨w1.stops H5 q5, by rw [blk_succ]; exact p5⟩
  · have e : i = n := by omega
    subst e
    obtain ⟨_, x1, ys, h2, h3⟩ := p
    exact .inl ⟨w.stops H q, hd ys H x1 h2 h3⟩
section
variable {X : Cx} {K : PySem.W.Frag}
theorem pa_starK {e : Expr} {te : TE} {es : List Expr} {t : TA} {p : Pos} (h : X.K = K) (ha : PE X e te) (hr : PA X es t) : PA X (.Starred e p :: es) (tStar K te t) := by
  subst h
  exact pa_star ha hr
theorem op_catAK (h : X.K = K) : OpR X (binaryOp .Add) (rCatA K) := by
  subst h
  exact op_catA
theorem pi_listK {tg e : Expr} {te : TE} (h : X.K = K) (he : PE X e te) : PI X tg e (iList K te) := by
  subst h
  exact pi_list he
end
end L2.TP

/-! Layer 7: a tuple taken k times, k at least one; list(range). -/
namespace L2.TP
open PySem PySem.Spec PyProof.Rows
def rRepA (K : PySem.W.Frag) : R2 := fun x y H Q => ∃ l k xs, x = .ref l ∧ y = .int k ∧ SqT K H l xs ∧ xs ≠ [] ∧ ((k = 1 ∧ Q (.ref l) H) ∨ (2 ≤ k ∧ k ≤ 1000 ∧ xs.length ≤ 1000 ∧ ∀ p, H p = none → Q (.ref p) (upd H p (.tup (List.replicate k.toNat xs).flatten))))
theorem op_repA {X : Cx} : OpR X (binaryOp .Mult) (rRepA X.K) := by
  intro pins s σ H x y v u Q I rx ry h
  obtain ⟨l, k, xs, ex, ey, hT, ne, h | h⟩ := h
  · exact op_rep01 pins s σ H x y v u Q I rx ry ⟨l, k, xs, ex, ey, hT, ne, .inl h⟩
  · exact op_repT pins s σ H x y v u Q I rx ry ⟨l, k, xs, ex, ey, hT, ne, h⟩
theorem rgV_ints (n : Int) : rgV 0 n = ((List.range n.toNat).map fun i : Nat => (i : Int)).map V.int := by
  unfold rgV
  rw [List.map_map, Int.sub_zero]
  exact List.map_congr_left fun i _ => congrArg V.int (Int.zero_add _)
theorem rgOk {n : Int} (h0 : 0 ≤ n) (h1 : n ≤ 1000) : RgOk 0 n := by
  unfold RgOk
  omega
/-- all but r stays -/
def ExtI (r : Addr) (H H' : Hp) : Prop := ∀ a o, a ≠ r → H a = some o → H' a = some o
theorem ExtI.of {r : Addr} {H H' : Hp} (h : Ext H H') : ExtI r H H' := fun a o _ e => h a o e
theorem ExtI.trans {r : Addr} {H H' H2 : Hp} (h : ExtI r H H') (h2 : ExtI r H' H2) : ExtI r H H2 := fun a o n e => h2 a o n (h a o n e)
theorem extI_upd {r : Addr} {H : Hp} {o : HO} : ExtI r H (upd H r o) := fun a o' n e => by rw [upd_ne n]; exact e
/-- what stood before a thing was made -/
theorem ExtI.made {r d : Addr} {H H' : Hp} {o1 o2 : HO} (hr : H r = none) (hd : H d = none) (h : ExtI r (upd (upd H d o1) r o2) H') : Ext H H' := fun a o e => by
  have n1 : a ≠ r := fun z => by rw [z, hr] at e; cases e
  have n2 : a ≠ d := fun z => by rw [z, hd] at e; cases e
  exact h a o n1 (by rw [upd_ne n1, upd_ne n2]; exact e)
/-! ### data without lists and dicts -/
mutual
def noL : PyData → Bool
  | .list _ => false
  | .dict _ => false
  | .tuple ds => noLs ds
  | _ => true
def noLs : List PyData → Bool
  | [] => true
  | d :: ds => noL d && noLs ds
end
section
variable {H : Hp} {l : Addr} {zs : List V} (hl : H l = some (.lst zs))
include hl
mutual
theorem Dq.noL : ∀ {v : V} {d : PyData}, Dq H v d → L2.TP.noL d = true → Dq (butP H l) v d
  | _, _, .non, _ => .non
  | _, _, .bl b, _ => .bl b
  | _, _, .int i, _ => .int i
  | _, _, .str x, _ => .str x
  | _, _, .lst _ _, h => by cases h
  | _, _, .tup e t, h => .tup (butP_at hl e (fun z => by cases z)) (DqAll.noL t h)
  | _, _, .dct _ _, h => by cases h
theorem DqAll.noL : ∀ {v : List V} {d : List PyData}, DqAll H v d → noLs d = true → DqAll (butP H l) v d
  | _, _, .nil, _ => .nil
  | _, _, .cons a b, h => .cons (Dq.noL a (He.ba h).1) (DqAll.noL b (He.ba h).2)
end
end
theorem noLs_map {α : Type} {f : α → PyData} : ∀ {xs : List α}, (∀ x ∈ xs, noL (f x) = true) → noLs (xs.map f) = true
  | [], _ => rfl
  | x :: xs, h => by
    show (noL (f x) && noLs (xs.map f)) = true
    rw [h x List.mem_cons_self, noLs_map fun y hy => h y (List.mem_cons_of_mem _ hy)]
    rfl
/-- a new list of such data beside the list l -/
theorem dq_list_but {H : Hp} {l b : Addr} {zs : List V} {ds : List PyData} (hl : H l = some (.lst zs)) (ne : b ≠ l) (h : Dq H (.ref b) (.list ds)) (n : noLs ds = true) : Dq (butP H l) (.ref b) (.list ds) := by
  cases h with
  | lst h t => exact .lst (by rw [butP_ne ne]; exact h) (DqAll.noL hl t n)
end L2.TP

/-! Layer 8: data without lists as the library's data; small data of many parts. -/
namespace L2.TP
open PySem PySem.Spec PyProof.Rows
section
variable {K : PySem.W.Frag} {H : Hp}
mutual
theorem Dq.dp : ∀ {v : V} {d : PyData}, Dq H v d → L2.TP.noL d = true → Dp K H v d
  | _, _, .non, _ => .non
  | _, _, .bl b, _ => .bl b
  | _, _, .int i, _ => .int i
  | _, _, .str x, _ => .str x
  | _, _, .lst _ _, h => by cases h
  | _, _, .tup e t, h => .tup (SqT.of e) (DqAll.dp t h)
  | _, _, .dct _ _, h => by cases h
theorem DqAll.dp : ∀ {v : List V} {d : List PyData}, DqAll H v d → noLs d = true → DpAll K H v d
  | _, _, .nil, _ => .nil
  | _, _, .cons a b, h => .cons (Dq.dp a (He.ba h).1) (DqAll.dp b (He.ba h).2)
end
end
theorem SdA.all {k w : Nat} : ∀ {ds : List PyData}, (∀ d ∈ ds, Sd k w d) → SdA k (ds.length * (w + 1)) ds
  | [], _ => SdA.nil
  | d :: ds, h => by
    have t := SdA.all (k := k) (w := w) (ds := ds) fun e he => h e (List.mem_cons_of_mem _ he)
    have c := SdA.cons (h d List.mem_cons_self) t
    rw [List.length_cons, Nat.succ_mul, Nat.add_comm]
    exact c
theorem SdA.app {k w w' : Nat} : ∀ {ds es : List PyData}, SdA k w ds → SdA k w' es → SdA k (w + w') (ds ++ es)
  | [], es, _, h => h.mono (Nat.le_refl _) (Nat.le_add_left _ _)
  | d :: ds, es, a, h => by
    have hd : Sd k d.weight d := ⟨Nat.le_trans (Nat.le_max_left _ _) a.dep, Nat.le_refl _, (He.ba a.short).1, (He.ba a.shw).1⟩
    have ht : SdA k (PyData.weightAll ds) ds := ⟨Nat.le_trans (Nat.le_max_right _ _) a.dep, Nat.le_refl _, (He.ba a.short).2, (He.ba a.shw).2⟩
    have c := SdA.cons hd (SdA.app ht h)
    have w1 : d.weight + 1 + PyData.weightAll ds ≤ w := a.wt
    exact c.mono (Nat.le_refl _) (by omega)
end L2.TP

/-! Layer 9: plain data (figures, names, tuples): its text tells it; == tells it. -/
namespace L2.TP
open PySem PySem.Spec PyProof.Rows
def letB (c : Nat) : Bool := decide (97 ≤ c) && decide (c ≤ 122)
mutual
def plB : PyData → Bool
  | .int i => decide (0 ≤ i) && decide (i < 10)
  | .str x => x.cps.toList.all letB
  | .tuple ds => plAll ds
  | _ => false
def plAll : List PyData → Bool
  | [] => true
  | d :: ds => plB d && plAll ds
end
theorem plAll_of : ∀ {ds : List PyData}, (∀ d ∈ ds, plB d = true) → plAll ds = true
  | [], _ => rfl
  | d :: ds, h => by
    show (plB d && plAll ds) = true
    rw [h d List.mem_cons_self, plAll_of fun e he => h e (List.mem_cons_of_mem _ he)]
    rfl
theorem sign_let {c : Nat} (h : signB c = true) : letB c = true := by
  unfold signB at h
  rw [PySem.StrLaws.found_one] at h
  have h := of_decide_eq_true h
  have e : letters.cps.toList = [97, 98, 99, 100, 101, 102, 103, 104, 105, 106, 107, 108, 109, 110, 111, 112, 113, 114, 115, 116, 117, 118, 119, 120, 121, 122] := by decide +kernel
  rw [e] at h
  unfold letB
  have h2 : 97 ≤ c ∧ c ≤ 122 := by
    simp only [List.mem_cons, List.not_mem_nil, or_false] at h
    omega
  rw [decide_eq_true h2.1, decide_eq_true h2.2]
  rfl
theorem nameS_let {x : Str} (h : nameS x = true) : x.cps.toList.all letB = true := by
  have h2 := (He.ba h).2
  rw [List.all_eq_true] at h2 ⊢
  exact fun c hc => sign_let (h2 c hc)
/-! ### the signs of a text -/
mutual
def shL : PyData → List Nat
  | .int i => [48 + i.toNat]
  | .str x => 39 :: (x.cps.toList ++ [39])
  | .tuple ds => 40 :: (shJ ds ++ (if ds.length = 1 then [44, 41] else [41]))
  | _ => []
def shJ : List PyData → List Nat
  | [] => []
  | d :: ds => shL d ++ shK ds
def shK : List PyData → List Nat
  | [] => []
  | d :: ds => 44 :: 32 :: (shL d ++ shK ds)
end
theorem shL_head : ∀ {d : PyData}, plB d = true → ∃ c r, shL d = c :: r ∧ c ≠ 41 ∧ c ≠ 44 ∧ c ≠ 93
  | .int i, h => ⟨_, _, rfl, by omega, by omega, by
    have h2 : i < 10 := of_decide_eq_true (He.ba h).2
    omega⟩
  | .str x, _ => ⟨39, _, rfl, by decide, by decide, by decide⟩
  | .tuple ds, _ => ⟨40, _, rfl, by decide, by decide, by decide⟩
theorem let_split : ∀ {xs ys r s : List Nat}, xs.all letB = true → ys.all letB = true → xs ++ 39 :: r = ys ++ 39 :: s → xs = ys ∧ r = s
  | [], [], _, _, _, _, e => ⟨rfl, by cases e; rfl⟩
  | [], y :: ys, _, _, _, h, e => by
    injection e with e1 e2
    subst e1
    cases h
  | x :: xs, [], _, _, h, _, e => by
    injection e with e1 e2
    subst e1
    cases h
  | x :: xs, y :: ys, _, _, h, k, e => by
    rw [List.all_cons] at h k
    injection e with e1 e2
    subst e1
    obtain ⟨h1, h2⟩ := let_split (He.ba h).2 (He.ba k).2 e2
    exact ⟨by rw [h1], h2⟩
mutual
theorem sh_inj : ∀ (d : PyData), plB d = true → ∀ (e : PyData) (r s : List Nat), plB e = true → shL d ++ r = shL e ++ s → d = e ∧ r = s
  | .int i, h, e, r, s, k, q => by
    obtain ⟨h1, h2⟩ := He.ba h
    have h1 : 0 ≤ i := of_decide_eq_true h1
    have h2 : i < 10 := of_decide_eq_true h2
    cases e with
    | int j =>
      have k1 : 0 ≤ j := of_decide_eq_true (He.ba k).1
      have q : (48 + i.toNat) :: r = (48 + j.toNat) :: s := q
      injection q with q1 q2
      exact ⟨by congr 1; omega, q2⟩
    | str y =>
      have q : (48 + i.toNat) :: r = 39 :: _ := q
      injection q with q1 q2
      omega
    | tuple es =>
      have q : (48 + i.toNat) :: r = 40 :: _ := q
      injection q with q1 q2
      omega
    | _ => cases k
  | .str x, h, e, r, s, k, q => by
    cases e with
    | int j =>
      have q : 39 :: _ = (48 + j.toNat) :: s := q
      injection q with q1 q2
      omega
    | str y =>
      have q : 39 :: (x.cps.toList ++ [39] ++ r) = 39 :: (y.cps.toList ++ [39] ++ s) := q
      injection q with q1 q2
      rw [List.append_assoc, List.append_assoc] at q2
      obtain ⟨e1, e2⟩ := let_split (show x.cps.toList.all letB = true from h) (show y.cps.toList.all letB = true from k) q2
      refine ⟨?_, e2⟩
      congr 1
      exact TL.ext_tl e1
    | tuple es =>
      have q : 39 :: (x.cps.toList ++ [39] ++ r) = 40 :: _ := q
      injection q with q1 q2
      cases q1
    | _ => cases k
  | .tuple ds, h, e, r, s, k, q => by
    cases e with
    | int j =>
      have q : 40 :: _ = (48 + j.toNat) :: s := q
      injection q with q1 q2
      omega
    | str y =>
      have q : 40 :: _ = 39 :: _ := q
      injection q with q1 q2
      cases q1
    | tuple es =>
      have q : 40 :: (shJ ds ++ (if ds.length = 1 then [44, 41] else [41]) ++ r) = 40 :: (shJ es ++ (if es.length = 1 then [44, 41] else [41]) ++ s) := q
      injection q with q1 q2
      rw [List.append_assoc, List.append_assoc] at q2
      obtain ⟨e1, e2⟩ := shT_inj ds h es r s k q2
      exact ⟨by rw [e1], e2⟩
    | _ => cases k
theorem shT_inj : ∀ (ds : List PyData), plAll ds = true → ∀ (es : List PyData) (r s : List Nat), plAll es = true → shJ ds ++ ((if ds.length = 1 then [44, 41] else [41]) ++ r) = shJ es ++ ((if es.length = 1 then [44, 41] else [41]) ++ s) → ds = es ∧ r = s
  | [], _, [], r, s, _, q => ⟨rfl, by injection q⟩
  | [], _, e :: es, r, s, k, q => by
    obtain ⟨c, t, e1, n1, _, _⟩ := shL_head (He.ba k).1
    have q : 41 :: r = shL e ++ shK es ++ _ := q
    rw [e1] at q
    injection q with q1 q2
    exact absurd q1.symm n1
  | d :: ds, h, [], r, s, k, q => by
    obtain ⟨c, t, e1, n1, _, _⟩ := shL_head (He.ba h).1
    have q : shL d ++ shK ds ++ _ = 41 :: s := q
    rw [e1] at q
    injection q with q1 q2
    exact absurd q1 n1
  | d :: ds, h, e :: es, r, s, k, q => by
    have q : (shL d ++ shK ds) ++ _ = (shL e ++ shK es) ++ _ := q
    rw [List.append_assoc, List.append_assoc] at q
    obtain ⟨e1, e2⟩ := sh_inj d (He.ba h).1 e _ _ (He.ba k).1 q
    subst e1
    cases ds with
    | nil =>
      cases es with
      | nil =>
        have e2 : [44, 41] ++ r = [44, 41] ++ s := e2
        exact ⟨rfl, List.append_cancel_left e2⟩
      | cons e' es =>
        have e2 : 44 :: 41 :: r = 44 :: 32 :: _ := e2
        cases e2
    | cons d' ds =>
      cases es with
      | nil =>
        have e2 : 44 :: 32 :: _ = 44 :: 41 :: s := e2
        cases e2
      | cons e' es =>
        have e2 : shK (d' :: ds) ++ (41 :: r) = shK (e' :: es) ++ (41 :: s) := by
          have a1 : ¬ (d :: d' :: ds).length = 1 := by simp
          have a2 : ¬ (d :: e' :: es).length = 1 := by simp
          rw [if_neg a1, if_neg a2] at e2
          exact e2
        obtain ⟨f1, f2⟩ := shK_inj (d' :: ds) (He.ba h).2 (e' :: es) 41 r s (by decide) (He.ba k).2 e2
        exact ⟨by rw [f1], f2⟩
theorem shK_inj : ∀ (ds : List PyData), plAll ds = true → ∀ (es : List PyData) (t : Nat) (r s : List Nat), t ≠ 44 → plAll es = true → shK ds ++ t :: r = shK es ++ t :: s → ds = es ∧ r = s
  | [], _, [], t, r, s, _, _, q => ⟨rfl, by injection q⟩
  | [], _, e :: es, t, r, s, n, k, q => by
    have q : t :: r = 44 :: _ := q
    injection q with q1 q2
    exact absurd q1 n
  | d :: ds, h, [], t, r, s, n, k, q => by
    have q : 44 :: _ = t :: s := q
    injection q with q1 q2
    exact absurd q1.symm n
  | d :: ds, h, e :: es, t, r, s, n, k, q => by
    have q : 44 :: 32 :: (shL d ++ shK ds ++ t :: r) = 44 :: 32 :: (shL e ++ shK es ++ t :: s) := q
    injection q with _ q
    injection q with _ q
    rw [List.append_assoc, List.append_assoc] at q
    obtain ⟨e1, e2⟩ := sh_inj d (He.ba h).1 e _ _ (He.ba k).1 q
    obtain ⟨f1, f2⟩ := shK_inj ds (He.ba h).2 es t r s n (He.ba k).2 e2
    exact ⟨by rw [e1, f1], f2⟩
end
/-! ### the text of such data -/
theorem int_text {i : Int} (h0 : 0 ≤ i) (h1 : i < 10) : TL.tl (PyData.shown (.int i)) = [48 + i.toNat] := by
  have h : i = 0 ∨ i = 1 ∨ i = 2 ∨ i = 3 ∨ i = 4 ∨ i = 5 ∨ i = 6 ∨ i = 7 ∨ i = 8 ∨ i = 9 := by omega
  rcases h with rfl | rfl | rfl | rfl | rfl | rfl | rfl | rfl | rfl | rfl <;> decide +kernel
theorem char_let {c : Nat} (h : letB c = true) : Builtin.Str.reprChar 39 c = [c] := by
  obtain ⟨h1, h2⟩ := He.ba h
  have h1 : 97 ≤ c := of_decide_eq_true h1
  have h2 : c ≤ 122 := of_decide_eq_true h2
  have all : ∀ k : Fin 26, Builtin.Str.reprChar 39 (97 + k.val) = [97 + k.val] := by decide +kernel
  have e := all ⟨c - 97, by omega⟩
  rw [show 97 + (c - 97) = c by omega] at e
  exact e
theorem foldl_let : ∀ {xs : List Nat} {acc : Array Nat}, xs.all letB = true → (xs.foldl (fun out c => out ++ (Builtin.Str.reprChar 39 c).toArray) acc).toList = acc.toList ++ xs
  | [], acc, _ => by simp
  | x :: xs, acc, h => by
    rw [List.all_cons] at h
    rw [List.foldl_cons, foldl_let (He.ba h).2, char_let (He.ba h).1]
    simp
theorem str_text {x : Str} (h : x.cps.toList.all letB = true) : TL.tl (PyData.shown (.str x)) = 39 :: (x.cps.toList ++ [39]) := by
  have nq : x.cps.contains 39 = false := by
    rw [Bool.eq_false_iff]
    intro z
    have z2 : 39 ∈ x.cps.toList := by
      rw [Array.contains_iff_mem] at z
      exact Array.mem_toList_iff.mpr z
    have z3 := List.all_eq_true.mp h 39 z2
    cases z3
  have q : reprQuote x = 39 := by
    unfold reprQuote
    rw [nq]
    rfl
  show (Array.push _ _).toList = _
  rw [q, ← Array.foldl_toList, Array.toList_push, foldl_let h]
  rfl
mutual
theorem sh_text : ∀ (d : PyData), plB d = true → TL.tl d.shown = shL d
  | .int i, h => int_text (of_decide_eq_true (He.ba h).1) (of_decide_eq_true (He.ba h).2)
  | .str x, h => str_text h
  | .tuple ds, h => by
    show TL.tl (("(" : Str) ++ Str.join ", " (PyData.shownAll ds) ++ _) = _
    rw [TL.tl_append, TL.tl_append, shJ_text ds h]
    have el : (PyData.shownAll ds).length = ds.length := by
      clear h
      induction ds with
      | nil => rfl
      | cons d ds ih => exact congrArg Nat.succ ih
    rw [el]
    by_cases c : ds.length = 1
    · rw [c]
      show _ = 40 :: (shJ ds ++ (if ds.length = 1 then [44, 41] else [41]))
      rw [if_pos c]
      rfl
    · show _ = 40 :: (shJ ds ++ (if ds.length = 1 then [44, 41] else [41]))
      rw [if_neg c, if_neg (by simpa using c)]
      rfl
theorem shJ_text : ∀ (ds : List PyData), plAll ds = true → TL.tl (Str.join ", " (PyData.shownAll ds)) = shJ ds
  | [], _ => rfl
  | [d], h => by
    show TL.tl d.shown = shL d ++ []
    rw [sh_text d (He.ba h).1, List.append_nil]
  | d :: e :: ds, h => by
    show TL.tl (d.shown ++ ", " ++ Str.join ", " (PyData.shownAll (e :: ds))) = shL d ++ (44 :: 32 :: (shL e ++ shK ds))
    rw [TL.tl_append, TL.tl_append, sh_text d (He.ba h).1, shJ_text (e :: ds) (He.ba h).2, List.append_assoc]
    rfl
end
theorem from_text : ∀ (ds : List PyData) (k : Nat) (acc : Str), plAll ds = true → TL.tl (textFrom (k + 1) acc (PyData.shownAll ds)) = TL.tl acc ++ shK ds
  | [], _, acc, _ => (List.append_nil _).symm
  | d :: ds, k, acc, h => by
    show TL.tl (textFrom (k + 1 + 1) (acc ++ (if k + 1 > 0 then ", " else "" : String) ++ d.shown) (PyData.shownAll ds)) = _
    rw [from_text ds (k + 1) _ (He.ba h).2, TL.tl_append, TL.tl_append, sh_text d (He.ba h).1, if_pos (Nat.succ_pos k), List.append_assoc, List.append_assoc]
    rfl
theorem list_text {d : PyData} {ds : List PyData} (h : plAll (d :: ds) = true) : TL.tl (PyData.shown (.list (d :: ds))) = 91 :: (shL d ++ (shK ds ++ [93])) := by
  show TL.tl (textFrom 1 (("[" : Str) ++ ("" : String) ++ d.shown) (PyData.shownAll ds) ++ "]") = _
  rw [TL.tl_append, from_text ds 0 _ (He.ba h).2, TL.tl_append, TL.tl_append, sh_text d (He.ba h).1, List.append_assoc, List.append_assoc, List.append_assoc]
  rfl
/-- the text tells the data -/
theorem shown_inj {ds es : List PyData} (h : plAll ds = true) (k : plAll es = true) (n : ds ≠ []) (m : es ≠ []) (q : PyData.shown (.list ds) = PyData.shown (.list es)) : ds = es := by
  cases ds with
  | nil => exact absurd rfl n
  | cons d ds =>
  cases es with
  | nil => exact absurd rfl m
  | cons e es =>
  have q := congrArg TL.tl q
  rw [list_text h, list_text k] at q
  injection q with _ q
  obtain ⟨e1, e2⟩ := sh_inj d (He.ba h).1 e _ _ (He.ba k).1 q
  obtain ⟨f1, _⟩ := shK_inj ds (He.ba h).2 es 93 [] [] (by decide) (He.ba k).2 e2
  rw [e1, f1]
/-! ### == -/
mutual
theorem eqv_pl : ∀ (d e : PyData), plB d = true → plB e = true → PyData.eqv d e = true → d = e
  | .int i, e, h, k, q => by
    cases e with
    | int j => exact congrArg _ (eq_of_beq (show (i == j) = true from q))
    | bool b => cases k
    | _ => cases q
  | .str x, e, h, k, q => by
    cases e with
    | str y => exact congrArg _ (eq_of_beq (show (x == y) = true from q))
    | _ => cases q
  | .tuple ds, e, h, k, q => by
    cases e with
    | tuple es => exact congrArg _ (eqvAll_pl ds es h k q)
    | _ => cases q
theorem eqvAll_pl : ∀ (ds es : List PyData), plAll ds = true → plAll es = true → PyData.eqvAll ds es = true → ds = es
  | [], [], _, _, _ => rfl
  | [], _ :: _, _, _, q => by cases q
  | _ :: _, [], _, _, q => by cases q
  | d :: ds, e :: es, h, k, q => by
    obtain ⟨q1, q2⟩ := He.ba (show (PyData.eqv d e && PyData.eqvAll ds es) = true from q)
    rw [eqv_pl d e (He.ba h).1 (He.ba k).1 q1, eqvAll_pl ds es (He.ba h).2 (He.ba k).2 q2]
end
/-- no more than there are -/
theorem nodup_len {α : Type} [DecidableEq α] : ∀ {xs ys : List α}, xs.Nodup → (∀ x ∈ xs, x ∈ ys) → xs.length ≤ ys.length
  | [], _, _, _ => Nat.zero_le _
  | x :: xs, ys, h, k => by
    rw [List.nodup_cons] at h
    have h1 := nodup_len (xs := xs) (ys := ys.erase x) h.2 fun y hy => (List.mem_erase_of_ne (fun z : y = x => h.1 (by rw [← z]; exact hy))).mpr (k y (List.mem_cons_of_mem _ hy))
    have h2 := List.length_erase_of_mem (k x List.mem_cons_self)
    have h3 := List.length_pos_of_mem (k x List.mem_cons_self)
    rw [List.length_cons]
    omega
end L2.TP

/-! Layer a: a list unpacked; own == and != beside any value; items of lists or tuples. -/
namespace PySem.TPX
open PySem PySem.W PyProof.Rows
section
variable {prog : Program} {w : World} {A : Around} {E : Value → Shared → Prop} {s : Shared}
theorem draw_list {it l : Addr} {items : Array Value} (hne : l ≠ it) : ∀ (n i : Nat) (s : Shared) (Q : List Value → Shared → Prop), s.heap.IsListIter it l i → s.heap.IsList l items → i + n ≤ items.size →
    (∀ h', h'.IsListIter it l (i + n) → Heap.SameBut it s.heap h' → Q ((items.toList.drop i).take n) { s with heap := h' }) → wpAny (model prog w) A (draw (.ref it) n) Q E s
  | 0, i, s, Q, hit, _, _, hQ => by
    show wpAny _ _ (pure []) Q E s
    exact wpAny_pure (by simpa using hQ s.heap hit (Heap.SameBut.refl ..))
  | n + 1, i, s, Q, hit, ht, hle, hQ => by
    have hlt : i < items.size := by omega
    show wpAny _ _ (pyNext (.ref it) >>= _) Q E s
    refine wpAny_bind (wpAny_pyNext_list_item hit ht (x := items[i]) (by simp [hlt]) fun h₁ hit₁ hs₁ => ?_)
    refine wpAny_bind (wpAny_holding (draw_list hne n (i + 1) _ _ hit₁ (ht.extBut hs₁.extBut hne) (by omega) fun h₂ hit₂ hs₂ => wpAny_pure ?_))
    have hd : items.toList.drop i = items[i] :: items.toList.drop (i + 1) := by simp [List.drop_eq_getElem_cons, hlt]
    have := hQ h₂ (by rw [show i + (n + 1) = i + 1 + n by omega]; exact hit₂) (hs₁.trans hs₂)
    rw [hd, List.take_succ_cons] at this
    exact this
theorem unpackItems_list {t : Addr} {items : Array Value} {Q : List Value → Shared → Prop} (hh : A.handled = none) (ht : s.heap.IsList t items)
    (hQ : ∀ h', Heap.ExtBut s.heap.objs.size s.heap h' → Q items.toList { s with heap := h' }) : wpAny (model prog w) A (unpackItems (.ref t) items.size none) Q E s := by
  have hlt : t ≠ s.heap.objs.size := by obtain ⟨o, ho, _⟩ := ht; exact Nat.ne_of_lt (Heap.lt_size ho)
  unfold unpackItems
  refine wpAny_bind ?_
  · unfold notIterableAtAll
    refine wpAny_bind (wpAny_specialOf ht.typeIs F.slot_list_iter.lookup ?_)
    refine wpAny_pure ?_
    simp only [Bool.false_eq_true, if_false]
    refine wpAny_bind (wpAny_holding (wpAny_pyIter_list ht ?_))
    refine wpAny_bind (wpAny_holding (draw_list hlt items.size 0 _ _ ⟨_, Heap.get?_push_size _ rfl, rfl, rfl⟩ (ht.push _) (by omega) fun h₁ hit₁ hs₁ => ?_))
    have hall : List.take items.size (List.drop 0 items.toList) = items.toList := by
      rw [List.drop_zero]; exact List.take_of_length_le (by simp)
    rw [hall]
    rw [if_neg (by simp)]
    have ht₁ : h₁.IsList t items := (ht.push _).extBut hs₁.extBut hlt
    refine wpAny_bind (wpAny_holding (wpAny_pyNext_list_end hh hit₁ ht₁ (by simp) fun h₂ he₂ => ?_))
    simp only [Option.isSome_none, Bool.false_eq_true, if_false]
    refine wpAny_pure (hQ h₂ fun b o hb e => he₂ b o hb (hs₁.extBut b o hb (Heap.get?_push_of_some _ e)))
theorem assign_Tuple_listU {env : Env} {elts : List Expr} {x1} {pos : Pos} {t : Addr} {items : Array Value} {Q : Unit → Shared → Prop} (hh : A.handled = none) (ht : s.heap.IsList t items)
    (hn : (assignEach elts env).length = items.size) (hstar : (assignEach elts env).findIdx? (·.1) = none)
    (h : ∀ h', Heap.ExtBut s.heap.objs.size s.heap h' → wpAny (model prog w) A (assignInOrder ((assignEach elts env).map (·.2)) items.toList) Q E { s with heap := h' }) :
    wpAny (model prog w) A (assign (.Tuple elts x1 pos) env (.ref t)) Q E s := by
  rw [arm_assign_Tuple]
  refine wpAny_bind (wpAny_standAt ?_)
  unfold unpack
  rw [hn, hstar]
  exact wpAny_bind (wpAny_holding (unpackItems_list hh ht h))
/-! ### x != b, the class has an own == alone -/
variable {K : Frag} {x C f : Addr} {ox : Obj} {od : Option Obj} {b tb : Value}
theorem ifBound_ne {M : Model} {args : List Value} {Q : Option Value → Shared → Prop} (X : K.In s.heap) (I : InstAt s.heap x ox C od) (hs : findIn K (.ref C) "__ne__" = some (some (.builtin "object.__ne__")))
    (h : wpAny M A (call (.builtin "object.__ne__") (.ref x :: args)) (fun v => Q (some v)) E s) : wpAny M A (callSpecialIfBound? (.ref x) "__ne__" args) Q E s := by
  simp only [callSpecialIfBound?, bindSpecialIfBound?]
  refine wpAny_holding (wpAny_bind (wpAny_bind (wpAny_bind (I.type.here ((looks_findIn X hs).here ?_)))))
  simp only [F.slot_tuple_iterator_ne.bind]
  refine wpAny_bind (wpAny_askSetting (wpAny_ite ?_))
  have fin : wpAny M A (call (.builtin "object.__ne__") ([.ref x] ++ args) >>= fun v => pure (some v)) Q E s := wpAny_bind (wpAny_mono h (fun v s' h' => wpAny_pure h') fun _ _ h' => h')
  split
  · exact wpAny_bind (wpAny_pure (wpAny_pure fin))
  · exact wpAny_tryCatch (wpAny_bind (wpAny_pure (wpAny_pure fin)))
theorem check_ne {M : Model} {Q : Unit → Shared → Prop} (X : K.In s.heap) (I : InstAt s.heap x ox C od) (ho : subIn K (.ref C) (.type "object") = some true) (hq : Q () s) : wpAny M A (checkBuiltinCall "object.__ne__" ⟨[.ref x, b], []⟩) Q E s := by
  simp only [checkBuiltinCall, F.cmpKind_ne, F.cmpSplit_ne]
  refine wpAny_bind ?_
  unfold isInstance
  refine wpAny_bind (I.type.here ((looks_subIn X ho).here ?_))
  have ha : argsOk "object.__ne__" ⟨[.ref x, b], []⟩ := F.cmpArgs_ne _ _
  cases hsig : Manifest.signature? "object.__ne__" with
  | none => exact wpAny_pure hq
  | some sig =>
    simp only [argsOk, hsig] at ha
    have h2 : Bind.checkArgs "object.__ne__" sig ⟨[.ref x, b], []⟩ = pure () := ha
    show wpAny M A (Bind.checkArgs "object.__ne__" sig ⟨[.ref x, b], []⟩) Q E _
    rw [h2]; exact wpAny_pure hq
theorem objNe {Q : Fin → Shared → Prop} (X : K.In s.heap) (I : InstAt s.heap x ox C od) (hs : findIn K (.ref C) "__eq__" = some (some (.ref f))) (hf : isFn K (.ref f) = true) (hu : A.units < cLine)
    (h : wpAny (model prog w) A (call (.ref f) [.ref x, b]) (fun v s' => ∃ c, v = .bool c ∧ Q (.done (.ret (.bool (!c)))) s') E s) : wpAny (model prog w) A (Builtin.«object.__ne__» ⟨[.ref x, b], []⟩) Q E s := by
  unfold Builtin.«object.__ne__»
  repeat (first
    | with_reducible refine wpAny_cRoomFor hu ?_
    | (refine wpAny_bind (m := callSpecialIfBound? (.ref x) (Str.ofString "__eq__") [b])
        (ifBound_K X I hs hf (wpAny_mono h (fun r s' hr => by
          obtain ⟨c, rfl, hq⟩ := hr
          repeat (first | exact hq | exact wpAny_pure hq | exact wpAny_truthy_bool hq | (refine wpAny_bind (m := truthy (.bool _)) (wpAny_truthy_bool ?_)) | wp_step)) fun _ _ e => e)))
    | wp_step)
theorem ne_K {Q : Value → Shared → Prop} (hu : A.units + 1 < cLine) (X : K.In s.heap) (I : InstAt s.heap x ox C od) (hb : Looks (model prog w) s.heap (typeOf b) tb) (hn : notFirst K C tb = true)
    (hne : findIn K (.ref C) "__ne__" = some (some (.builtin "object.__ne__"))) (ho : subIn K (.ref C) (.type "object") = some true) (hs : findIn K (.ref C) "__eq__" = some (some (.ref f))) (hf : isFn K (.ref f) = true)
    (h : wpAny (model prog w) A.in1 (call (.ref f) [.ref x, b]) (fun v s' => ∃ c, v = .bool c ∧ Q (.bool (!c)) s') E s) : wpAny (model prog w) A (richCompare .NotEq (.ref x) b) Q E s := by
  have one : wpAny (model prog w) A (tryCompare (.ref x) "__ne__" b) (fun r s' => ∃ v, r = some v ∧ Q v s') E s := by
    unfold tryCompare
    refine wpAny_bind (ifBound_ne X I hne (wpAny_call (codeAny_call_builtin (by decide +kernel) F.cmpEntry_ne (check_ne X I ho (objNe (A := A.in1) X I hs hf hu (wpAny_mono h (fun v s' hv => ?_) fun _ _ e => e))))))
    obtain ⟨c, rfl, hq⟩ := hv
    exact ⟨c, rfl, wpAny_pure ⟨_, rfl, hq⟩⟩
  unfold richCompare
  simp only [oneThing_ref]
  refine wpAny_holding (wpAny_bind (wpAny_cRoomFor (Nat.lt_of_succ_lt hu) ?_))
  rw [cmpInfo_NotEq]
  dsimp only
  refine wpAny_bind (I.type.here (wpAny_bind (hb.here ?_)))
  split
  · rename_i q
    have e : subIn K tb (.ref C) = some false := by
      rcases Bool.or_eq_true_iff.mp hn with e | e
      · rw [beq_iff_eq.mp e] at q; simp at q
      · exact beq_iff_eq.mp e
    refine wpAny_bind ((looks_subIn X e).here ?_)
    simp only [Bool.false_eq_true, if_false]
    refine wpAny_bind (wpAny_mono one (fun r s' z => ?_) fun _ _ e => e)
    obtain ⟨v, rfl, hq⟩ := z
    exact wpAny_pure hq
  · refine wpAny_bind (wpAny_pure ?_)
    simp only [Bool.false_eq_true, if_false]
    refine wpAny_bind (wpAny_mono one (fun r s' z => ?_) fun _ _ e => e)
    obtain ⟨v, rfl, hq⟩ := z
    exact wpAny_pure hq
end
end PySem.TPX
namespace L2.TP
open PySem PySem.Spec PyProof.Rows
/-- (a, b, ..) = a list of that length -/
def gLst (K : PySem.W.Frag) (n : Nat) (t : TGs) : TG := fun v σ H Q => ∃ a xs, v = .ref a ∧ SqL K H a xs ∧ xs.length = n ∧ t xs σ H Q
section
variable {X : Cx} {pos : Pos}
theorem pg_lst {es : List Expr} {k : Nat} {t : TGs} {n : Nat} (hc : X.calm = true) (h : PGs X es t)
    (hn : (assignEach es X.env).length = n := by rfl) (hst : (assignEach es X.env).findIdx? (·.1) = none := by rfl) : PG X (.Tuple es k pos) (gLst X.K n t) := by
  refine ⟨fun pins s σ H v u Q I r hw => ?_⟩
  obtain ⟨a, xs, e1, hq, hl, hw⟩ := hw
  subst e1
  cases r
  obtain ⟨its, rv, ⟨o, m, e, hc', _, hd⟩, hz⟩ := I.list hq
  have ht : s.heap.IsList a its.toArray := ⟨o, e, hc', m, hd⟩
  refine PySem.TPX.assign_Tuple_listU (I.ok.hd hc) ht (by simp [hn, ← hl, rv.length]) hst fun h' hx => ?_
  have I1 : Inv X pins σ H { s with heap := h' } := I.kept (t' := s.toks) fun b o e => hx b o (Nat.ne_of_lt (Heap.lt_size e)) e
  exact h.run pins _ σ H xs _ Q I1 (by simpa using rv) hw
/-- the type of what stands at the right of an own == -/
inductive Oth (K : PySem.W.Frag) (H : Hp) (C : Addr) : V → Prop
  | own {b dy : Addr} {gs : List (Str × V)} (h : H b = some (.ins C dy gs)) : Oth K H C (.ref b)
  | oth {y : V} {t : Value} (h : TyX K H y t) (n : PySem.W.subIn K t (.ref C) = some false) : Oth K H C y
/-- x == y, x an instance of the class at C with the text's own == -/
def rOwnE (K : PySem.W.Frag) (C : Addr) (sp : Sp) (E : XK) : R2 := fun x y H Q => ∃ a dx fs, x = .ref a ∧ H a = some (.ins C dx fs) ∧ Oth K H C y ∧ sp [x, y] H (fun v H' => ∃ b, v = .bl b ∧ Q (.bl b) H') E
def rOwnNe (K : PySem.W.Frag) (C : Addr) (sp : Sp) (E : XK) : R2 := fun x y H Q => ∃ a dx fs, x = .ref a ∧ H a = some (.ins C dx fs) ∧ Oth K H C y ∧ sp [x, y] H (fun v H' => ∃ b, v = .bl b ∧ Q (.bl (!b)) H') E
variable {CX : CXT} {k : Nat} {C f : Addr} {fd : FuncData} {p1 p2 : Str} {sp : Sp} {E : XK} {pins : List (Addr × Obj)} {σ : L2.St} {H : Hp} {s : Shared}
theorem oth_type {y : V} {u : Value} (I : Inv X pins σ H s) (ry : RelV y u) (o : Oth X.K H C y) : ∃ tb, PySem.W.Looks (model X.prog X.w) s.heap (typeOf u) tb ∧ PySem.W.notFirst X.K C tb = true := by
  cases o with
  | own h =>
    cases ry
    obtain ⟨od, J⟩ := inst_of I h
    exact ⟨_, J.type, by simp [PySem.W.notFirst]⟩
  | @oth _ t h n =>
    obtain ⟨P, kx, hp, _⟩ := kit_of I ry h
    exact ⟨t, kx.ty _ _ I.kIn hp, by simp [PySem.W.notFirst, n]⟩
theorem op_ownE (S : SlotF X.K C "__eq__" f) (F : FnOk X.prog X.w X.K X.mg X.base CX k f fd [p1, p2] sp) (hr : Room k X.A) (hb : Binds X.K fd [p1, p2] []) (hx : Passes CX X E) : OpR X (compareOp .Eq) (rOwnE X.K C sp E) := by
  intro pins s σ H x y v u Q I rx ry h
  obtain ⟨a, dx, fs, rfl, ea, ho, hs⟩ := h
  cases rx
  obtain ⟨m, Fm⟩ := I.fr
  obtain ⟨od, J⟩ := inst_of I ea
  obtain ⟨tb, L, hn⟩ := oth_type I ry ho
  show wpAny _ _ (richCompare .Eq (.ref a) u) _ _ _
  refine PySem.W.cmp_K hr.units0 Fm I.ok.mod.kin J L hn S.at_ S.fn ?_
  exact thn (run_fn (dvs := []) (ds := []) (vs := [.ref a, y]) F hr hb .nil hx I (.cons rfl (.cons ry .nil)) (by rw [List.append_nil]; exact hs)) fun z s' hz => by
    obtain ⟨zv, H', I', rz, b, e, q⟩ := hz
    subst e
    exact backV rz ⟨.bl b, H', I', rz, q⟩
theorem op_ownNe (S : SlotF X.K C "__eq__" f) (hne : PySem.W.findIn X.K (.ref C) "__ne__" = some (some (.builtin "object.__ne__"))) (hob : PySem.W.subIn X.K (.ref C) (.type "object") = some true) (F : FnOk X.prog X.w X.K X.mg X.base CX k f fd [p1, p2] sp) (hr : Room (k + 1) X.A) (hb : Binds X.K fd [p1, p2] []) (hx : Passes CX X E) : OpR X (compareOp .NotEq) (rOwnNe X.K C sp E) := by
  intro pins s σ H x y v u Q I rx ry h
  obtain ⟨a, dx, fs, rfl, ea, ho, hs⟩ := h
  cases rx
  obtain ⟨od, J⟩ := inst_of I ea
  obtain ⟨tb, L, hn⟩ := oth_type I ry ho
  show wpAny _ _ (richCompare .NotEq (.ref a) u) _ _ _
  refine PySem.TPX.ne_K (by have := hr.un; omega) I.kIn J L hn hne hob S.at_ S.fn ?_
  have e := I.env0
  have e0 : Env0 X.prog X.w X.K X.mg X.base X.A.in1 X.stack s H := ⟨e.frames, e.mod, e.bs, e.bsz, e.funs, e.frf, e.hok, e.bare⟩
  have r2 : Vals [V.ref a, y] [Value.ref a, u] := .cons rfl (.cons ry .nil)
  refine wpAny_call (codeAny_mono (F.run X.A.in1 X.stack s H ⟨[.ref a, u], []⟩ [.ref a, u] [.ref a, y] _ E hr.in1 e0 (by
    have := hb s [.ref a, u] I.kIn rfl
    simpa using this) r2 hs) fun r s' hq => ?_)
  cases r with
  | error e => exact hx pins σ H s e s' I hq
  | ok fl =>
    cases fl with
    | ret w =>
      obtain ⟨z, H', I', rz, b, ez, q⟩ := I.after hq
      subst ez
      cases rz
      exact ⟨b, rfl, .bl (!b), H', I', rfl, q⟩
    | next => exact False.elim hq
    | brk => exact False.elim hq
    | cont => exact False.elim hq
/-- items of a list or a tuple -/
def rIxS (K : PySem.W.Frag) : R2 := fun x y H Q => ∃ p xs i v, x = .ref p ∧ y = .int i ∧ (SqL K H p xs ∨ SqT K H p xs) ∧ atI xs i = some v ∧ Q v H
theorem ix_seqK {K : PySem.W.Frag} (h : X.K = K) : IxR X (rIxS K) := by
  subst h
  intro value slice pins s σ H x y v u Q I rx ry q hs
  obtain ⟨p, xs, i, z, rfl, rfl, h | h, e, q⟩ := q
  · exact ix_list value slice pins s σ H _ _ v u Q I rx ry ⟨p, xs, i, z, rfl, rfl, h, e, q⟩ hs
  · exact ix_tup value slice pins s σ H _ _ v u Q I rx ry ⟨p, xs, i, z, rfl, rfl, h, e, q⟩ hs
end
end L2.TP

/-! Layer b: t[::-1] of a tuple; written data as a whole; + and slices of data. -/
namespace PySem.TPX
open PySem PySem.W PyProof.Rows HT
section
variable {prog : Program} {w : World} {A : Around} {E : Value → Shared → Prop} {s : Shared}
theorem adjust_rev (n : Nat) : Builtin.Slice.sliceAdjust none none (-1) (n : Int) = ((n : Int) - 1, -1) := by
  simp [Builtin.Slice.sliceAdjust]
theorem places_rev (n : Nat) : Builtin.Slice.slicePlaces ((n : Int) - 1) (-1) (-1) = n := by
  unfold Builtin.Slice.slicePlaces
  rw [if_neg (by decide)]
  by_cases h : (n : Int) - 1 > -1
  · rw [if_pos h, show (- -1 : Int) = 1 by decide, Int.ediv_one]
    omega
  · rw [if_neg h]
    omega
theorem applied_rev {sl : Addr} {vl vu vs : Value} {n : Nat} {Q : Int × Int × Nat → Shared → Prop} (hs : s.heap.IsSliceOf sl vl vu vs) (pl : IsPart vl none) (pu : IsPart vu none) (ps : IsPart vs (some (-1)))
    (h : Q ((n : Int) - 1, -1, n) s) : wpAny (model prog w) A (Builtin.Slice.sliceApplied (.ref sl) (pure (n : Int))) Q E s := by
  obtain ⟨os, hos, hcs, hds⟩ := id hs
  unfold Builtin.Slice.sliceApplied Builtin.Slice.sliceFields
  refine wpAny_bind (wpAny_bind (wpAny_field hos hds (x := vl) rfl (wpAny_bind (wpAny_field hos hds (x := vu) rfl (wpAny_bind (wpAny_field hos hds (x := vs) rfl (wpAny_pure ?_)))))))
  refine wpAny_bind (slicePart_ ps ?_)
  show wpAny _ _ (if ((-1 : Int) == 0) = true then _ else _) _ _ s
  rw [if_neg (by decide)]
  refine wpAny_bind (slicePart_ pl (wpAny_bind (slicePart_ pu (wpAny_bind (wpAny_pure ?_)))))
  show wpAny _ _ (match Builtin.Slice.sliceAdjust none none (-1) (n : Int) with | (lo, hi) => pure (lo, (-1 : Int), Builtin.Slice.slicePlaces lo hi (-1))) _ _ s
  rw [adjust_rev n]
  show wpAny _ _ (pure ((n : Int) - 1, (-1 : Int), Builtin.Slice.slicePlaces ((n : Int) - 1) (-1) (-1))) _ _ s
  rw [places_rev]
  exact wpAny_pure h
theorem pick_rev (xs : Array Value) : ((List.range xs.size).filterMap fun (m : Nat) => xs[((xs.size : Int) - 1 + (m : Int) * (-1)).toNat]?).toArray = xs.toList.reverse.toArray := by
  congr 1
  have e : (List.range xs.size).filterMap (fun (m : Nat) => xs[((xs.size : Int) - 1 + (m : Int) * (-1)).toNat]?) = (List.range xs.size).map fun m => xs[xs.size - 1 - m]! := by
    have go : ∀ ms : List Nat, (∀ m ∈ ms, m < xs.size) → ms.filterMap (fun (m : Nat) => xs[((xs.size : Int) - 1 + (m : Int) * (-1)).toNat]?) = ms.map fun m => xs[xs.size - 1 - m]! := fun ms => by
      induction ms with
      | nil => intro _; rfl
      | cons m ms ih =>
        intro h
        have hm := h m List.mem_cons_self
        have e1 : ((xs.size : Int) - 1 + (m : Int) * (-1)).toNat = xs.size - 1 - m := by omega
        have e2 : xs.size - 1 - m < xs.size := by omega
        rw [List.filterMap_cons, List.map_cons, ih fun k hk => h k (List.mem_cons_of_mem _ hk), e1]
        simp [e2]
    exact go _ fun m hm => List.mem_range.mp hm
  rw [e]
  refine List.ext_getElem (by simp) fun i h1 h2 => ?_
  have hi : i < xs.size := by simpa using h1
  have e2 : xs.size - 1 - i < xs.size := by omega
  simp [List.getElem_reverse, e2]
theorem getItem_tuple_rev {t sl : Addr} {items : Array Value} {vl vu vs : Value} {Q : Value → Shared → Prop} (ht : IsTup s.heap t items) (hs : s.heap.IsSliceOf sl vl vu vs) (pl : IsPart vl none) (pu : IsPart vu none) (ps : IsPart vs (some (-1)))
    (h : Q (.ref s.heap.objs.size) { s with heap := s.heap.push { cls := .type "tuple", data := .seq items.toList.reverse.toArray } })
    (hsz : items.size ≤ sizeLine) : wpAny (model prog w) A (getItem (.ref t) (.ref sl)) Q E s := by
  have htake : sizeOk (.seq items.toList.reverse.toArray) := by
    show items.toList.reverse.toArray.size ≤ sizeLine
    rw [List.size_toArray, List.length_reverse, Array.length_toList]
    omega
  obtain ⟨os, hos, hcs, hds⟩ := id hs
  have hTs : s.TypeIs (.ref sl) "slice" := ⟨os, hos, hcs⟩
  unfold getItem
  try with_reducible refine wpAny_holding ?_
  first | refine wpAny_bind (wpAny_pure ?_) | skip
  refine wpAny_bind (wpAny_sequenceKey ht.typeIs (by decide) ?_)
  refine wpAny_bind (wpAny_callSpecial?_slot (name := Str.ofString "__getitem__") ht.typeIs PyProof.Rows.slot_tuple_getitem
    (wpAny_call_entry PyProof.Rows.slot_tuple_getitem ht.typeIs entry_tuple_getitem ?_ (args_tuple_getitem _ _)))
  show wpAny _ _ (Builtin.Tuple.tupleItemsOf (.ref t) >>= _) _ _ s
  refine wpAny_bind (tupleItemsOf_ ht ?_)
  refine wpAny_bind (wpAny_typeOf hTs ?_)
  rw [if_pos (by decide)]
  refine wpAny_bind (applied_rev hs pl pu ps ?_)
  have hno : ¬ (((items.size : Int) - 1 == 0 && (-1 : Int) == 1 && items.size == items.size) = true) := by simp
  show wpAny _ _ (if ((items.size : Int) - 1 == 0 && (-1 : Int) == 1 && items.size == items.size) = true then _ else _) _ _ s
  rw [if_neg hno, pick_rev]
  first
    | exact wpAny_bind (m := Builtin.Tuple.tupleExact _) (wpAny_newObj_type (wpAny_pure ⟨_, rfl, wpAny_pure h⟩) htake)
    | exact wpAny_bind (m := Builtin.Tuple.tupleExact _) (wpAny_newObj_type (wpAny_bind (wpAny_pure (wpAny_pure ⟨_, rfl, wpAny_pure h⟩))) htake)
    | exact wpAny_bind (wpAny_bind (m := Builtin.Tuple.tupleExact _) (wpAny_newObj_type (wpAny_pure (wpAny_pure ⟨_, rfl, wpAny_pure h⟩)) htake))
    | exact wpAny_bind (wpAny_bind (m := Builtin.Tuple.tupleExact _) (wpAny_newObj_type (wpAny_pure ⟨_, rfl, wpAny_pure h⟩) htake))
end
end PySem.TPX
namespace L2.TP
open PySem PySem.Spec PyProof.Rows
section
variable {X : Cx}
def tRevT (K : PySem.W.Frag) (te : TE) : TE := fun σ H Q => te σ H fun x H1 => ∃ a xs, x = .ref a ∧ SqT K H1 a xs ∧ ∀ p, H1 p = none → Q (.ref p) (upd H1 p (.tup xs.reverse))
theorem pe_revT {e : Expr} {te : TE} {k : Nat} {p1 p2 p3 pos : Pos} (he : PE X e te) : PE X (.Subscript e (.Slice none none (some (.UnaryOp .USub (.Constant (.int 1) k p1) p2)) p3) pos) (tRevT X.K te) := by
  refine ⟨fun pins s σ H Q I h => ?_⟩
  refine Subscript_ (thn (he.run pins s σ H _ I h) fun v s1 ⟨x, H1, I1, r1, q1⟩ => ?_)
  obtain ⟨a, xs, ex, hx, q⟩ := q1
  subst ex
  cases r1
  have hst : PO X (some (.UnaryOp .USub (.Constant (.int 1) k p1) p2)) (tPart (tUn (rU fun i => .int (-i)) (tC (.int 1)))) := po_some (pe_un un_neg pe_int)
  refine wpAny_Slice (thn (po_none.run pins s1 σ H1 (fun o H2 => o = none ∧ H2 = H1) I1 ⟨rfl, rfl⟩) fun vl s2 ⟨l, H2, I2, pl, el, e2⟩ => ?_)
  subst el e2
  refine thn (po_none.run pins s2 σ H2 (fun o H3 => o = none ∧ H3 = H2) I2 ⟨rfl, rfl⟩) fun vu s3 ⟨u, H3, I3, pu, eu, e3⟩ => ?_
  subst eu e3
  refine thn (hst.run pins s3 σ H3 (fun o H4 => o = some (-1) ∧ H4 = H3) I3 ⟨1, rfl, -1, rfl, rfl, rfl⟩) fun vs s4 ⟨o, H4, I4, ps, eo, e4⟩ => ?_
  subst eo e4
  have I5 : Inv X pins σ H4 { s4 with heap := s4.heap.push { cls := .type "slice", data := .fields #[vl, vu, vs] } } := I4.kept (t' := s4.toks) fun b ob q => Heap.get?_push_of_some _ q
  obtain ⟨its, r, ht, hz⟩ := I5.tuple hx
  have hlen := r.length
  show wpAny (model X.prog X.w) X.A (subscriptTail e (.Slice none none (some (.UnaryOp .USub (.Constant (.int 1) k p1) p2)) p3) (.ref a) (.ref s4.heap.objs.size)) (EP X pins σ Q) X.xe { s4 with heap := s4.heap.push { cls := .type "slice", data := .fields #[vl, vu, vs] } }
  refine tail_any (ops := [.ref a, .ref s4.heap.objs.size]) ht.typeIs (PyProof.Rows.slot_tuple_getitem.lookup) ?_ (by with_unfolding_all rfl)
  refine PySem.TPX.getItem_tuple_rev ht (Heap.IsSliceOf.new _ vl vu vs) pl pu ps ?_ (by rw [List.size_toArray]; omega)
  refine ⟨.ref _, _, I5.laid (t' := s4.toks) (o := .tup xs.reverse) (fun b ob q => Heap.get?_push_of_some _ q) (Nat.le_refl _) ?_, rfl, q _ (I5.hok.fresh (Nat.le_refl _))⟩
  exact ⟨by rw [List.length_reverse]; exact hz, _, r.reverse, IsTup.new _ _⟩
/-! ### written data -/
def newP (H H' : Hp) : Hp := fun b => if (H b).isNone then H' b else none
theorem newP_at {H H' : Hp} {b : Addr} (h : H b = none) : newP H H' b = H' b := by
  unfold newP
  rw [h]
  rfl
theorem newP_some {H H' : Hp} {b : Addr} {o : HO} (h : newP H H' b = some o) : H b = none ∧ H' b = some o := by
  unfold newP at h
  cases e : H b with
  | none =>
    rw [e] at h
    exact ⟨rfl, h⟩
  | some u =>
    rw [e] at h
    cases h
theorem newP_right {H H1 H2 : Hp} (e : Ext H1 H2) : Ext (newP H H1) (newP H H2) := fun b o h => by
  obtain ⟨h1, h2⟩ := newP_some h
  rw [newP_at h1]
  exact e _ _ h2
theorem newP_left {H H1 H2 : Hp} (e : Ext H H1) : Ext (newP H1 H2) (newP H H2) := fun b o h => by
  obtain ⟨h1, h2⟩ := newP_some h
  rw [newP_at (ext_none e h1)]
  exact h2
theorem newP_but {H H1 : Hp} {p : Addr} {o : HO} (h : H p = some o) : Ext (newP H H1) (butP H1 p) := fun b u k => by
  obtain ⟨h1, h2⟩ := newP_some k
  have ne : b ≠ p := fun z => by rw [z, h] at h1; cases h1
  rw [butP_ne ne]
  exact h2
theorem newP_sub {H H1 : Hp} : Ext (newP H H1) H1 := fun b u k => (newP_some k).2
def tD (d : PyData) : TE := fun _ H Q => ∀ v H', Ext H H' → Dq (newP H H') v d → Q v H'
def tDs (ds : List PyData) : TA := fun _ H Q => ∀ vs H', Ext H H' → DqAll (newP H H') vs ds → Q vs H'
theorem PE.mono {e : Expr} {t t' : TE} (h : PE X e t) (k : ∀ σ H Q, t' σ H Q → t σ H Q) : PE X e t' := ⟨fun pins s σ H Q I q => h.run pins s σ H Q I (k σ H Q q)⟩
theorem PA.mono {e : List Expr} {t t' : TA} (h : PA X e t) (k : ∀ σ H Q, t' σ H Q → t σ H Q) : PA X e t' := ⟨fun pos pins s σ H Q I q => h.run pos pins s σ H Q I (k σ H Q q)⟩
theorem pd_of {e : Expr} {t : TE} {v : V} {d : PyData} (h : PE X e t) (k : ∀ (σ : L2.St) (H : Hp) (Q : VK), Q v H → t σ H Q) (hd : ∀ H, Dq H v d) : PE X e (tD d) := PE.mono h fun σ H Q q => k σ H Q (q v H Ext.rfl' (hd _))
theorem pd_c {e : Expr} {v : V} {d : PyData} (h : PE X e (tC v)) (hd : ∀ H, Dq H v d) : PE X e (tD d) := pd_of h (fun _ _ _ q => q) hd
theorem pds_nil : PA X [] (tDs []) := PA.mono pa_nil fun σ H Q q => q [] H Ext.rfl' .nil
theorem pds_cons {e : Expr} {es : List Expr} {d : PyData} {ds : List PyData} (h : PE X e (tD d)) (k : PA X es (tDs ds)) (hs : starEach (e :: es) X.env = (false, eval e X.env) :: starEach es X.env := by rfl) : PA X (e :: es) (tDs (d :: ds)) :=
  PA.mono (pa_cons h k hs) fun σ H Q q v H1 X1 d1 vs H2 X2 d2 => q (v :: vs) H2 (X1.trans X2) (.cons (d1.ext (newP_right X2)) (d2.ext (newP_left X1)))
theorem pd_tup {es : List Expr} {k : Nat} {pos : Pos} {ds : List PyData} (h : PE X (.Tuple es k pos) (tTup (tDs ds))) (hl : ds.length ≤ 1000 := by decide) : PE X (.Tuple es k pos) (tD (.tuple ds)) :=
  PE.mono h fun σ H Q q vs H1 X1 d1 => ⟨by rw [all_len d1]; exact Nat.le_trans hl (by decide), fun p hp => q (.ref p) _ (X1.trans (ext_upd hp)) (.tup (by rw [newP_at (ext_none X1 hp)]; exact upd_same) (d1.ext (newP_right (ext_upd hp))))⟩
theorem pd_lst {es : List Expr} {pos : Pos} {ds : List PyData} (h : PE X (.List es pos) (tLst (tDs ds))) (hl : ds.length ≤ 1000 := by decide) : PE X (.List es pos) (tD (.list ds)) :=
  PE.mono h fun σ H Q q vs H1 X1 d1 => ⟨by rw [all_len d1]; exact Nat.le_trans hl (by decide), fun p hp => q (.ref p) _ (X1.trans (ext_upd hp)) (.lst (by rw [newP_at (ext_none X1 hp)]; exact upd_same) (d1.ext (newP_right (ext_upd hp))))⟩
theorem pd_dct0 {pos : Pos} (h : PE X (.Dict [] [] pos) tDNewK) : PE X (.Dict [] [] pos) (tD (.dict [])) :=
  PE.mono h fun σ H Q q p hp => q (.ref p) _ (ext_upd hp) (.dct (by rw [newP_at hp]; exact upd_same) .nil)
end
/-! ### data beside what may not be leaned on -/
def outP (B : Addr → Bool) (H : Hp) : Hp := fun b => if B b then none else H b
/-- all of H that is not known in G -/
def oldB (G H : Hp) : Addr → Bool := fun b => (H b).isSome && (G b).isNone
theorem outP_at {B : Addr → Bool} {H : Hp} {b : Addr} (h : B b = false) : outP B H b = H b := by
  unfold outP
  rw [h]
  rfl
theorem outP_no {B : Addr → Bool} {H : Hp} {b : Addr} (h : B b = true) : outP B H b = none := by
  unfold outP
  rw [h]
  rfl
theorem outP_some {B : Addr → Bool} {H : Hp} {b : Addr} {o : HO} (h : outP B H b = some o) : B b = false ∧ H b = some o := by
  cases e : B b with
  | true =>
    rw [outP_no e] at h
    cases h
  | false =>
    rw [outP_at e] at h
    exact ⟨rfl, h⟩
theorem outP_ext {B : Addr → Bool} {H : Hp} : Ext (outP B H) H := fun b o h => (outP_some h).2
theorem outP_mono {B : Addr → Bool} {H H' : Hp} (e : Ext H H') : Ext (outP B H) (outP B H') := fun b o h => by
  obtain ⟨h1, h2⟩ := outP_some h
  rw [outP_at h1]
  exact e _ _ h2
/-- what is new may be leaned on -/
def NewOk (B : Addr → Bool) (H : Hp) : Prop := ∀ x, H x = none → B x = false
theorem NewOk.ext {B : Addr → Bool} {H H' : Hp} (h : NewOk B H) (e : Ext H H') : NewOk B H' := fun x hx => h x (ext_none e hx)
theorem oldB_new {G H : Hp} : NewOk (oldB G H) H := fun x hx => by
  unfold oldB
  rw [hx]
  rfl
theorem oldB_ext {G H : Hp} (e : Ext G H) : Ext G (outP (oldB G H) H) := fun b o h => by
  have z : oldB G H b = false := by
    unfold oldB
    rw [h]
    simp
  rw [outP_at z]
  exact e _ _ h
theorem oldB_no {G H : Hp} {b : Addr} {o : HO} (h : H b = some o) (g : G b = none) : oldB G H b = true := by
  unfold oldB
  rw [h, g]
  rfl
theorem newP_out {B : Addr → Bool} {H H1 : Hp} (h : NewOk B H) : Ext (newP H H1) (outP B H1) := fun b u k => by
  obtain ⟨h1, h2⟩ := newP_some k
  rw [outP_at (h b h1)]
  exact h2
section
variable {K : PySem.W.Frag} {H : Hp} {B : Addr → Bool} {a b : Addr} {o : HO} {ds es : List PyData} {Q : VK}
theorem dq_new {x : Addr} {u : HO} (hB : NewOk B H) (hx : H x = none) : Ext (outP B H) (outP B (upd H x u)) ∧ outP B (upd H x u) x = some u :=
  ⟨outP_mono (ext_upd hx), by rw [outP_at (hB x hx)]; exact upd_same⟩
theorem cat_dq (hp : NewOk B H) (h1 : Dq (outP B H) (.ref a) (.tuple ds)) (h2 : Dq (outP B H) (.ref b) (.tuple es)) (hl : ds.length + es.length ≤ 100000)
    (k : ∀ u H', Ext H H' → Dq (outP B H') (.ref u) (.tuple (ds ++ es)) → Q (.ref u) H') : rCatA K (.ref a) (.ref b) H Q := by
  cases h1 with
  | tup e1 al1 =>
  cases h2 with
  | tup e2 al2 =>
  rename_i xs ys
  refine ⟨a, b, xs, ys, rfl, rfl, SqT.of (outP_ext _ _ e1), SqT.of (outP_ext _ _ e2), by rw [all_len al1, all_len al2]; exact Nat.le_trans hl (by decide), fun z => ?_, fun _ z => ?_, fun _ _ u hu => ?_⟩
  · subst z
    cases al1
    exact k b H Ext.rfl' (.tup e2 al2)
  · subst z
    cases al2
    rw [List.append_nil] at k
    exact k a H Ext.rfl' (.tup e1 al1)
  · obtain ⟨x1, f1⟩ := dq_new (u := .tup (xs ++ ys)) hp hu
    exact k u _ (ext_upd hu) (.tup f1 (dqAll_app (al1.ext x1) (al2.ext x1)))
theorem dqAll_take : ∀ {xs : List V} {ds : List PyData} (n : Nat), DqAll H xs ds → DqAll H (xs.take n) (ds.take n)
  | _, _, 0, _ => by rw [List.take_zero, List.take_zero]; exact .nil
  | _, _, n + 1, .nil => .nil
  | _, _, n + 1, .cons h t => .cons h (dqAll_take n t)
theorem dqAll_drop : ∀ {xs : List V} {ds : List PyData} (n : Nat), DqAll H xs ds → DqAll H (xs.drop n) (ds.drop n)
  | _, _, 0, h => h
  | _, _, n + 1, .nil => .nil
  | _, _, n + 1, .cons h t => dqAll_drop n t
theorem dqAll_rev : ∀ {xs : List V} {ds : List PyData}, DqAll H xs ds → DqAll H xs.reverse ds.reverse
  | _, _, .nil => .nil
  | _, _, .cons h t => by
    rw [List.reverse_cons, List.reverse_cons]
    exact dqAll_app (dqAll_rev t) (.cons h .nil)
theorem dqAll_set : ∀ {xs : List V} {ds : List PyData} {v : V} {d : PyData} (n : Nat), DqAll H xs ds → Dq H v d → DqAll H (xs.set n v) (ds.set n d)
  | _, _, _, _, _, .nil, _ => .nil
  | _, _, _, _, 0, .cons _ t, h => .cons h t
  | _, _, _, _, n + 1, .cons g t, h => .cons g (dqAll_set n t h)
/-- t[:n] -/
theorem slTo_dq {n : Nat} (hp : NewOk B H) (h1 : Dq (outP B H) (.ref a) (.tuple ds)) (k : ∀ u H', Ext H H' → Dq (outP B H') (.ref u) (.tuple (ds.take n)) → Q (.ref u) H') : rSlA K (.ref a) none (some (n : Int)) H Q := by
  cases h1 with
  | tup e1 al1 =>
  rename_i xs
  have ll := all_len al1
  refine ⟨a, xs, rfl, SqT.of (outP_ext _ _ e1), fun w => ?_, fun _ u hu => ?_⟩
  · have h2 := w.2
    rw [HT.sIx_nat] at h2
    rw [List.take_of_length_le (by omega)] at k
    exact k a H Ext.rfl' (.tup e1 al1)
  · rw [cutTo (by omega), Int.toNat_natCast]
    obtain ⟨x1, f1⟩ := dq_new (u := .tup (xs.take n)) hp hu
    exact k u _ (ext_upd hu) (.tup f1 ((dqAll_take n al1).ext x1))
/-- t[n:] -/
theorem slFrom_dq {n : Nat} (hp : NewOk B H) (h1 : Dq (outP B H) (.ref a) (.tuple ds)) (k : ∀ u H', Ext H H' → Dq (outP B H') (.ref u) (.tuple (ds.drop n)) → Q (.ref u) H') : rSlA K (.ref a) (some (n : Int)) none H Q := by
  cases h1 with
  | tup e1 al1 =>
  rename_i xs
  have ll := all_len al1
  refine ⟨a, xs, rfl, SqT.of (outP_ext _ _ e1), fun w => ?_, fun _ u hu => ?_⟩
  · have h2 := w.1
    rw [HT.sIx_nat] at h2
    have h3 : ds.drop n = ds := by
      by_cases z : ds.length = 0
      · rw [List.length_eq_zero_iff.mp z, List.drop_nil]
      · rw [show n = 0 by omega, List.drop_zero]
    rw [h3] at k
    exact k a H Ext.rfl' (.tup e1 al1)
  · rw [cutFrom]
    obtain ⟨x1, f1⟩ := dq_new (u := .tup (xs.drop n)) hp hu
    exact k u _ (ext_upd hu) (.tup f1 ((dqAll_drop n al1).ext x1))
end
end L2.TP

/-! Layer c: an object made within a try. -/
namespace L2.TP
open PySem PySem.Spec PyProof.Rows
section
variable {X : Cx} {CX : CXT} {k : Nat} {f C : Addr} {fd : FuncData} {ps : List Str} {sp : Sp} {E : L2.St → XK} {x : Str} {p pos : Pos} {e : Expr} {es : List Expr} {t : TA}
def tMakeS (C : Addr) (sp : Sp) (E : L2.St → XK) (t : TA) : TE := fun σ H Q => t σ H fun vs H1 => ∀ x dx, H1 x = none → H1 dx = none → dx ≠ x →
  sp (.ref x :: vs) (upd (upd H1 dx (.own x)) x (.ins C dx [])) (fun v H2 => v = .non ∧ Q (.ref x) H2) (E σ)
theorem run_makeS {pins : List (Addr × Obj)} {σ : L2.St} {H : Hp} {s : Shared} {Q : VK} {us : List Value} {vs : List V} (M : Mk X.K C f) (F : FnOk X.prog X.w X.K X.mg X.base CX k f fd ps sp) (hr : Room (k + 1) X.A) (hb : Binds X.K fd ps [])
    (hx : PassesAt CX X σ (E σ)) (I : Inv X pins σ H s) (r : Vals vs us)
    (h : ∀ x dx, H x = none → H dx = none → dx ≠ x → sp (.ref x :: vs) (upd (upd H dx (.own x)) x (.ins C dx [])) (fun v H2 => v = .non ∧ Q (.ref x) H2) (E σ)) :
    wpAny (model X.prog X.w) X.A (call (.ref C) us) (EP X pins σ Q) X.xe s := by
  have hq := h (s.heap.objs.size + 1) s.heap.objs.size (I.hok.fresh (Nat.le_succ _)) (I.hok.fresh (Nat.le_refl _)) (Nat.ne_of_lt (Nat.lt_succ_self _))
  have I2 := Inv.made (C := C) I
  have r2 : Vals (V.ref (s.heap.objs.size + 1) :: vs) (Value.ref (s.heap.objs.size + 1) :: us) := .cons rfl r
  have hl : (Value.ref (s.heap.objs.size + 1) :: us ++ []).length = ps.length := by
    have e := r2.length
    rw [F.len _ _ _ _ hq] at e
    rw [List.append_nil]
    exact e.symm
  have hb' := hb { s with heap := _ } (Value.ref (s.heap.objs.size + 1) :: us) I2.kIn hl
  rw [List.append_nil] at hb'
  refine wpAny_call (make_map (f := f) I.kIn M.makes M.init (beq_iff_eq.mp M.fn) (codeAny_mono (F.run _ X.stack _ _ ⟨Value.ref (s.heap.objs.size + 1) :: us, []⟩ (Value.ref (s.heap.objs.size + 1) :: us) _ _ (E σ) (hr.make C us [])
    (I2.env0.make C us []) hb' r2 hq) fun r s' hq' => ?_))
  cases r with
  | error e => exact hx pins _ _ e s' I2 hq'
  | ok fl =>
    cases fl with
    | ret u =>
      obtain ⟨v, H', I3, rv, ev, q3⟩ := I2.after hq'
      subst ev
      exact ⟨rv, ⟨V.ref (s.heap.objs.size + 1), H', I3, rfl, q3⟩⟩
    | next => exact False.elim hq'
    | brk => exact False.elim hq'
    | cont => exact False.elim hq'
theorem pe_makeS (M : Mk X.K C f) (F : FnOk X.prog X.w X.K X.mg X.base CX k f fd ps sp) (hr : Room (k + 1) X.A) (hg : Gl X x) (hm : X.mg x = some (.ref C)) (hb : Binds X.K fd ps []) (hx : ∀ σ, PassesAt CX X σ (E σ))
    (ha : PA X (e :: es) t) (hdb : (x == ("__debug__" : Str)) = false := by decide) (he : starEach (e :: es) X.env = (false, eval e X.env) :: starEach es X.env := by rfl) (hpl : (backTo pos (starEach es X.env)).any (·.1) = false := by rfl) :
    PE X (.Call (.Name x p) (e :: es) [] pos) (tMakeS C sp E t) := by
  refine ⟨fun pins s σ H Q I h => ?_⟩
  refine wpAny_Call_Name_kw (ld_glob I hg hm ?_ hdb)
  refine PySem.W.callWith_K (h₀ := X.base) I.ok.mod.kin M.kp (thn (ha.run pos pins s σ H _ I h) fun us s1 ⟨vs, H1, I1, r, q⟩ => ⟨I1.kIn, ?_⟩) he hpl
  exact run_makeS M F hr hb (hx σ) I1 r q
end
end L2.TP

/-! Layer d: defaults that are objects of the text: an empty tuple. -/
namespace L2.TP
open PySem PySem.Spec PyProof.Rows
/-- the default of the keyword-only parameter x of the function at f, if it is an object -/
def kwAt (K : PySem.W.Frag) (f : Addr) (x : Str) : Addr := match K.lookup f with
  | some ⟨_, _, .func fd, _⟩ => (match fd.kwdefaults with
    | .ref D => (match PySem.W.nsIn K D x with
      | some (some (.ref a)) => a
      | _ => 0)
    | _ => 0)
  | _ => 0
def tupE (K : PySem.W.Frag) (a : Addr) : Bool := match K.lookup a with
  | some ⟨.type t, _, .seq its _, _⟩ => decide (t = "tuple") && its.isEmpty
  | _ => false
theorem tupE_ok {K : PySem.W.Frag} {a : Addr} {H : Hp} (h : tupE K a = true) : SqT K H a [] := by
  unfold tupE at h
  split at h
  · rename_i t dd its n sl ho
    obtain ⟨h1, h2⟩ := He.ba h
    have h1 := of_decide_eq_true h1
    subst h1
    have e := Array.isEmpty_iff.mp h2
    subst e
    exact .inr ⟨_, #[], n, ho, rfl, rfl, by decide, .nil⟩
  · cases h
theorem tupE_ty {K : PySem.W.Frag} {a : Addr} {H : Hp} (h : tupE K a = true) : TyX K H (.ref a) (.type "tuple") := by
  unfold tupE at h
  split at h
  · rename_i t dd its n sl ho
    obtain ⟨h1, h2⟩ := He.ba h
    have h1 := of_decide_eq_true h1
    subst h1
    exact .kTuple ho rfl
  · cases h
/-- a tuple, tracked or of the text -/
theorem sqT_ty {K : PySem.W.Frag} {a : Addr} {H : Hp} {xs : List V} (h : SqT K H a xs) : TyX K H (.ref a) (.type "tuple") := by
  rcases h with (h | ⟨o, h⟩) | ⟨o, its, n, hk, hc, _⟩
  · exact .base (.tup h)
  · exact .fTuple h
  · exact .kTuple hk hc
end L2.TP

/-! Layer e: tuples of tuples with the same things within (!= by identity), tuple(text). -/
namespace L2.TP
open PySem PySem.Spec PyProof.Rows L2
/-- a thing that is == to itself, by identity or as a flat value -/
def selfV : V → Bool
  | .ref _ => true
  | .non => true
  | .bl _ => true
  | .int _ => true
  | .str _ => true
  | _ => false
theorem eqAt_self {A : Around} {s : Shared} {x : V} {u v : Value} (rx : RelV x u) (ry : RelV x v) (h : selfV x = true) : SeqAt.EqAt A s u v true := by
  cases x with
  | ref a =>
    cases rx
    cases ry
    exact SeqAt.EqAt.same _
  | non => exact eqAt_V rx ry rfl rfl
  | bl b =>
    have := eqAt_V (A := A) (s := s) rx ry rfl rfl
    rw [show eqV (.bl b) (.bl b) = true from BEq.rfl] at this
    exact this
  | int b =>
    have := eqAt_V (A := A) (s := s) rx ry rfl rfl
    rw [show eqV (.int b) (.int b) = true from BEq.rfl] at this
    exact this
  | str b =>
    have := eqAt_V (A := A) (s := s) rx ry rfl rfl
    rw [show eqV (.str b) (.str b) = true from BEq.rfl] at this
    exact this
  | _ => cases h
section
variable {X : Cx}
/-- ((a, b, ..),) != ((a, b, ..),), the same things within -/
def rNeI (K : PySem.W.Frag) : R2 := fun x y H Q => ∃ (t1 t2 u1 u2 : Addr) (vs : List V), x = .ref t1 ∧ y = .ref t2 ∧ SqT K H t1 [.ref u1] ∧ SqT K H t2 [.ref u2] ∧ SqT K H u1 vs ∧ SqT K H u2 vs ∧ vs.all selfV = true ∧ Q (.bl false) H
theorem vals_get {xs : List V} {us ws : List Value} (r : Vals xs us) (r' : Vals xs ws) {j : Nat} (h1 : j < us.toArray.size) (h2 : j < ws.toArray.size) : ∃ x, xs[j]? = some x ∧ RelV x us.toArray[j] ∧ RelV x ws.toArray[j] := by
  induction r generalizing ws j with
  | nil => exact absurd h1 (Nat.not_lt_zero _)
  | cons a t ih =>
    cases r' with
    | cons b t' =>
      cases j with
      | zero => exact ⟨_, rfl, a, b⟩
      | succ j =>
        obtain ⟨x, e, h, k⟩ := ih t' (j := j) (by simpa using h1) (by simpa using h2)
        exact ⟨x, e, by simpa using h, by simpa using k⟩
theorem range_true (n : Nat) : (List.range n).all (fun _ => true) = true := by
  rw [List.all_eq_true]
  exact fun _ _ => rfl
theorem op_neI (hu : X.A.units + 64 < cLine) : OpR X (compareOp .NotEq) (rNeI X.K) := by
  intro pins s σ H x y v u Q I rx ry h
  obtain ⟨t1, t2, u1, u2, vs, rfl, rfl, h1, h2, k1, k2, hv, q⟩ := h
  cases rx
  cases ry
  obtain ⟨i1, r1, p1, _⟩ := I.tuple h1
  obtain ⟨i2, r2, p2, _⟩ := I.tuple h2
  obtain ⟨j1, s1, m1, _⟩ := I.tuple k1
  obtain ⟨j2, s2, m2, _⟩ := I.tuple k2
  obtain ⟨w1, rfl, e1⟩ := vals1 r1
  obtain ⟨w2, rfl, e2⟩ := vals1 r2
  cases e1
  cases e2
  have sz : j1.toArray.size = j2.toArray.size := by rw [List.size_toArray, List.size_toArray, ← s1.length, ← s2.length]
  have inner : ∀ A : Around, A.units < cLine → SeqAt.EqAt A s (.ref u1) (.ref u2) true := fun A hA => by
    by_cases c : u1 = u2
    · rw [c]
      exact SeqAt.EqAt.same _
    · have z := SeqAt.RcAt.tuples (A := A) (s := s) (e := fun _ => true) m1 m2 hA fun j a b => by
        obtain ⟨x, ex, ra, rb⟩ := vals_get s1 s2 a b
        exact eqAt_self ra rb (List.all_eq_true.mp hv x (List.mem_of_getElem? ex))
      rw [range_true, sz, Bool.true_and, BEq.rfl] at z
      exact SeqAt.EqAt.of_refs c z
  have z := SeqAt.RcNeAt.tuples (A := X.A) (s := s) (e := fun _ => true) p1 p2 (by omega) fun j a b => by
    have : j = 0 := by
      have : j < 1 := a
      omega
    subst this
    exact inner _ (by show X.A.units + 1 < cLine; omega)
  rw [range_true] at z
  exact z X.prog X.w X.xe _ ⟨.bl false, H, I, rfl, q⟩
theorem vals_at : ∀ {xs : List V} {us : List Value}, xs.length = us.length → (∀ (j : Nat) v w, xs[j]? = some v → us[j]? = some w → RelV v w) → Vals xs us
  | [], [], _, _ => .nil
  | x :: xs, u :: us, e, h => .cons (h 0 x u rfl rfl) (vals_at (by simpa using e) fun j v w hv hw => h (j + 1) v w (by simpa using hv) (by simpa using hw))
/-- the signs of a text, each as a text -/
def sgns (x : Str) : List V := x.cps.toList.map fun c => V.str ⟨#[c]⟩
theorem call_tuple_s (hc : X.calm = true) : CallR X (.type "tuple") (fun xs H Q => ∃ x : Str, xs = [.str x] ∧ x.cps.size ≤ sizeLine ∧ ∀ l, H l = none → Q (.ref l) (upd H l (.tup (sgns x)))) := by
  intro pins s σ H xs us Q I r h
  obtain ⟨x, rfl, sz, q⟩ := h
  obtain ⟨u, rfl, rx⟩ := vals1 r
  obtain ⟨t, rfl⟩ := rx
  refine call_tuple_str (hsz := sz) (I.ok.hd hc) x t fun h' tk acc kp hacc => ?_
  have I1 : Inv X pins σ H { s with heap := h', toks := tk } := I.kept kp
  have vs : Vals (sgns x) acc.toList := by
    refine vals_at (by unfold sgns; rw [List.length_map, Array.length_toList, Array.length_toList, hacc.1]) fun j v w hv hw => ?_
    obtain ⟨c, u, hcc, rfl⟩ := hacc.2 j w (by rw [← hw, Array.getElem?_toList])
    unfold sgns at hv
    rw [List.getElem?_map, Array.getElem?_toList, hcc] at hv
    cases hv
    exact ⟨u, rfl⟩
  have I2 : Inv X pins σ (upd H h'.objs.size (.tup (sgns x))) { s with heap := h'.push { cls := .type "tuple", data := .seq acc }, toks := tk } :=
    I1.laid (t' := tk) (fun b o e => Heap.get?_push_of_some _ e) (Nat.le_refl _) (show ObjOk X.prog X.w _ _ _ (.tup (sgns x)) from ⟨by unfold sgns; rw [List.length_map]; exact sz, acc.toList, vs, by simpa using IsTup.new _ _⟩)
  exact ⟨.ref h'.objs.size, _, I2, rfl, q _ (I1.hok.fresh (Nat.le_refl _))⟩
end
end L2.TP

/-! Layer f: a lambda as a value that is never called. -/
namespace L2.TP
open PySem PySem.Spec PyProof.Rows L2
section
variable {X : Cx}
def tLamE (T : List (Addr × Str)) : TE := fun _ H Q => LamX.Tabs T H ∧ ∀ (f : Addr) (H1 : Hp), LamX.ExtN H H1 → LamX.Tabs T H1 → Q (.ref f) H1
theorem pe_lamE {T : List (Addr × Str)} {c P : Addr} {params : Arguments} {body : Expr} {scope : Scope} {lpos : Pos} (TB : LamX.TabB X.base X.mg c P) (hcode : X.env.code = .ref c) (hm : (P, X.env.qual ++ "<lambda>") ∈ T) (hu : ∀ p ∈ T, p.1 = P → p.2 = X.env.qual ++ "<lambda>") (L : ∀ y ∈ scope.names, y.2 ≠ .free) (hdef : defaultsOf params X.env = ([], [])) :
    PE X (.Lambda params body scope lpos) (tLamE T) := by
  refine ⟨fun pins s σ H Q I h => ?_⟩
  obtain ⟨hT, h⟩ := h
  exact LamX.lam_make2 I TB hcode hm hu hT hdef (fun y hy e => absurd e (L y hy)) fun f c' pm ctv H1 s' I1 eN T1 _ _ _ _ => ⟨.ref f, H1, I1, rfl, h f H1 eN T1⟩
theorem call_list_s (hc : X.calm = true) : CallR X (.type "list") (fun xs H Q => ∃ x : Str, xs = [.str x] ∧ x.cps.size ≤ sizeLine ∧ ∀ l, H l = none → Q (.ref l) (upd H l (.lst (sgns x)))) := by
  intro pins s σ H xs us Q I r h
  obtain ⟨x, rfl, sz, q⟩ := h
  obtain ⟨u, rfl, rx⟩ := vals1 r
  obtain ⟨t, rfl⟩ := rx
  refine call_list_str (hn := sz) (I.ok.hd hc) x t fun h' tk acc c' kp e hacc => ?_
  have vs : Vals (sgns x) acc.toList := by
    refine vals_at (by unfold sgns; rw [List.length_map, Array.length_toList, Array.length_toList, hacc.1]) fun j v w hv hw => ?_
    obtain ⟨c, u, hcc, rfl⟩ := hacc.2 j w (by rw [← hw, Array.getElem?_toList])
    unfold sgns at hv
    rw [List.getElem?_map, Array.getElem?_toList, hcc] at hv
    cases hv
    exact ⟨u, rfl⟩
  exact ⟨.ref s.heap.objs.size, _, I.laid (t' := tk) kp (Nat.le_refl _) (show ObjOk X.prog X.w _ h' _ (.lst (sgns x)) from ⟨by unfold sgns; rw [List.length_map]; exact sz, acc.toList, c', vs, by simpa using e⟩), rfl, q _ (I.hok.fresh (Nat.le_refl _))⟩
end
/-! ### tuples of things beside the pot -/
section
variable {K : PySem.W.Frag} {G H : Hp} {p a b : Addr} {n : Nat} {xs ys : List V} {Q : VK}
theorem cat_w (w : WP G p n H) (h1 : G a = some (.tup xs)) (h2 : G b = some (.tup ys)) (hl : xs.length + ys.length ≤ 1000)
    (k : ∀ u G' H', Ext G G' → WP G' p n H' → G' u = some (.tup (xs ++ ys)) → Q (.ref u) H') : rCatA K (.ref a) (.ref b) H Q := by
  refine ⟨a, b, xs, ys, rfl, rfl, SqT.of (w.ext _ _ h1), SqT.of (w.ext _ _ h2), Nat.le_trans hl (by decide), fun z => ?_, fun _ z => ?_, fun _ _ u hu => ?_⟩
  · subst z
    exact k b G H Ext.rfl' w h2
  · subst z
    rw [List.append_nil] at k
    exact k a G H Ext.rfl' w h1
  · obtain ⟨G1, x1, f1, w1⟩ := w.newG (.tup (xs ++ ys)) hu
    exact k u G1 _ x1 w1 f1
theorem slTo_w {m : Nat} (w : WP G p n H) (h1 : G a = some (.tup xs)) (k : ∀ u G' H', Ext G G' → WP G' p n H' → G' u = some (.tup (xs.take m)) → Q (.ref u) H') : rSlA K (.ref a) none (some (m : Int)) H Q := by
  refine ⟨a, xs, rfl, SqT.of (w.ext _ _ h1), fun z => ?_, fun _ u hu => ?_⟩
  · have h2 := z.2
    rw [HT.sIx_nat] at h2
    rw [List.take_of_length_le (by omega)] at k
    exact k a G H Ext.rfl' w h1
  · rw [cutTo (by omega), Int.toNat_natCast]
    obtain ⟨G1, x1, f1, w1⟩ := w.newG (.tup (xs.take m)) hu
    exact k u G1 _ x1 w1 f1
theorem slFrom_w {m : Nat} (w : WP G p n H) (h1 : G a = some (.tup xs)) (k : ∀ u G' H', Ext G G' → WP G' p n H' → G' u = some (.tup (xs.drop m)) → Q (.ref u) H') : rSlA K (.ref a) (some (m : Int)) none H Q := by
  refine ⟨a, xs, rfl, SqT.of (w.ext _ _ h1), fun z => ?_, fun _ u hu => ?_⟩
  · have h2 := z.1
    rw [HT.sIx_nat] at h2
    have h3 : xs.drop m = xs := by
      by_cases z : xs.length = 0
      · rw [List.length_eq_zero_iff.mp z, List.drop_nil]
      · rw [show m = 0 by omega, List.drop_zero]
    rw [h3] at k
    exact k a G H Ext.rfl' w h1
  · rw [cutFrom]
    obtain ⟨G1, x1, f1, w1⟩ := w.newG (.tup (xs.drop m)) hu
    exact k u G1 _ x1 w1 f1
end
end L2.TP

/-! Layer g: x == x and x != x, x a tuple or a list of any things, or None. -/
namespace L2.TP
open PySem PySem.Spec PyProof.Rows L2
section
variable {X : Cx}
def SelfAt (K : PySem.W.Frag) (H : Hp) (x : V) : Prop := x = .non ∨ ∃ (a : Addr) (xs : List V), x = .ref a ∧ (SqT K H a xs ∨ SqL K H a xs)
def rEqS (K : PySem.W.Frag) : R2 := fun x y H Q => x = y ∧ SelfAt K H x ∧ Q (.bl true) H
def rNeS (K : PySem.W.Frag) : R2 := fun x y H Q => x = y ∧ (∃ (a : Addr) (xs : List V), x = .ref a ∧ SqT K H a xs) ∧ Q (.bl false) H
theorem op_eqS (hu : X.A.units + 64 < cLine) : OpR X (compareOp .Eq) (rEqS X.K) := by
  intro pins s σ H x y v u Q I rx ry h
  obtain ⟨rfl, h, q⟩ := h
  rcases h with rfl | ⟨a, xs, rfl, h⟩
  · exact op_eq pins s σ H _ _ v u Q I rx ry ⟨rfl, q⟩
  · cases rx
    cases ry
    rcases h with h | h
    · obtain ⟨its, r, pl, _⟩ := I.tuple h
      have z := SeqAt.RcAt.tuples (A := X.A) (s := s) (e := fun _ => true) pl pl (by omega) fun j b c => SeqAt.EqAt.same _
      rw [range_true, Bool.true_and, BEq.rfl] at z
      exact z X.prog X.w X.xe _ ⟨.bl true, H, I, rfl, q⟩
    · obtain ⟨its, r, pl, _⟩ := I.list h
      have z := SeqAt.RcAt.lists (A := X.A) (s := s) (e := fun _ => true) pl.isList pl.isList rfl (by omega) fun j b c => SeqAt.EqAt.same _
      rw [range_true] at z
      exact z X.prog X.w X.xe _ ⟨.bl true, H, I, rfl, q⟩
theorem op_neS (hu : X.A.units + 64 < cLine) : OpR X (compareOp .NotEq) (rNeS X.K) := by
  intro pins s σ H x y v u Q I rx ry h
  obtain ⟨rfl, ⟨a, xs, rfl, h⟩, q⟩ := h
  cases rx
  cases ry
  obtain ⟨its, r, pl, _⟩ := I.tuple h
  have z := SeqAt.RcNeAt.tuples (A := X.A) (s := s) (e := fun _ => true) pl pl (by omega) fun j b c => SeqAt.EqAt.same _
  rw [range_true, Bool.true_and, BEq.rfl] at z
  exact z X.prog X.w X.xe _ ⟨.bl false, H, I, rfl, q⟩
end
end L2.TP

namespace K25
open PySem PySem.Spec PyProof.Rows L2 L2.TP
def topS (i : Nat) : Stmt := PySem.Challenge.pw_tapedonce_k25_setups_refused.main.body.getD i (.Pass ⟨0, 0, 0, 0⟩)
abbrev s_is_integer : Stmt := topS 8
abbrev N_is_integer : List Str := ["value"]
theorem sc_is_integer : FnScope N_is_integer ["value"] (defScope s_is_integer) := ⟨rfl, rfl, rfl, by decide +kernel, rfl, by decide +kernel, by decide +kernel⟩
abbrev s_is_from : Stmt := topS 9
abbrev N_is_from : List Str := ["value", "low", "high"]
theorem sc_is_from : FnScope N_is_from ["value", "low", "high"] (defScope s_is_from) := ⟨rfl, rfl, rfl, by decide +kernel, rfl, by decide +kernel, by decide +kernel⟩
abbrev s_is_name : Stmt := topS 10
abbrev N_is_name : List Str := ["value", "sign"]
theorem sc_is_name : FnScope N_is_name ["value"] (defScope s_is_name) := ⟨rfl, rfl, rfl, by decide +kernel, rfl, by decide +kernel, by decide +kernel⟩
abbrev s_is_tuple : Stmt := topS 11
abbrev N_is_tuple : List Str := ["value", "many"]
theorem sc_is_tuple : FnScope N_is_tuple ["value", "many"] (defScope s_is_tuple) := ⟨rfl, rfl, rfl, by decide +kernel, rfl, by decide +kernel, by decide +kernel⟩
abbrev s_is_rising : Stmt := topS 12
abbrev N_is_rising : List Str := ["things", "one", "other"]
theorem sc_is_rising : FnScope N_is_rising ["things"] (defScope s_is_rising) := ⟨rfl, rfl, rfl, by decide +kernel, rfl, by decide +kernel, by decide +kernel⟩
abbrev s_are_names : Stmt := topS 13
abbrev N_are_names : List Str := ["value", "most", "one"]
theorem sc_are_names : FnScope N_are_names ["value", "most"] (defScope s_are_names) := ⟨rfl, rfl, rfl, by decide +kernel, rfl, by decide +kernel, by decide +kernel⟩
abbrev s_are_items : Stmt := topS 19
abbrev N_are_items : List Str := ["size", "most", "value", "one"]
theorem sc_are_items : FnScope N_are_items ["size", "most", "value"] (defScope s_are_items) := ⟨rfl, rfl, rfl, by decide +kernel, rfl, by decide +kernel, by decide +kernel⟩
abbrev s_is_worth : Stmt := topS 31
abbrev N_is_worth : List Str := ["size", "value"]
theorem sc_is_worth : FnScope N_is_worth ["size", "value"] (defScope s_is_worth) := ⟨rfl, rfl, rfl, by decide +kernel, rfl, by decide +kernel, by decide +kernel⟩
abbrev s_are_named : Stmt := topS 32
abbrev N_are_named : List Str := ["value", "most", "is_part", "name", "part", "pair"]
theorem sc_are_named : FnScope N_are_named ["value", "most", "is_part"] (defScope s_are_named) := ⟨rfl, rfl, rfl, by decide +kernel, rfl, by decide +kernel, by decide +kernel⟩
abbrev s_World___init__ : Stmt := inClass (topS 33) 0
abbrev N_World___init__ : List Str := ["self", "size", "most", "cells", "rows", "loose", "names", "name", "part"]
theorem sc_World___init__ : FnScope N_World___init__ ["self", "size", "most", "cells", "rows", "loose"] (defScope s_World___init__) := ⟨rfl, rfl, rfl, by decide +kernel, rfl, by decide +kernel, by decide +kernel⟩
abbrev s_World_size : Stmt := inClass (topS 33) 1
abbrev N_World_size : List Str := ["self"]
theorem sc_World_size : FnScope N_World_size ["self"] (defScope s_World_size) := ⟨rfl, rfl, rfl, by decide +kernel, rfl, by decide +kernel, by decide +kernel⟩
abbrev s_World_most : Stmt := inClass (topS 33) 2
abbrev N_World_most : List Str := ["self"]
theorem sc_World_most : FnScope N_World_most ["self"] (defScope s_World_most) := ⟨rfl, rfl, rfl, by decide +kernel, rfl, by decide +kernel, by decide +kernel⟩
abbrev s_World_cells : Stmt := inClass (topS 33) 3
abbrev N_World_cells : List Str := ["self"]
theorem sc_World_cells : FnScope N_World_cells ["self"] (defScope s_World_cells) := ⟨rfl, rfl, rfl, by decide +kernel, rfl, by decide +kernel, by decide +kernel⟩
abbrev s_World_rows : Stmt := inClass (topS 33) 4
abbrev N_World_rows : List Str := ["self"]
theorem sc_World_rows : FnScope N_World_rows ["self"] (defScope s_World_rows) := ⟨rfl, rfl, rfl, by decide +kernel, rfl, by decide +kernel, by decide +kernel⟩
abbrev s_World_loose : Stmt := inClass (topS 33) 5
abbrev N_World_loose : List Str := ["self"]
theorem sc_World_loose : FnScope N_World_loose ["self"] (defScope s_World_loose) := ⟨rfl, rfl, rfl, by decide +kernel, rfl, by decide +kernel, by decide +kernel⟩
abbrev s_World_first : Stmt := inClass (topS 33) 6
abbrev N_World_first : List Str := ["self", "name", "worth", "items"]
theorem sc_World_first : FnScope N_World_first ["self"] (defScope s_World_first) := ⟨rfl, rfl, rfl, by decide +kernel, rfl, by decide +kernel, by decide +kernel⟩
abbrev s_World_facts : Stmt := inClass (topS 33) 7
abbrev N_World_facts : List Str := ["self"]
theorem sc_World_facts : FnScope N_World_facts ["self"] (defScope s_World_facts) := ⟨rfl, rfl, rfl, by decide +kernel, rfl, by decide +kernel, by decide +kernel⟩
abbrev s_World___eq__ : Stmt := inClass (topS 33) 8
abbrev N_World___eq__ : List Str := ["self", "other"]
theorem sc_World___eq__ : FnScope N_World___eq__ ["self", "other"] (defScope s_World___eq__) := ⟨rfl, rfl, rfl, by decide +kernel, rfl, by decide +kernel, by decide +kernel⟩
abbrev s_are_kinds : Stmt := topS 34
abbrev N_are_kinds : List Str := ["world", "value", "most", "kinds", "kind"]
theorem sc_are_kinds : FnScope N_are_kinds ["world", "value", "most"] (defScope s_are_kinds) := ⟨rfl, rfl, rfl, by decide +kernel, rfl, by decide +kernel, by decide +kernel⟩
abbrev s_are_works : Stmt := topS 35
abbrev N_are_works : List Str := ["world", "value", "work"]
theorem sc_are_works : FnScope N_are_works ["world", "value"] (defScope s_are_works) := ⟨rfl, rfl, rfl, by decide +kernel, rfl, by decide +kernel, by decide +kernel⟩
abbrev s_Setup___init__ : Stmt := inClass (topS 36) 0
abbrev N_Setup___init__ : List Str := ["self", "world", "works", "room"]
theorem sc_Setup___init__ : FnScope N_Setup___init__ ["self", "world", "works", "room"] (defScope s_Setup___init__) := ⟨rfl, rfl, rfl, by decide +kernel, rfl, by decide +kernel, by decide +kernel⟩
abbrev s_Setup_world : Stmt := inClass (topS 36) 1
abbrev N_Setup_world : List Str := ["self"]
theorem sc_Setup_world : FnScope N_Setup_world ["self"] (defScope s_Setup_world) := ⟨rfl, rfl, rfl, by decide +kernel, rfl, by decide +kernel, by decide +kernel⟩
abbrev s_Setup_works : Stmt := inClass (topS 36) 2
abbrev N_Setup_works : List Str := ["self"]
theorem sc_Setup_works : FnScope N_Setup_works ["self"] (defScope s_Setup_works) := ⟨rfl, rfl, rfl, by decide +kernel, rfl, by decide +kernel, by decide +kernel⟩
abbrev s_Setup_places : Stmt := inClass (topS 36) 3
abbrev N_Setup_places : List Str := ["self"]
theorem sc_Setup_places : FnScope N_Setup_places ["self"] (defScope s_Setup_places) := ⟨rfl, rfl, rfl, by decide +kernel, rfl, by decide +kernel, by decide +kernel⟩
abbrev s__law_pot : Stmt := topS 38
abbrev N__law_pot : List Str := ["_law_script", "_law_k", "_law_cell", "_law_figures"]
theorem sc__law_pot : FnScope N__law_pot ["_law_script", "_law_k"] (defScope s__law_pot) := ⟨rfl, rfl, rfl, by decide +kernel, rfl, by decide +kernel, by decide +kernel⟩
abbrev s__law_take : Stmt := topS 39
abbrev N__law_take : List Str := ["_law_pot_here", "_law_many", "_law_digit", "_law_prime", "_law_mixed"]
theorem sc__law_take : FnScope N__law_take ["_law_pot_here", "_law_many"] (defScope s__law_take) := ⟨rfl, rfl, rfl, by decide +kernel, rfl, by decide +kernel, by decide +kernel⟩
abbrev s__law_of : Stmt := topS 40
abbrev N__law_of : List Str := ["_law_pot_here", "_law_some_here"]
theorem sc__law_of : FnScope N__law_of ["_law_pot_here", "_law_some_here"] (defScope s__law_of) := ⟨rfl, rfl, rfl, by decide +kernel, rfl, by decide +kernel, by decide +kernel⟩
abbrev s__law_is_name : Stmt := topS 41
abbrev N__law_is_name : List Str := ["_law_value", "_law_sign"]
theorem sc__law_is_name : FnScope N__law_is_name ["_law_value"] (defScope s__law_is_name) := ⟨rfl, rfl, rfl, by decide +kernel, rfl, by decide +kernel, by decide +kernel⟩
abbrev s__law_are_rising : Stmt := topS 42
abbrev N__law_are_rising : List Str := ["_law_names", "_law_at"]
theorem sc__law_are_rising : FnScope N__law_are_rising ["_law_names"] (defScope s__law_are_rising) := ⟨rfl, rfl, rfl, by decide +kernel, rfl, by decide +kernel, by decide +kernel⟩
abbrev s__law_items : Stmt := topS 43
abbrev N__law_items : List Str := ["_law_pot_here", "_law_size", "_law_most", "_law_lap"]
theorem sc__law_items : FnScope N__law_items ["_law_pot_here", "_law_size", "_law_most"] (defScope s__law_items) := ⟨rfl, rfl, rfl, by decide +kernel, rfl, by decide +kernel, by decide +kernel⟩
abbrev s__law_some : Stmt := topS 44
abbrev N__law_some : List Str := ["_law_pot_here", "_law_names", "_law_many", "_law_found", "_law_name"]
theorem sc__law_some : FnScope N__law_some ["_law_pot_here", "_law_names", "_law_many"] (defScope s__law_some) := ⟨rfl, rfl, rfl, by decide +kernel, rfl, by decide +kernel, by decide +kernel⟩
abbrev s__law_lore : Stmt := topS 45
abbrev N__law_lore : List Str := ["_law_pot_here", "_law_sizes", "_law_upto", "_law_size", "_law_most", "_law_names", "_law_some_here", "_law_held", "_law_cells", "_law_rows", "_law_name"]
theorem sc__law_lore : FnScope N__law_lore ["_law_pot_here", "_law_sizes", "_law_upto"] (defScope s__law_lore) := ⟨rfl, rfl, rfl, by decide +kernel, rfl, by decide +kernel, by decide +kernel⟩
abbrev s__law_world : Stmt := topS 46
abbrev N__law_world : List Str := ["_law_lore_here"]
theorem sc__law_world : FnScope N__law_world ["_law_lore_here"] (defScope s__law_world) := ⟨rfl, rfl, rfl, by decide +kernel, rfl, by decide +kernel, by decide +kernel⟩
abbrev s__law_is_from : Stmt := topS 47
abbrev N__law_is_from : List Str := ["_law_value", "_law_low", "_law_high"]
theorem sc__law_is_from : FnScope N__law_is_from ["_law_value", "_law_low", "_law_high"] (defScope s__law_is_from) := ⟨rfl, rfl, rfl, by decide +kernel, rfl, by decide +kernel, by decide +kernel⟩
abbrev s__law_are_works : Stmt := topS 48
abbrev N__law_are_works : List Str := ["_law_value", "_law_has_rows", "_law_letters", "_law_work", "_law_letter"]
theorem sc__law_are_works : FnScope N__law_are_works ["_law_value", "_law_has_rows"] (defScope s__law_are_works) := ⟨rfl, rfl, rfl, by decide +kernel, rfl, by decide +kernel, by decide +kernel⟩
abbrev s__law_work_triple : Stmt := topS 49
abbrev N__law_work_triple : List Str := ["_law_pot_here", "_law_name", "_law_has_rows", "_law_thing", "_law_letters", "_law_turn"]
theorem sc__law_work_triple : FnScope N__law_work_triple ["_law_pot_here", "_law_name", "_law_has_rows"] (defScope s__law_work_triple) := ⟨rfl, rfl, rfl, by decide +kernel, rfl, by decide +kernel, by decide +kernel⟩
abbrev s__law_bent_works : Stmt := topS 50
abbrev N__law_bent_works : List Str := ["_law_pot_here", "_law_works", "_law_at", "_law_name", "_law_thing", "_law_kinds", "_law_some_here", "_law_bent"]
theorem sc__law_bent_works : FnScope N__law_bent_works ["_law_pot_here", "_law_works"] (defScope s__law_bent_works) := ⟨rfl, rfl, rfl, by decide +kernel, rfl, by decide +kernel, by decide +kernel⟩
abbrev s__law_told : Stmt := topS 51
abbrev N__law_told : List Str := ["_law_world_here", "_law_works", "_law_room", "_law_told_here", "_law_caught", "error"]
theorem sc__law_told : FnScope N__law_told ["_law_world_here", "_law_works", "_law_room"] (defScope s__law_told) := ⟨rfl, rfl, rfl, by decide +kernel, rfl, by decide +kernel, by decide +kernel⟩
abbrev s__law_right : Stmt := topS 52
abbrev N__law_right : List Str := ["_law_pot_here", "_law_lore_here", "_law_names", "_law_works", "_law_room", "_law_world_here", "_law_told_here", "_law_name"]
theorem sc__law_right : FnScope N__law_right ["_law_pot_here"] (defScope s__law_right) := ⟨rfl, rfl, rfl, by decide +kernel, rfl, by decide +kernel, by decide +kernel⟩
abbrev s_law : Stmt := topS 53
abbrev N_law : List Str := ["_law_script", "_law_k", "_law_pot_here", "_law_turn"]
theorem sc_law : FnScope N_law ["_law_script"] (defScope s_law) := ⟨rfl, rfl, rfl, by decide +kernel, rfl, by decide +kernel, by decide +kernel⟩
structure Tx (P : Program) (K : PySem.W.Frag) (mg : Str → Option Value) where
  mods : K.lookup sysModules = none
  C_World : Addr
  World_mg : mg "World" = some (.ref C_World)
  World_cl : Cls K C_World
  World_ty : (PySem.W.clsIn K C_World).isSome = true ∧ PySem.W.typeIn K (.ref C_World) = some (.type "type")
  C_Setup : Addr
  Setup_mg : mg "Setup" = some (.ref C_Setup)
  Setup_cl : Cls K C_Setup
  Setup_ty : (PySem.W.clsIn K C_Setup).isSome = true ∧ PySem.W.typeIn K (.ref C_Setup) = some (.type "type")
  C_BadWorld : Addr
  BadWorld_mg : mg "BadWorld" = some (.ref C_BadWorld)
  C_BadSetup : Addr
  BadSetup_mg : mg "BadSetup" = some (.ref C_BadSetup)
  C_TapeError : Addr
  TapeError_mg : mg "TapeError" = some (.ref C_TapeError)
  TapeError_ex : ∀ D : Addr, ∀ b : Bool, PySem.W.subIn K (.ref D) (.ref C_TapeError) = some b → PySem.W.exmOne K (.ref D) (.ref C_TapeError) = some b
  TapeError_ki : ∀ D : Addr, PySem.W.subIn K (.ref D) (.ref C_TapeError) = some true → PySem.W.kitOne K (.ref D) (.ref C_TapeError) = some true
  F_is_integer : Addr
  fd_is_integer : FuncData
  is_integer_ok : Fun K "is_integer" "is_integer" s_is_integer F_is_integer fd_is_integer
  b_is_integer : Binds K fd_is_integer ["value"] []
  is_integer_mg : mg "is_integer" = some (.ref F_is_integer)
  F_is_from : Addr
  fd_is_from : FuncData
  is_from_ok : Fun K "is_from" "is_from" s_is_from F_is_from fd_is_from
  b_is_from : Binds K fd_is_from ["value", "low", "high"] []
  is_from_mg : mg "is_from" = some (.ref F_is_from)
  F_is_name : Addr
  fd_is_name : FuncData
  is_name_ok : Fun K "is_name" "is_name" s_is_name F_is_name fd_is_name
  b_is_name : Binds K fd_is_name ["value"] []
  is_name_mg : mg "is_name" = some (.ref F_is_name)
  F_is_tuple : Addr
  fd_is_tuple : FuncData
  is_tuple_ok : Fun K "is_tuple" "is_tuple" s_is_tuple F_is_tuple fd_is_tuple
  b_is_tuple : Binds K fd_is_tuple ["value", "many"] []
  is_tuple_mg : mg "is_tuple" = some (.ref F_is_tuple)
  F_is_rising : Addr
  fd_is_rising : FuncData
  is_rising_ok : Fun K "is_rising" "is_rising" s_is_rising F_is_rising fd_is_rising
  b_is_rising : Binds K fd_is_rising ["things"] []
  is_rising_mg : mg "is_rising" = some (.ref F_is_rising)
  F_are_names : Addr
  fd_are_names : FuncData
  are_names_ok : Fun K "are_names" "are_names" s_are_names F_are_names fd_are_names
  b_are_names : Binds K fd_are_names ["value", "most"] []
  are_names_mg : mg "are_names" = some (.ref F_are_names)
  F_are_items : Addr
  fd_are_items : FuncData
  are_items_ok : Fun K "are_items" "are_items" s_are_items F_are_items fd_are_items
  b_are_items : Binds K fd_are_items ["size", "most", "value"] []
  are_items_mg : mg "are_items" = some (.ref F_are_items)
  F_is_worth : Addr
  fd_is_worth : FuncData
  is_worth_ok : Fun K "is_worth" "is_worth" s_is_worth F_is_worth fd_is_worth
  b_is_worth : Binds K fd_is_worth ["size", "value"] []
  is_worth_mg : mg "is_worth" = some (.ref F_is_worth)
  F_are_named : Addr
  fd_are_named : FuncData
  are_named_ok : Fun K "are_named" "are_named" s_are_named F_are_named fd_are_named
  b_are_named : Binds K fd_are_named ["value", "most", "is_part"] []
  are_named_mg : mg "are_named" = some (.ref F_are_named)
  F_World___init__ : Addr
  fd_World___init__ : FuncData
  World___init___ok : FunD K "__init__" "World.__init__" (defArgs s_World___init__) (defBody s_World___init__) (defScope s_World___init__) [.ref (He.dflAt ("World", some "__init__") 0 K)] [] F_World___init__ fd_World___init__
  b_World___init__ : Binds K fd_World___init__ ["self", "size", "most", "cells", "rows", "loose"] []
  at_World___init__ : F_World___init__ = (He.ma K (He.ga K "World") "__init__")
  cd_World___init__ : ∃ (oc : Value) (od : Option Addr) (dV kV dc pm : Value) (an : Option Addr) (ct : Value) (sl : Array (Option Value)), fd_World___init__ = PySem.W.fnOf "__init__" "World.__init__" (defArgs s_World___init__) (defBody s_World___init__) (defScope s_World___init__) dV kV dc pm an (.ref (tbOf K F_World___init__).1) ct ∧ K.lookup F_World___init__ = some ⟨oc, od, .func fd_World___init__, sl⟩ ∧ PySem.W.codeIn K (.ref (tbOf K F_World___init__).1) "World.__init__" = true
  World___init___sl : SlotF K C_World "__init__" F_World___init__
  World_mk : Mk K C_World F_World___init__
  F_World_size : Addr
  fd_World_size : FuncData
  World_size_ok : Fun K "size" "World.size" s_World_size F_World_size fd_World_size
  b_World_size : Binds K fd_World_size ["self"] []
  pr_World_size : Addr
  World_size_pr : PropOf K C_World "size" pr_World_size F_World_size
  F_World_most : Addr
  fd_World_most : FuncData
  World_most_ok : Fun K "most" "World.most" s_World_most F_World_most fd_World_most
  b_World_most : Binds K fd_World_most ["self"] []
  pr_World_most : Addr
  World_most_pr : PropOf K C_World "most" pr_World_most F_World_most
  F_World_cells : Addr
  fd_World_cells : FuncData
  World_cells_ok : Fun K "cells" "World.cells" s_World_cells F_World_cells fd_World_cells
  b_World_cells : Binds K fd_World_cells ["self"] []
  pr_World_cells : Addr
  World_cells_pr : PropOf K C_World "cells" pr_World_cells F_World_cells
  F_World_rows : Addr
  fd_World_rows : FuncData
  World_rows_ok : Fun K "rows" "World.rows" s_World_rows F_World_rows fd_World_rows
  b_World_rows : Binds K fd_World_rows ["self"] []
  pr_World_rows : Addr
  World_rows_pr : PropOf K C_World "rows" pr_World_rows F_World_rows
  F_World_loose : Addr
  fd_World_loose : FuncData
  World_loose_ok : Fun K "loose" "World.loose" s_World_loose F_World_loose fd_World_loose
  b_World_loose : Binds K fd_World_loose ["self"] []
  pr_World_loose : Addr
  World_loose_pr : PropOf K C_World "loose" pr_World_loose F_World_loose
  F_World_first : Addr
  fd_World_first : FuncData
  World_first_ok : Fun K "first" "World.first" s_World_first F_World_first fd_World_first
  b_World_first : Binds K fd_World_first ["self"] []
  pr_World_first : Addr
  World_first_pr : PropOf K C_World "first" pr_World_first F_World_first
  F_World_facts : Addr
  fd_World_facts : FuncData
  World_facts_ok : Fun K "facts" "World.facts" s_World_facts F_World_facts fd_World_facts
  b_World_facts : Binds K fd_World_facts ["self"] []
  World_facts_sl : SlotF K C_World "facts" F_World_facts
  F_World___eq__ : Addr
  fd_World___eq__ : FuncData
  World___eq___ok : Fun K "__eq__" "World.__eq__" s_World___eq__ F_World___eq__ fd_World___eq__
  b_World___eq__ : Binds K fd_World___eq__ ["self", "other"] []
  World___eq___sl : SlotF K C_World "__eq__" F_World___eq__
  F_are_kinds : Addr
  fd_are_kinds : FuncData
  are_kinds_ok : Fun K "are_kinds" "are_kinds" s_are_kinds F_are_kinds fd_are_kinds
  b_are_kinds : Binds K fd_are_kinds ["world", "value", "most"] []
  are_kinds_mg : mg "are_kinds" = some (.ref F_are_kinds)
  F_are_works : Addr
  fd_are_works : FuncData
  are_works_ok : Fun K "are_works" "are_works" s_are_works F_are_works fd_are_works
  b_are_works : Binds K fd_are_works ["world", "value"] []
  are_works_mg : mg "are_works" = some (.ref F_are_works)
  F_Setup___init__ : Addr
  fd_Setup___init__ : FuncData
  Setup___init___ok : Fun K "__init__" "Setup.__init__" s_Setup___init__ F_Setup___init__ fd_Setup___init__
  b_Setup___init__ : Binds K fd_Setup___init__ ["self", "world", "works", "room"] []
  Setup___init___sl : SlotF K C_Setup "__init__" F_Setup___init__
  Setup_mk : Mk K C_Setup F_Setup___init__
  F_Setup_world : Addr
  fd_Setup_world : FuncData
  Setup_world_ok : Fun K "world" "Setup.world" s_Setup_world F_Setup_world fd_Setup_world
  b_Setup_world : Binds K fd_Setup_world ["self"] []
  pr_Setup_world : Addr
  Setup_world_pr : PropOf K C_Setup "world" pr_Setup_world F_Setup_world
  F_Setup_works : Addr
  fd_Setup_works : FuncData
  Setup_works_ok : Fun K "works" "Setup.works" s_Setup_works F_Setup_works fd_Setup_works
  b_Setup_works : Binds K fd_Setup_works ["self"] []
  pr_Setup_works : Addr
  Setup_works_pr : PropOf K C_Setup "works" pr_Setup_works F_Setup_works
  F_Setup_places : Addr
  fd_Setup_places : FuncData
  Setup_places_ok : Fun K "places" "Setup.places" s_Setup_places F_Setup_places fd_Setup_places
  b_Setup_places : Binds K fd_Setup_places ["self"] []
  pr_Setup_places : Addr
  Setup_places_pr : PropOf K C_Setup "places" pr_Setup_places F_Setup_places
  F__law_pot : Addr
  fd__law_pot : FuncData
  _law_pot_ok : Fun K "_law_pot" "_law_pot" s__law_pot F__law_pot fd__law_pot
  b__law_pot : Binds K fd__law_pot ["_law_script", "_law_k"] []
  _law_pot_mg : mg "_law_pot" = some (.ref F__law_pot)
  F__law_take : Addr
  fd__law_take : FuncData
  _law_take_ok : Fun K "_law_take" "_law_take" s__law_take F__law_take fd__law_take
  b__law_take : Binds K fd__law_take ["_law_pot_here", "_law_many"] []
  _law_take_mg : mg "_law_take" = some (.ref F__law_take)
  F__law_of : Addr
  fd__law_of : FuncData
  _law_of_ok : Fun K "_law_of" "_law_of" s__law_of F__law_of fd__law_of
  b__law_of : Binds K fd__law_of ["_law_pot_here", "_law_some_here"] []
  _law_of_mg : mg "_law_of" = some (.ref F__law_of)
  F__law_is_name : Addr
  fd__law_is_name : FuncData
  _law_is_name_ok : Fun K "_law_is_name" "_law_is_name" s__law_is_name F__law_is_name fd__law_is_name
  b__law_is_name : Binds K fd__law_is_name ["_law_value"] []
  _law_is_name_mg : mg "_law_is_name" = some (.ref F__law_is_name)
  F__law_are_rising : Addr
  fd__law_are_rising : FuncData
  _law_are_rising_ok : Fun K "_law_are_rising" "_law_are_rising" s__law_are_rising F__law_are_rising fd__law_are_rising
  b__law_are_rising : Binds K fd__law_are_rising ["_law_names"] []
  _law_are_rising_mg : mg "_law_are_rising" = some (.ref F__law_are_rising)
  F__law_items : Addr
  fd__law_items : FuncData
  _law_items_ok : Fun K "_law_items" "_law_items" s__law_items F__law_items fd__law_items
  b__law_items : Binds K fd__law_items ["_law_pot_here", "_law_size", "_law_most"] []
  _law_items_mg : mg "_law_items" = some (.ref F__law_items)
  F__law_some : Addr
  fd__law_some : FuncData
  _law_some_ok : Fun K "_law_some" "_law_some" s__law_some F__law_some fd__law_some
  b__law_some : Binds K fd__law_some ["_law_pot_here", "_law_names", "_law_many"] []
  _law_some_mg : mg "_law_some" = some (.ref F__law_some)
  F__law_lore : Addr
  fd__law_lore : FuncData
  _law_lore_ok : Fun K "_law_lore" "_law_lore" s__law_lore F__law_lore fd__law_lore
  b__law_lore : Binds K fd__law_lore ["_law_pot_here", "_law_sizes", "_law_upto"] []
  _law_lore_mg : mg "_law_lore" = some (.ref F__law_lore)
  F__law_world : Addr
  fd__law_world : FuncData
  _law_world_ok : Fun K "_law_world" "_law_world" s__law_world F__law_world fd__law_world
  b__law_world : Binds K fd__law_world ["_law_lore_here"] []
  _law_world_mg : mg "_law_world" = some (.ref F__law_world)
  F__law_is_from : Addr
  fd__law_is_from : FuncData
  _law_is_from_ok : Fun K "_law_is_from" "_law_is_from" s__law_is_from F__law_is_from fd__law_is_from
  b__law_is_from : Binds K fd__law_is_from ["_law_value", "_law_low", "_law_high"] []
  _law_is_from_mg : mg "_law_is_from" = some (.ref F__law_is_from)
  F__law_are_works : Addr
  fd__law_are_works : FuncData
  _law_are_works_ok : Fun K "_law_are_works" "_law_are_works" s__law_are_works F__law_are_works fd__law_are_works
  b__law_are_works : Binds K fd__law_are_works ["_law_value", "_law_has_rows"] []
  _law_are_works_mg : mg "_law_are_works" = some (.ref F__law_are_works)
  F__law_work_triple : Addr
  fd__law_work_triple : FuncData
  _law_work_triple_ok : Fun K "_law_work_triple" "_law_work_triple" s__law_work_triple F__law_work_triple fd__law_work_triple
  b__law_work_triple : Binds K fd__law_work_triple ["_law_pot_here", "_law_name", "_law_has_rows"] []
  at__law_work_triple : F__law_work_triple = (He.ga K "_law_work_triple")
  cd__law_work_triple : ∃ (oc : Value) (od : Option Addr) (dV kV dc pm : Value) (an : Option Addr) (ct : Value) (sl : Array (Option Value)), fd__law_work_triple = PySem.W.fnOf "_law_work_triple" "_law_work_triple" (defArgs s__law_work_triple) (defBody s__law_work_triple) (defScope s__law_work_triple) dV kV dc pm an (.ref (tbOf K F__law_work_triple).1) ct ∧ K.lookup F__law_work_triple = some ⟨oc, od, .func fd__law_work_triple, sl⟩ ∧ PySem.W.codeIn K (.ref (tbOf K F__law_work_triple).1) "_law_work_triple" = true
  _law_work_triple_mg : mg "_law_work_triple" = some (.ref F__law_work_triple)
  F__law_bent_works : Addr
  fd__law_bent_works : FuncData
  _law_bent_works_ok : Fun K "_law_bent_works" "_law_bent_works" s__law_bent_works F__law_bent_works fd__law_bent_works
  b__law_bent_works : Binds K fd__law_bent_works ["_law_pot_here", "_law_works"] []
  _law_bent_works_mg : mg "_law_bent_works" = some (.ref F__law_bent_works)
  F__law_told : Addr
  fd__law_told : FuncData
  _law_told_ok : Fun K "_law_told" "_law_told" s__law_told F__law_told fd__law_told
  b__law_told : Binds K fd__law_told ["_law_world_here", "_law_works", "_law_room"] []
  _law_told_mg : mg "_law_told" = some (.ref F__law_told)
  F__law_right : Addr
  fd__law_right : FuncData
  _law_right_ok : Fun K "_law_right" "_law_right" s__law_right F__law_right fd__law_right
  b__law_right : Binds K fd__law_right ["_law_pot_here"] []
  _law_right_mg : mg "_law_right" = some (.ref F__law_right)
  F_law : Addr
  fd_law : FuncData
  law_ok : Fun K "law" "law" s_law F_law fd_law
  b_law : Binds K fd_law ["_law_script"] []
  law_mg : mg "law" = some (.ref F_law)
  BadWorld_ev : ErrV P K mg "BadWorld" "value" ["value"] [] C_TapeError C_BadWorld
  BadSetup_ev : ErrV P K mg "BadSetup" "value" ["value"] [] C_TapeError C_BadSetup
  b_int : mg "int" = none
  b_bool : mg "bool" = none
  b_str : mg "str" = none
  b_tuple : mg "tuple" = none
  b_list : mg "list" = none
  b_abs : mg "abs" = none
  b_len : mg "len" = none
  b_isinstance : mg "isinstance" = none
  b_repr : mg "repr" = none
  b_all : mg "all" = none
  b_any : mg "any" = none
  b_range : mg "range" = none
  b_zip : mg "zip" = none
  b_max : mg "max" = none
  b_min : mg "min" = none
  b_ValueError : mg "ValueError" = none
  tk_LETTERS : Tok
  k_LETTERS : mg "LETTERS" = some (.str "abcdefghijklmnopqrstuvwxyz" tk_LETTERS)
  tk_MOST_LETTERS : Tok
  k_MOST_LETTERS : mg "MOST_LETTERS" = some (.int 8 tk_MOST_LETTERS)
  tk_LEAST_SIZE : Tok
  k_LEAST_SIZE : mg "LEAST_SIZE" = some (.int 2 tk_LEAST_SIZE)
  tk_MOST_SIZE : Tok
  k_MOST_SIZE : mg "MOST_SIZE" = some (.int 4 tk_MOST_SIZE)
  tk_LEAST_MOST : Tok
  k_LEAST_MOST : mg "LEAST_MOST" = some (.int 1 tk_LEAST_MOST)
  tk_GREATEST_MOST : Tok
  k_GREATEST_MOST : mg "GREATEST_MOST" = some (.int 2 tk_GREATEST_MOST)
  tk_MOST_CELLS : Tok
  k_MOST_CELLS : mg "MOST_CELLS" = some (.int 2 tk_MOST_CELLS)
  tk_MOST_ROWS : Tok
  k_MOST_ROWS : mg "MOST_ROWS" = some (.int 2 tk_MOST_ROWS)
  tk_MOST_WORKS : Tok
  k_MOST_WORKS : mg "MOST_WORKS" = some (.int 3 tk_MOST_WORKS)
  tk_MOST_KINDS : Tok
  k_MOST_KINDS : mg "MOST_KINDS" = some (.int 3 tk_MOST_KINDS)
  tk_LEAST_ROOM : Tok
  k_LEAST_ROOM : mg "LEAST_ROOM" = some (.int 1 tk_LEAST_ROOM)
  tk_MOST_ROOM : Tok
  k_MOST_ROOM : mg "MOST_ROOM" = some (.int 2 tk_MOST_ROOM)
  tk_NUMBER_KIND : Tok
  k_NUMBER_KIND : mg "NUMBER_KIND" = some (.str "n" tk_NUMBER_KIND)
  tk_ROW_KIND : Tok
  k_ROW_KIND : mg "ROW_KIND" = some (.str "r" tk_ROW_KIND)
  tk_PAIR : Tok
  k_PAIR : mg "PAIR" = some (.int 2 tk_PAIR)
  tk_TRIPLE : Tok
  k_TRIPLE : mg "TRIPLE" = some (.int 3 tk_TRIPLE)
  x_Worldcc : PySem.W.findIn K (.ref C_World) "__class__" = some (some (.builtin "object.__class__"))
  x_Worldcm : PySem.W.mroIn K C_World (.type "object") = some true
  x_Setupcc : PySem.W.findIn K (.ref C_Setup) "__class__" = some (some (.builtin "object.__class__"))
  x_Setupcm : PySem.W.mroIn K C_Setup (.type "object") = some true
  x_n_size : PySem.W.findIn K (.ref C_World) "own_size" = some none
  x_n_most : PySem.W.findIn K (.ref C_World) "own_most" = some none
  x_n_cells : PySem.W.findIn K (.ref C_World) "own_cells" = some none
  x_n_rows : PySem.W.findIn K (.ref C_World) "own_rows" = some none
  x_n_loose : PySem.W.findIn K (.ref C_World) "own_loose" = some none
  x_m_world : PySem.W.findIn K (.ref C_Setup) "own_world" = some none
  x_m_works : PySem.W.findIn K (.ref C_Setup) "own_works" = some none
  x_m_room : PySem.W.findIn K (.ref C_Setup) "own_room" = some none
  x_cg : PySem.W.specialIn K (.builtin "object.__class__") "__get__" = some (some (.builtin "getset_descriptor.__get__"))
  x_ct : PySem.W.takesIn K (.builtin "object.__class__") = some true
  x_kBS : PySem.W.kitOne K (.ref C_BadSetup) (.ref C_BadSetup) = some true
  x_wne : PySem.W.findIn K (.ref C_World) "__ne__" = some (some (.builtin "object.__ne__"))
  x_wob : PySem.W.subIn K (.ref C_World) (.type "object") = some true
  x_wss : PySem.W.subIn K (.ref C_World) (.ref C_World) = some true
  x_lamne : (tbOf K (He.ga K "_law_work_triple")).2 ≠ (tbOf K (He.ma K (He.ga K "World") "__init__")).2
def FILE : Str := PySem.Challenge.pw_tapedonce_k25_setups_refused.main.file
def chk : List (PySem.W.Frag → Bool) := [
  fun K => errsB K,
  fun K => (K.lookup sysModules).isNone,
  fun K => clB K "World",
  fun K => clB K "Setup",
  fun K => ercB K "BadWorld",
  fun K => ercB K "BadSetup",
  fun K => fnB K (He.ga K "is_integer") "is_integer" [] [],
  fun K => He.eqO (PySem.W.nsIn K mainGlobals "is_integer") (some (some (.ref (He.ga K "is_integer")))),
  fun K => fnB K (He.ga K "is_from") "is_from" [] [],
  fun K => He.eqO (PySem.W.nsIn K mainGlobals "is_from") (some (some (.ref (He.ga K "is_from")))),
  fun K => fnB K (He.ga K "is_name") "is_name" [] [],
  fun K => He.eqO (PySem.W.nsIn K mainGlobals "is_name") (some (some (.ref (He.ga K "is_name")))),
  fun K => fnB K (He.ga K "is_tuple") "is_tuple" [] [],
  fun K => He.eqO (PySem.W.nsIn K mainGlobals "is_tuple") (some (some (.ref (He.ga K "is_tuple")))),
  fun K => fnB K (He.ga K "is_rising") "is_rising" [] [],
  fun K => He.eqO (PySem.W.nsIn K mainGlobals "is_rising") (some (some (.ref (He.ga K "is_rising")))),
  fun K => fnB K (He.ga K "are_names") "are_names" [] [],
  fun K => He.eqO (PySem.W.nsIn K mainGlobals "are_names") (some (some (.ref (He.ga K "are_names")))),
  fun K => fnB K (He.ga K "are_items") "are_items" [] [],
  fun K => He.eqO (PySem.W.nsIn K mainGlobals "are_items") (some (some (.ref (He.ga K "are_items")))),
  fun K => fnB K (He.ga K "is_worth") "is_worth" [] [],
  fun K => He.eqO (PySem.W.nsIn K mainGlobals "is_worth") (some (some (.ref (He.ga K "is_worth")))),
  fun K => fnB K (He.ga K "are_named") "are_named" [] [],
  fun K => He.eqO (PySem.W.nsIn K mainGlobals "are_named") (some (some (.ref (He.ga K "are_named")))),
  fun K => fnB K (He.ma K (He.ga K "World") "__init__") "World.__init__" [.ref (He.dflAt ("World", some "__init__") 0 K)] [],
  fun K => (He.Fa.meth "World" "__init__").ok K,
  fun K => (He.Fa.mkr "World").ok K,
  fun K => fnB K (prF K (He.ma K (He.ga K "World") "size")) "World.size" [] [],
  fun K => prB K (He.ga K "World") "size",
  fun K => fnB K (prF K (He.ma K (He.ga K "World") "most")) "World.most" [] [],
  fun K => prB K (He.ga K "World") "most",
  fun K => fnB K (prF K (He.ma K (He.ga K "World") "cells")) "World.cells" [] [],
  fun K => prB K (He.ga K "World") "cells",
  fun K => fnB K (prF K (He.ma K (He.ga K "World") "rows")) "World.rows" [] [],
  fun K => prB K (He.ga K "World") "rows",
  fun K => fnB K (prF K (He.ma K (He.ga K "World") "loose")) "World.loose" [] [],
  fun K => prB K (He.ga K "World") "loose",
  fun K => fnB K (prF K (He.ma K (He.ga K "World") "first")) "World.first" [] [],
  fun K => prB K (He.ga K "World") "first",
  fun K => fnB K (He.ma K (He.ga K "World") "facts") "World.facts" [] [],
  fun K => (He.Fa.meth "World" "facts").ok K,
  fun K => fnB K (He.ma K (He.ga K "World") "__eq__") "World.__eq__" [] [],
  fun K => (He.Fa.meth "World" "__eq__").ok K,
  fun K => fnB K (He.ga K "are_kinds") "are_kinds" [] [],
  fun K => He.eqO (PySem.W.nsIn K mainGlobals "are_kinds") (some (some (.ref (He.ga K "are_kinds")))),
  fun K => fnB K (He.ga K "are_works") "are_works" [] [],
  fun K => He.eqO (PySem.W.nsIn K mainGlobals "are_works") (some (some (.ref (He.ga K "are_works")))),
  fun K => fnB K (He.ma K (He.ga K "Setup") "__init__") "Setup.__init__" [] [],
  fun K => (He.Fa.meth "Setup" "__init__").ok K,
  fun K => (He.Fa.mkr "Setup").ok K,
  fun K => fnB K (prF K (He.ma K (He.ga K "Setup") "world")) "Setup.world" [] [],
  fun K => prB K (He.ga K "Setup") "world",
  fun K => fnB K (prF K (He.ma K (He.ga K "Setup") "works")) "Setup.works" [] [],
  fun K => prB K (He.ga K "Setup") "works",
  fun K => fnB K (prF K (He.ma K (He.ga K "Setup") "places")) "Setup.places" [] [],
  fun K => prB K (He.ga K "Setup") "places",
  fun K => fnB K (He.ga K "_law_pot") "_law_pot" [] [],
  fun K => He.eqO (PySem.W.nsIn K mainGlobals "_law_pot") (some (some (.ref (He.ga K "_law_pot")))),
  fun K => fnB K (He.ga K "_law_take") "_law_take" [] [],
  fun K => He.eqO (PySem.W.nsIn K mainGlobals "_law_take") (some (some (.ref (He.ga K "_law_take")))),
  fun K => fnB K (He.ga K "_law_of") "_law_of" [] [],
  fun K => He.eqO (PySem.W.nsIn K mainGlobals "_law_of") (some (some (.ref (He.ga K "_law_of")))),
  fun K => fnB K (He.ga K "_law_is_name") "_law_is_name" [] [],
  fun K => He.eqO (PySem.W.nsIn K mainGlobals "_law_is_name") (some (some (.ref (He.ga K "_law_is_name")))),
  fun K => fnB K (He.ga K "_law_are_rising") "_law_are_rising" [] [],
  fun K => He.eqO (PySem.W.nsIn K mainGlobals "_law_are_rising") (some (some (.ref (He.ga K "_law_are_rising")))),
  fun K => fnB K (He.ga K "_law_items") "_law_items" [] [],
  fun K => He.eqO (PySem.W.nsIn K mainGlobals "_law_items") (some (some (.ref (He.ga K "_law_items")))),
  fun K => fnB K (He.ga K "_law_some") "_law_some" [] [],
  fun K => He.eqO (PySem.W.nsIn K mainGlobals "_law_some") (some (some (.ref (He.ga K "_law_some")))),
  fun K => fnB K (He.ga K "_law_lore") "_law_lore" [] [],
  fun K => He.eqO (PySem.W.nsIn K mainGlobals "_law_lore") (some (some (.ref (He.ga K "_law_lore")))),
  fun K => fnB K (He.ga K "_law_world") "_law_world" [] [],
  fun K => He.eqO (PySem.W.nsIn K mainGlobals "_law_world") (some (some (.ref (He.ga K "_law_world")))),
  fun K => fnB K (He.ga K "_law_is_from") "_law_is_from" [] [],
  fun K => He.eqO (PySem.W.nsIn K mainGlobals "_law_is_from") (some (some (.ref (He.ga K "_law_is_from")))),
  fun K => fnB K (He.ga K "_law_are_works") "_law_are_works" [] [],
  fun K => He.eqO (PySem.W.nsIn K mainGlobals "_law_are_works") (some (some (.ref (He.ga K "_law_are_works")))),
  fun K => fnB K (He.ga K "_law_work_triple") "_law_work_triple" [] [],
  fun K => He.eqO (PySem.W.nsIn K mainGlobals "_law_work_triple") (some (some (.ref (He.ga K "_law_work_triple")))),
  fun K => fnB K (He.ga K "_law_bent_works") "_law_bent_works" [] [],
  fun K => He.eqO (PySem.W.nsIn K mainGlobals "_law_bent_works") (some (some (.ref (He.ga K "_law_bent_works")))),
  fun K => fnB K (He.ga K "_law_told") "_law_told" [] [],
  fun K => He.eqO (PySem.W.nsIn K mainGlobals "_law_told") (some (some (.ref (He.ga K "_law_told")))),
  fun K => fnB K (He.ga K "_law_right") "_law_right" [] [],
  fun K => He.eqO (PySem.W.nsIn K mainGlobals "_law_right") (some (some (.ref (He.ga K "_law_right")))),
  fun K => fnB K (He.ga K "law") "law" [] [],
  fun K => He.eqO (PySem.W.nsIn K mainGlobals "law") (some (some (.ref (He.ga K "law")))),
  fun K => iniB K FILE "BadWorld" "BadWorld.__init__" ["value"] [],
  fun K => iniB K FILE "BadSetup" "BadSetup.__init__" ["value"] [],
  fun K => He.eqO (PySem.W.nsIn K mainGlobals "int") (some none),
  fun K => He.eqO (PySem.W.nsIn K mainGlobals "bool") (some none),
  fun K => He.eqO (PySem.W.nsIn K mainGlobals "str") (some none),
  fun K => He.eqO (PySem.W.nsIn K mainGlobals "tuple") (some none),
  fun K => He.eqO (PySem.W.nsIn K mainGlobals "list") (some none),
  fun K => He.eqO (PySem.W.nsIn K mainGlobals "abs") (some none),
  fun K => He.eqO (PySem.W.nsIn K mainGlobals "len") (some none),
  fun K => He.eqO (PySem.W.nsIn K mainGlobals "isinstance") (some none),
  fun K => He.eqO (PySem.W.nsIn K mainGlobals "repr") (some none),
  fun K => He.eqO (PySem.W.nsIn K mainGlobals "all") (some none),
  fun K => He.eqO (PySem.W.nsIn K mainGlobals "any") (some none),
  fun K => He.eqO (PySem.W.nsIn K mainGlobals "range") (some none),
  fun K => He.eqO (PySem.W.nsIn K mainGlobals "zip") (some none),
  fun K => He.eqO (PySem.W.nsIn K mainGlobals "max") (some none),
  fun K => He.eqO (PySem.W.nsIn K mainGlobals "min") (some none),
  fun K => He.eqO (PySem.W.nsIn K mainGlobals "ValueError") (some none),
  fun K => (He.Fa.str "LETTERS" "abcdefghijklmnopqrstuvwxyz").ok K,
  fun K => (He.Fa.int "MOST_LETTERS" 8).ok K,
  fun K => (He.Fa.int "LEAST_SIZE" 2).ok K,
  fun K => (He.Fa.int "MOST_SIZE" 4).ok K,
  fun K => (He.Fa.int "LEAST_MOST" 1).ok K,
  fun K => (He.Fa.int "GREATEST_MOST" 2).ok K,
  fun K => (He.Fa.int "MOST_CELLS" 2).ok K,
  fun K => (He.Fa.int "MOST_ROWS" 2).ok K,
  fun K => (He.Fa.int "MOST_WORKS" 3).ok K,
  fun K => (He.Fa.int "MOST_KINDS" 3).ok K,
  fun K => (He.Fa.int "LEAST_ROOM" 1).ok K,
  fun K => (He.Fa.int "MOST_ROOM" 2).ok K,
  fun K => (He.Fa.str "NUMBER_KIND" "n").ok K,
  fun K => (He.Fa.str "ROW_KIND" "r").ok K,
  fun K => (He.Fa.int "PAIR" 2).ok K,
  fun K => (He.Fa.int "TRIPLE" 3).ok K,
  fun K => decide (PySem.W.findIn K (.ref (He.ga K "World")) "__class__" = some (some (.builtin "object.__class__"))),
  fun K => decide (PySem.W.mroIn K (He.ga K "World") (.type "object") = some true),
  fun K => decide (PySem.W.findIn K (.ref (He.ga K "Setup")) "__class__" = some (some (.builtin "object.__class__"))),
  fun K => decide (PySem.W.mroIn K (He.ga K "Setup") (.type "object") = some true),
  fun K => decide (PySem.W.findIn K (.ref (He.ga K "World")) "own_size" = some none),
  fun K => decide (PySem.W.findIn K (.ref (He.ga K "World")) "own_most" = some none),
  fun K => decide (PySem.W.findIn K (.ref (He.ga K "World")) "own_cells" = some none),
  fun K => decide (PySem.W.findIn K (.ref (He.ga K "World")) "own_rows" = some none),
  fun K => decide (PySem.W.findIn K (.ref (He.ga K "World")) "own_loose" = some none),
  fun K => decide (PySem.W.findIn K (.ref (He.ga K "Setup")) "own_world" = some none),
  fun K => decide (PySem.W.findIn K (.ref (He.ga K "Setup")) "own_works" = some none),
  fun K => decide (PySem.W.findIn K (.ref (He.ga K "Setup")) "own_room" = some none),
  fun K => decide (PySem.W.specialIn K (.builtin "object.__class__") "__get__" = some (some (.builtin "getset_descriptor.__get__"))),
  fun K => decide (PySem.W.takesIn K (.builtin "object.__class__") = some true),
  fun K => decide (PySem.W.kitOne K (.ref (He.ga K "BadSetup")) (.ref (He.ga K "BadSetup")) = some true),
  fun K => decide (PySem.W.findIn K (.ref (He.ga K "World")) "__ne__" = some (some (.builtin "object.__ne__"))),
  fun K => decide (PySem.W.subIn K (.ref (He.ga K "World")) (.type "object") = some true),
  fun K => decide (PySem.W.subIn K (.ref (He.ga K "World")) (.ref (He.ga K "World")) = some true),
  fun K => decide ((tbOf K (He.ga K "_law_work_triple")).2 ≠ (tbOf K (He.ma K (He.ga K "World") "__init__")).2)]
def fnl : List DfY := [
  ⟨fun K => (He.ga K "is_integer"), "is_integer", "is_integer", defArgs s_is_integer, defBody s_is_integer, defScope s_is_integer⟩,
  ⟨fun K => (He.ga K "is_from"), "is_from", "is_from", defArgs s_is_from, defBody s_is_from, defScope s_is_from⟩,
  ⟨fun K => (He.ga K "is_name"), "is_name", "is_name", defArgs s_is_name, defBody s_is_name, defScope s_is_name⟩,
  ⟨fun K => (He.ga K "is_tuple"), "is_tuple", "is_tuple", defArgs s_is_tuple, defBody s_is_tuple, defScope s_is_tuple⟩,
  ⟨fun K => (He.ga K "is_rising"), "is_rising", "is_rising", defArgs s_is_rising, defBody s_is_rising, defScope s_is_rising⟩,
  ⟨fun K => (He.ga K "are_names"), "are_names", "are_names", defArgs s_are_names, defBody s_are_names, defScope s_are_names⟩,
  ⟨fun K => (He.ga K "are_items"), "are_items", "are_items", defArgs s_are_items, defBody s_are_items, defScope s_are_items⟩,
  ⟨fun K => (He.ga K "is_worth"), "is_worth", "is_worth", defArgs s_is_worth, defBody s_is_worth, defScope s_is_worth⟩,
  ⟨fun K => (He.ga K "are_named"), "are_named", "are_named", defArgs s_are_named, defBody s_are_named, defScope s_are_named⟩,
  ⟨fun K => (He.ma K (He.ga K "World") "__init__"), "__init__", "World.__init__", defArgs s_World___init__, defBody s_World___init__, defScope s_World___init__⟩,
  ⟨fun K => (prF K (He.ma K (He.ga K "World") "size")), "size", "World.size", defArgs s_World_size, defBody s_World_size, defScope s_World_size⟩,
  ⟨fun K => (prF K (He.ma K (He.ga K "World") "most")), "most", "World.most", defArgs s_World_most, defBody s_World_most, defScope s_World_most⟩,
  ⟨fun K => (prF K (He.ma K (He.ga K "World") "cells")), "cells", "World.cells", defArgs s_World_cells, defBody s_World_cells, defScope s_World_cells⟩,
  ⟨fun K => (prF K (He.ma K (He.ga K "World") "rows")), "rows", "World.rows", defArgs s_World_rows, defBody s_World_rows, defScope s_World_rows⟩,
  ⟨fun K => (prF K (He.ma K (He.ga K "World") "loose")), "loose", "World.loose", defArgs s_World_loose, defBody s_World_loose, defScope s_World_loose⟩,
  ⟨fun K => (prF K (He.ma K (He.ga K "World") "first")), "first", "World.first", defArgs s_World_first, defBody s_World_first, defScope s_World_first⟩,
  ⟨fun K => (He.ma K (He.ga K "World") "facts"), "facts", "World.facts", defArgs s_World_facts, defBody s_World_facts, defScope s_World_facts⟩,
  ⟨fun K => (He.ma K (He.ga K "World") "__eq__"), "__eq__", "World.__eq__", defArgs s_World___eq__, defBody s_World___eq__, defScope s_World___eq__⟩,
  ⟨fun K => (He.ga K "are_kinds"), "are_kinds", "are_kinds", defArgs s_are_kinds, defBody s_are_kinds, defScope s_are_kinds⟩,
  ⟨fun K => (He.ga K "are_works"), "are_works", "are_works", defArgs s_are_works, defBody s_are_works, defScope s_are_works⟩,
  ⟨fun K => (He.ma K (He.ga K "Setup") "__init__"), "__init__", "Setup.__init__", defArgs s_Setup___init__, defBody s_Setup___init__, defScope s_Setup___init__⟩,
  ⟨fun K => (prF K (He.ma K (He.ga K "Setup") "world")), "world", "Setup.world", defArgs s_Setup_world, defBody s_Setup_world, defScope s_Setup_world⟩,
  ⟨fun K => (prF K (He.ma K (He.ga K "Setup") "works")), "works", "Setup.works", defArgs s_Setup_works, defBody s_Setup_works, defScope s_Setup_works⟩,
  ⟨fun K => (prF K (He.ma K (He.ga K "Setup") "places")), "places", "Setup.places", defArgs s_Setup_places, defBody s_Setup_places, defScope s_Setup_places⟩,
  ⟨fun K => (He.ga K "_law_pot"), "_law_pot", "_law_pot", defArgs s__law_pot, defBody s__law_pot, defScope s__law_pot⟩,
  ⟨fun K => (He.ga K "_law_take"), "_law_take", "_law_take", defArgs s__law_take, defBody s__law_take, defScope s__law_take⟩,
  ⟨fun K => (He.ga K "_law_of"), "_law_of", "_law_of", defArgs s__law_of, defBody s__law_of, defScope s__law_of⟩,
  ⟨fun K => (He.ga K "_law_is_name"), "_law_is_name", "_law_is_name", defArgs s__law_is_name, defBody s__law_is_name, defScope s__law_is_name⟩,
  ⟨fun K => (He.ga K "_law_are_rising"), "_law_are_rising", "_law_are_rising", defArgs s__law_are_rising, defBody s__law_are_rising, defScope s__law_are_rising⟩,
  ⟨fun K => (He.ga K "_law_items"), "_law_items", "_law_items", defArgs s__law_items, defBody s__law_items, defScope s__law_items⟩,
  ⟨fun K => (He.ga K "_law_some"), "_law_some", "_law_some", defArgs s__law_some, defBody s__law_some, defScope s__law_some⟩,
  ⟨fun K => (He.ga K "_law_lore"), "_law_lore", "_law_lore", defArgs s__law_lore, defBody s__law_lore, defScope s__law_lore⟩,
  ⟨fun K => (He.ga K "_law_world"), "_law_world", "_law_world", defArgs s__law_world, defBody s__law_world, defScope s__law_world⟩,
  ⟨fun K => (He.ga K "_law_is_from"), "_law_is_from", "_law_is_from", defArgs s__law_is_from, defBody s__law_is_from, defScope s__law_is_from⟩,
  ⟨fun K => (He.ga K "_law_are_works"), "_law_are_works", "_law_are_works", defArgs s__law_are_works, defBody s__law_are_works, defScope s__law_are_works⟩,
  ⟨fun K => (He.ga K "_law_work_triple"), "_law_work_triple", "_law_work_triple", defArgs s__law_work_triple, defBody s__law_work_triple, defScope s__law_work_triple⟩,
  ⟨fun K => (He.ga K "_law_bent_works"), "_law_bent_works", "_law_bent_works", defArgs s__law_bent_works, defBody s__law_bent_works, defScope s__law_bent_works⟩,
  ⟨fun K => (He.ga K "_law_told"), "_law_told", "_law_told", defArgs s__law_told, defBody s__law_told, defScope s__law_told⟩,
  ⟨fun K => (He.ga K "_law_right"), "_law_right", "_law_right", defArgs s__law_right, defBody s__law_right, defScope s__law_right⟩,
  ⟨fun K => (He.ga K "law"), "law", "law", defArgs s_law, defBody s_law, defScope s_law⟩,
  ⟨fun K => He.ma K (He.ga K "BadWorld") "__init__", "__init__", "BadWorld.__init__", defArgs (inClass (topS 3) 0), defBody (inClass (topS 3) 0), defScope (inClass (topS 3) 0)⟩,
  ⟨fun K => He.ma K (He.ga K "BadSetup") "__init__", "__init__", "BadSetup.__init__", defArgs (inClass (topS 4) 0), defBody (inClass (topS 4) 0), defScope (inClass (topS 4) 0)⟩]
theorem tx_of {P : Program} {K : PySem.W.Frag} {h : Heap} {mg : Str → Option Value} (X : K.In h) (G : h.Ns mainGlobals mg) (hF : P.main.file = FILE) (hP : (P.main.scope.names.lookup ("super" : Str)).isSome = false) (c : SaysY chk fnl K) : Nonempty (Tx P K mg) := by
  have gE := errsB_ok (c.fact 0 rfl)
  obtain ⟨a_World, cl_World, kc_World, ty_World⟩ := clB_ok (x := "World") (c.fact 2 rfl)
  obtain ⟨a_Setup, cl_Setup, kc_Setup, ty_Setup⟩ := clB_ok (x := "Setup") (c.fact 3 rfl)
  have er_BadWorld := ercB_ok (x := "BadWorld") (c.fact 4 rfl)
  have er_BadSetup := ercB_ok (x := "BadSetup") (c.fact 5 rfl)
  obtain ⟨fd_is_integer, o_is_integer⟩ := fun_of (st := s_is_integer) (c.def_ 0 rfl) (c.fact 6 rfl) rfl rfl rfl
  obtain ⟨fd_is_from, o_is_from⟩ := fun_of (st := s_is_from) (c.def_ 1 rfl) (c.fact 8 rfl) rfl rfl rfl
  obtain ⟨fd_is_name, o_is_name⟩ := fun_of (st := s_is_name) (c.def_ 2 rfl) (c.fact 10 rfl) rfl rfl rfl
  obtain ⟨fd_is_tuple, o_is_tuple⟩ := fun_of (st := s_is_tuple) (c.def_ 3 rfl) (c.fact 12 rfl) rfl rfl rfl
  obtain ⟨fd_is_rising, o_is_rising⟩ := fun_of (st := s_is_rising) (c.def_ 4 rfl) (c.fact 14 rfl) rfl rfl rfl
  obtain ⟨fd_are_names, o_are_names⟩ := fun_of (st := s_are_names) (c.def_ 5 rfl) (c.fact 16 rfl) rfl rfl rfl
  obtain ⟨fd_are_items, o_are_items⟩ := fun_of (st := s_are_items) (c.def_ 6 rfl) (c.fact 18 rfl) rfl rfl rfl
  obtain ⟨fd_is_worth, o_is_worth⟩ := fun_of (st := s_is_worth) (c.def_ 7 rfl) (c.fact 20 rfl) rfl rfl rfl
  obtain ⟨fd_are_named, o_are_named⟩ := fun_of (st := s_are_named) (c.def_ 8 rfl) (c.fact 22 rfl) rfl rfl rfl
  obtain ⟨fd_World___init__, o_World___init__⟩ := funD_of (dvs := [.ref (He.dflAt ("World", some "__init__") 0 K)]) (kws := []) (c.def_ 9 rfl) (c.fact 24 rfl)
  have me_World___init__ := He.meth_ok (x := "World") (m := "__init__") (c.fact 25 rfl)
  obtain ⟨fd_World_size, o_World_size⟩ := fun_of (st := s_World_size) (c.def_ 10 rfl) (c.fact 27 rfl) rfl rfl rfl
  obtain ⟨fd_World_most, o_World_most⟩ := fun_of (st := s_World_most) (c.def_ 11 rfl) (c.fact 29 rfl) rfl rfl rfl
  obtain ⟨fd_World_cells, o_World_cells⟩ := fun_of (st := s_World_cells) (c.def_ 12 rfl) (c.fact 31 rfl) rfl rfl rfl
  obtain ⟨fd_World_rows, o_World_rows⟩ := fun_of (st := s_World_rows) (c.def_ 13 rfl) (c.fact 33 rfl) rfl rfl rfl
  obtain ⟨fd_World_loose, o_World_loose⟩ := fun_of (st := s_World_loose) (c.def_ 14 rfl) (c.fact 35 rfl) rfl rfl rfl
  obtain ⟨fd_World_first, o_World_first⟩ := fun_of (st := s_World_first) (c.def_ 15 rfl) (c.fact 37 rfl) rfl rfl rfl
  obtain ⟨fd_World_facts, o_World_facts⟩ := fun_of (st := s_World_facts) (c.def_ 16 rfl) (c.fact 39 rfl) rfl rfl rfl
  have me_World_facts := He.meth_ok (x := "World") (m := "facts") (c.fact 40 rfl)
  obtain ⟨fd_World___eq__, o_World___eq__⟩ := fun_of (st := s_World___eq__) (c.def_ 17 rfl) (c.fact 41 rfl) rfl rfl rfl
  have me_World___eq__ := He.meth_ok (x := "World") (m := "__eq__") (c.fact 42 rfl)
  obtain ⟨fd_are_kinds, o_are_kinds⟩ := fun_of (st := s_are_kinds) (c.def_ 18 rfl) (c.fact 43 rfl) rfl rfl rfl
  obtain ⟨fd_are_works, o_are_works⟩ := fun_of (st := s_are_works) (c.def_ 19 rfl) (c.fact 45 rfl) rfl rfl rfl
  obtain ⟨fd_Setup___init__, o_Setup___init__⟩ := fun_of (st := s_Setup___init__) (c.def_ 20 rfl) (c.fact 47 rfl) rfl rfl rfl
  have me_Setup___init__ := He.meth_ok (x := "Setup") (m := "__init__") (c.fact 48 rfl)
  obtain ⟨fd_Setup_world, o_Setup_world⟩ := fun_of (st := s_Setup_world) (c.def_ 21 rfl) (c.fact 50 rfl) rfl rfl rfl
  obtain ⟨fd_Setup_works, o_Setup_works⟩ := fun_of (st := s_Setup_works) (c.def_ 22 rfl) (c.fact 52 rfl) rfl rfl rfl
  obtain ⟨fd_Setup_places, o_Setup_places⟩ := fun_of (st := s_Setup_places) (c.def_ 23 rfl) (c.fact 54 rfl) rfl rfl rfl
  obtain ⟨fd__law_pot, o__law_pot⟩ := fun_of (st := s__law_pot) (c.def_ 24 rfl) (c.fact 56 rfl) rfl rfl rfl
  obtain ⟨fd__law_take, o__law_take⟩ := fun_of (st := s__law_take) (c.def_ 25 rfl) (c.fact 58 rfl) rfl rfl rfl
  obtain ⟨fd__law_of, o__law_of⟩ := fun_of (st := s__law_of) (c.def_ 26 rfl) (c.fact 60 rfl) rfl rfl rfl
  obtain ⟨fd__law_is_name, o__law_is_name⟩ := fun_of (st := s__law_is_name) (c.def_ 27 rfl) (c.fact 62 rfl) rfl rfl rfl
  obtain ⟨fd__law_are_rising, o__law_are_rising⟩ := fun_of (st := s__law_are_rising) (c.def_ 28 rfl) (c.fact 64 rfl) rfl rfl rfl
  obtain ⟨fd__law_items, o__law_items⟩ := fun_of (st := s__law_items) (c.def_ 29 rfl) (c.fact 66 rfl) rfl rfl rfl
  obtain ⟨fd__law_some, o__law_some⟩ := fun_of (st := s__law_some) (c.def_ 30 rfl) (c.fact 68 rfl) rfl rfl rfl
  obtain ⟨fd__law_lore, o__law_lore⟩ := fun_of (st := s__law_lore) (c.def_ 31 rfl) (c.fact 70 rfl) rfl rfl rfl
  obtain ⟨fd__law_world, o__law_world⟩ := fun_of (st := s__law_world) (c.def_ 32 rfl) (c.fact 72 rfl) rfl rfl rfl
  obtain ⟨fd__law_is_from, o__law_is_from⟩ := fun_of (st := s__law_is_from) (c.def_ 33 rfl) (c.fact 74 rfl) rfl rfl rfl
  obtain ⟨fd__law_are_works, o__law_are_works⟩ := fun_of (st := s__law_are_works) (c.def_ 34 rfl) (c.fact 76 rfl) rfl rfl rfl
  obtain ⟨fd__law_work_triple, o__law_work_triple⟩ := fun_of (st := s__law_work_triple) (c.def_ 35 rfl) (c.fact 78 rfl) rfl rfl rfl
  obtain ⟨fd__law_bent_works, o__law_bent_works⟩ := fun_of (st := s__law_bent_works) (c.def_ 36 rfl) (c.fact 80 rfl) rfl rfl rfl
  obtain ⟨fd__law_told, o__law_told⟩ := fun_of (st := s__law_told) (c.def_ 37 rfl) (c.fact 82 rfl) rfl rfl rfl
  obtain ⟨fd__law_right, o__law_right⟩ := fun_of (st := s__law_right) (c.def_ 38 rfl) (c.fact 84 rfl) rfl rfl rfl
  obtain ⟨fd_law, o_law⟩ := fun_of (st := s_law) (c.def_ 39 rfl) (c.fact 86 rfl) rfl rfl rfl
  have ev_BadWorld : ErrV P K mg "BadWorld" "value" ["value"] [] (He.ga K "TapeError") (He.ga K "BadWorld") := errV_of X G hP gE er_BadWorld (by rw [hF]; exact (c.fact 88 rfl)) (c.def_ 40 rfl) (by decide) ⟨_, rfl, rfl⟩ ⟨rfl, rfl, rfl, by decide +kernel, by decide +kernel, by decide +kernel, by decide +kernel, by decide +kernel, by decide +kernel, by decide +kernel⟩ (.inl ⟨_, _, _, _, _, _, _, _, _, _, _, rfl, rfl, rfl⟩) (fun _ _ _ _ _ _ _ _ _ h _ s x us _ hl => by rcases h with ⟨_, rfl, rfl⟩ | ⟨hn, _⟩; (match us, hl with | [_], _ => exact .of_eq rfl); exact absurd rfl hn) (fun _ _ _ _ _ _ _ _ _ h _ s x us _ hl => by rcases h with ⟨_, rfl, rfl⟩ | ⟨hn, _⟩; (match us, hl with | [_], _ => exact .of_eq rfl); exact absurd rfl hn)
  have ev_BadSetup : ErrV P K mg "BadSetup" "value" ["value"] [] (He.ga K "TapeError") (He.ga K "BadSetup") := errV_of X G hP gE er_BadSetup (by rw [hF]; exact (c.fact 89 rfl)) (c.def_ 41 rfl) (by decide) ⟨_, rfl, rfl⟩ ⟨rfl, rfl, rfl, by decide +kernel, by decide +kernel, by decide +kernel, by decide +kernel, by decide +kernel, by decide +kernel, by decide +kernel⟩ (.inl ⟨_, _, _, _, _, _, _, _, _, _, _, rfl, rfl, rfl⟩) (fun _ _ _ _ _ _ _ _ _ h _ s x us _ hl => by rcases h with ⟨_, rfl, rfl⟩ | ⟨hn, _⟩; (match us, hl with | [_], _ => exact .of_eq rfl); exact absurd rfl hn) (fun _ _ _ _ _ _ _ _ _ h _ s x us _ hl => by rcases h with ⟨_, rfl, rfl⟩ | ⟨hn, _⟩; (match us, hl with | [_], _ => exact .of_eq rfl); exact absurd rfl hn)
  obtain ⟨tk_LETTERS, k_LETTERS⟩ := He.str_ok X G (x := "LETTERS") (z := "abcdefghijklmnopqrstuvwxyz") (c.fact 106 rfl)
  obtain ⟨tk_MOST_LETTERS, k_MOST_LETTERS⟩ := He.int_ok X G (x := "MOST_LETTERS") (i := 8) (c.fact 107 rfl)
  obtain ⟨tk_LEAST_SIZE, k_LEAST_SIZE⟩ := He.int_ok X G (x := "LEAST_SIZE") (i := 2) (c.fact 108 rfl)
  obtain ⟨tk_MOST_SIZE, k_MOST_SIZE⟩ := He.int_ok X G (x := "MOST_SIZE") (i := 4) (c.fact 109 rfl)
  obtain ⟨tk_LEAST_MOST, k_LEAST_MOST⟩ := He.int_ok X G (x := "LEAST_MOST") (i := 1) (c.fact 110 rfl)
  obtain ⟨tk_GREATEST_MOST, k_GREATEST_MOST⟩ := He.int_ok X G (x := "GREATEST_MOST") (i := 2) (c.fact 111 rfl)
  obtain ⟨tk_MOST_CELLS, k_MOST_CELLS⟩ := He.int_ok X G (x := "MOST_CELLS") (i := 2) (c.fact 112 rfl)
  obtain ⟨tk_MOST_ROWS, k_MOST_ROWS⟩ := He.int_ok X G (x := "MOST_ROWS") (i := 2) (c.fact 113 rfl)
  obtain ⟨tk_MOST_WORKS, k_MOST_WORKS⟩ := He.int_ok X G (x := "MOST_WORKS") (i := 3) (c.fact 114 rfl)
  obtain ⟨tk_MOST_KINDS, k_MOST_KINDS⟩ := He.int_ok X G (x := "MOST_KINDS") (i := 3) (c.fact 115 rfl)
  obtain ⟨tk_LEAST_ROOM, k_LEAST_ROOM⟩ := He.int_ok X G (x := "LEAST_ROOM") (i := 1) (c.fact 116 rfl)
  obtain ⟨tk_MOST_ROOM, k_MOST_ROOM⟩ := He.int_ok X G (x := "MOST_ROOM") (i := 2) (c.fact 117 rfl)
  obtain ⟨tk_NUMBER_KIND, k_NUMBER_KIND⟩ := He.str_ok X G (x := "NUMBER_KIND") (z := "n") (c.fact 118 rfl)
  obtain ⟨tk_ROW_KIND, k_ROW_KIND⟩ := He.str_ok X G (x := "ROW_KIND") (z := "r") (c.fact 119 rfl)
  obtain ⟨tk_PAIR, k_PAIR⟩ := He.int_ok X G (x := "PAIR") (i := 2) (c.fact 120 rfl)
  obtain ⟨tk_TRIPLE, k_TRIPLE⟩ := He.int_ok X G (x := "TRIPLE") (i := 3) (c.fact 121 rfl)
  exact ⟨{
    mods := (by simpa using (c.fact 1 rfl)),
    C_World := (He.ga K "World"),
    World_mg := PySem.W.mg_of X G a_World,
    World_cl := cl_World,
    World_ty := ty_World,
    C_Setup := (He.ga K "Setup"),
    Setup_mg := PySem.W.mg_of X G a_Setup,
    Setup_cl := cl_Setup,
    Setup_ty := ty_Setup,
    C_BadWorld := (He.ga K "BadWorld"),
    BadWorld_mg := PySem.W.mg_of X G er_BadWorld.a,
    C_BadSetup := (He.ga K "BadSetup"),
    BadSetup_mg := PySem.W.mg_of X G er_BadSetup.a,
    C_TapeError := (He.ga K "TapeError"),
    TapeError_mg := PySem.W.mg_of X G gE.ta,
    TapeError_ex := fun D b h => EXM gE.tb gE.td gE.tt h,
    TapeError_ki := fun D h => kit_ref ⟨cls_some gE.td, gE.tt⟩ h fun _ => rfl,
    F_is_integer := (He.ga K "is_integer"),
    fd_is_integer := fd_is_integer,
    is_integer_ok := o_is_integer,
    b_is_integer := Fun.binds (ps := ["value"]) o_is_integer fun _ _ _ _ _ _ us hl => match us, hl with | [_], _ => rfl,
    is_integer_mg := PySem.W.mg_of X G (He.eqO_ok (c.fact 7 rfl)),
    F_is_from := (He.ga K "is_from"),
    fd_is_from := fd_is_from,
    is_from_ok := o_is_from,
    b_is_from := Fun.binds (ps := ["value", "low", "high"]) o_is_from fun _ _ _ _ _ _ us hl => match us, hl with | [_, _, _], _ => rfl,
    is_from_mg := PySem.W.mg_of X G (He.eqO_ok (c.fact 9 rfl)),
    F_is_name := (He.ga K "is_name"),
    fd_is_name := fd_is_name,
    is_name_ok := o_is_name,
    b_is_name := Fun.binds (ps := ["value"]) o_is_name fun _ _ _ _ _ _ us hl => match us, hl with | [_], _ => rfl,
    is_name_mg := PySem.W.mg_of X G (He.eqO_ok (c.fact 11 rfl)),
    F_is_tuple := (He.ga K "is_tuple"),
    fd_is_tuple := fd_is_tuple,
    is_tuple_ok := o_is_tuple,
    b_is_tuple := Fun.binds (ps := ["value", "many"]) o_is_tuple fun _ _ _ _ _ _ us hl => match us, hl with | [_, _], _ => rfl,
    is_tuple_mg := PySem.W.mg_of X G (He.eqO_ok (c.fact 13 rfl)),
    F_is_rising := (He.ga K "is_rising"),
    fd_is_rising := fd_is_rising,
    is_rising_ok := o_is_rising,
    b_is_rising := Fun.binds (ps := ["things"]) o_is_rising fun _ _ _ _ _ _ us hl => match us, hl with | [_], _ => rfl,
    is_rising_mg := PySem.W.mg_of X G (He.eqO_ok (c.fact 15 rfl)),
    F_are_names := (He.ga K "are_names"),
    fd_are_names := fd_are_names,
    are_names_ok := o_are_names,
    b_are_names := Fun.binds (ps := ["value", "most"]) o_are_names fun _ _ _ _ _ _ us hl => match us, hl with | [_, _], _ => rfl,
    are_names_mg := PySem.W.mg_of X G (He.eqO_ok (c.fact 17 rfl)),
    F_are_items := (He.ga K "are_items"),
    fd_are_items := fd_are_items,
    are_items_ok := o_are_items,
    b_are_items := Fun.binds (ps := ["size", "most", "value"]) o_are_items fun _ _ _ _ _ _ us hl => match us, hl with | [_, _, _], _ => rfl,
    are_items_mg := PySem.W.mg_of X G (He.eqO_ok (c.fact 19 rfl)),
    F_is_worth := (He.ga K "is_worth"),
    fd_is_worth := fd_is_worth,
    is_worth_ok := o_is_worth,
    b_is_worth := Fun.binds (ps := ["size", "value"]) o_is_worth fun _ _ _ _ _ _ us hl => match us, hl with | [_, _], _ => rfl,
    is_worth_mg := PySem.W.mg_of X G (He.eqO_ok (c.fact 21 rfl)),
    F_are_named := (He.ga K "are_named"),
    fd_are_named := fd_are_named,
    are_named_ok := o_are_named,
    b_are_named := Fun.binds (ps := ["value", "most", "is_part"]) o_are_named fun _ _ _ _ _ _ us hl => match us, hl with | [_, _, _], _ => rfl,
    are_named_mg := PySem.W.mg_of X G (He.eqO_ok (c.fact 23 rfl)),
    F_World___init__ := (He.ma K (He.ga K "World") "__init__"),
    fd_World___init__ := fd_World___init__,
    World___init___ok := o_World___init__,
    b_World___init__ := (by obtain ⟨oc, od, dV, kV, dc, pm, an, cdv, ct, sl, e, lk, hc, hd, hk⟩ := o_World___init__.ex; rw [e]; rcases hd with ⟨hn, _⟩ | ⟨_, T, o, its, n, h1, h2, h3, h4⟩; cases hn; subst h1; exact binds_full (ps := ["self", "size", "most", "cells", "rows", "loose"]) h2 h3 h4 fun its hi us hl => match its, hi, us, hl with | [_], _, [_, _, _, _, _, _], _ => ⟨_, rfl, rfl⟩),
    at_World___init__ := rfl,
    cd_World___init__ := by obtain ⟨oc, od, dV, kV, dc, pm, an, cdv, ct, sl, e, lk, hc, _, _⟩ := o_World___init__.ex; have q := code_tb lk (by rw [e]) hc; subst q; exact ⟨oc, od, dV, kV, dc, pm, an, ct, sl, e, lk, hc⟩,
    World___init___sl := ⟨me_World___init__.at_, me_World___init__.fn⟩,
    World_mk := He.mkr_ok (x := "World") (c.fact 26 rfl),
    F_World_size := (prF K (He.ma K (He.ga K "World") "size")),
    fd_World_size := fd_World_size,
    World_size_ok := o_World_size,
    b_World_size := Fun.binds (ps := ["self"]) o_World_size fun _ _ _ _ _ _ us hl => match us, hl with | [_], _ => rfl,
    pr_World_size := (He.ma K (He.ga K "World") "size"),
    World_size_pr := prB_ok (c.fact 28 rfl),
    F_World_most := (prF K (He.ma K (He.ga K "World") "most")),
    fd_World_most := fd_World_most,
    World_most_ok := o_World_most,
    b_World_most := Fun.binds (ps := ["self"]) o_World_most fun _ _ _ _ _ _ us hl => match us, hl with | [_], _ => rfl,
    pr_World_most := (He.ma K (He.ga K "World") "most"),
    World_most_pr := prB_ok (c.fact 30 rfl),
    F_World_cells := (prF K (He.ma K (He.ga K "World") "cells")),
    fd_World_cells := fd_World_cells,
    World_cells_ok := o_World_cells,
    b_World_cells := Fun.binds (ps := ["self"]) o_World_cells fun _ _ _ _ _ _ us hl => match us, hl with | [_], _ => rfl,
    pr_World_cells := (He.ma K (He.ga K "World") "cells"),
    World_cells_pr := prB_ok (c.fact 32 rfl),
    F_World_rows := (prF K (He.ma K (He.ga K "World") "rows")),
    fd_World_rows := fd_World_rows,
    World_rows_ok := o_World_rows,
    b_World_rows := Fun.binds (ps := ["self"]) o_World_rows fun _ _ _ _ _ _ us hl => match us, hl with | [_], _ => rfl,
    pr_World_rows := (He.ma K (He.ga K "World") "rows"),
    World_rows_pr := prB_ok (c.fact 34 rfl),
    F_World_loose := (prF K (He.ma K (He.ga K "World") "loose")),
    fd_World_loose := fd_World_loose,
    World_loose_ok := o_World_loose,
    b_World_loose := Fun.binds (ps := ["self"]) o_World_loose fun _ _ _ _ _ _ us hl => match us, hl with | [_], _ => rfl,
    pr_World_loose := (He.ma K (He.ga K "World") "loose"),
    World_loose_pr := prB_ok (c.fact 36 rfl),
    F_World_first := (prF K (He.ma K (He.ga K "World") "first")),
    fd_World_first := fd_World_first,
    World_first_ok := o_World_first,
    b_World_first := Fun.binds (ps := ["self"]) o_World_first fun _ _ _ _ _ _ us hl => match us, hl with | [_], _ => rfl,
    pr_World_first := (He.ma K (He.ga K "World") "first"),
    World_first_pr := prB_ok (c.fact 38 rfl),
    F_World_facts := (He.ma K (He.ga K "World") "facts"),
    fd_World_facts := fd_World_facts,
    World_facts_ok := o_World_facts,
    b_World_facts := Fun.binds (ps := ["self"]) o_World_facts fun _ _ _ _ _ _ us hl => match us, hl with | [_], _ => rfl,
    World_facts_sl := ⟨me_World_facts.at_, me_World_facts.fn⟩,
    F_World___eq__ := (He.ma K (He.ga K "World") "__eq__"),
    fd_World___eq__ := fd_World___eq__,
    World___eq___ok := o_World___eq__,
    b_World___eq__ := Fun.binds (ps := ["self", "other"]) o_World___eq__ fun _ _ _ _ _ _ us hl => match us, hl with | [_, _], _ => rfl,
    World___eq___sl := ⟨me_World___eq__.at_, me_World___eq__.fn⟩,
    F_are_kinds := (He.ga K "are_kinds"),
    fd_are_kinds := fd_are_kinds,
    are_kinds_ok := o_are_kinds,
    b_are_kinds := Fun.binds (ps := ["world", "value", "most"]) o_are_kinds fun _ _ _ _ _ _ us hl => match us, hl with | [_, _, _], _ => rfl,
    are_kinds_mg := PySem.W.mg_of X G (He.eqO_ok (c.fact 44 rfl)),
    F_are_works := (He.ga K "are_works"),
    fd_are_works := fd_are_works,
    are_works_ok := o_are_works,
    b_are_works := Fun.binds (ps := ["world", "value"]) o_are_works fun _ _ _ _ _ _ us hl => match us, hl with | [_, _], _ => rfl,
    are_works_mg := PySem.W.mg_of X G (He.eqO_ok (c.fact 46 rfl)),
    F_Setup___init__ := (He.ma K (He.ga K "Setup") "__init__"),
    fd_Setup___init__ := fd_Setup___init__,
    Setup___init___ok := o_Setup___init__,
    b_Setup___init__ := Fun.binds (ps := ["self", "world", "works", "room"]) o_Setup___init__ fun _ _ _ _ _ _ us hl => match us, hl with | [_, _, _, _], _ => rfl,
    Setup___init___sl := ⟨me_Setup___init__.at_, me_Setup___init__.fn⟩,
    Setup_mk := He.mkr_ok (x := "Setup") (c.fact 49 rfl),
    F_Setup_world := (prF K (He.ma K (He.ga K "Setup") "world")),
    fd_Setup_world := fd_Setup_world,
    Setup_world_ok := o_Setup_world,
    b_Setup_world := Fun.binds (ps := ["self"]) o_Setup_world fun _ _ _ _ _ _ us hl => match us, hl with | [_], _ => rfl,
    pr_Setup_world := (He.ma K (He.ga K "Setup") "world"),
    Setup_world_pr := prB_ok (c.fact 51 rfl),
    F_Setup_works := (prF K (He.ma K (He.ga K "Setup") "works")),
    fd_Setup_works := fd_Setup_works,
    Setup_works_ok := o_Setup_works,
    b_Setup_works := Fun.binds (ps := ["self"]) o_Setup_works fun _ _ _ _ _ _ us hl => match us, hl with | [_], _ => rfl,
    pr_Setup_works := (He.ma K (He.ga K "Setup") "works"),
    Setup_works_pr := prB_ok (c.fact 53 rfl),
    F_Setup_places := (prF K (He.ma K (He.ga K "Setup") "places")),
    fd_Setup_places := fd_Setup_places,
    Setup_places_ok := o_Setup_places,
    b_Setup_places := Fun.binds (ps := ["self"]) o_Setup_places fun _ _ _ _ _ _ us hl => match us, hl with | [_], _ => rfl,
    pr_Setup_places := (He.ma K (He.ga K "Setup") "places"),
    Setup_places_pr := prB_ok (c.fact 55 rfl),
    F__law_pot := (He.ga K "_law_pot"),
    fd__law_pot := fd__law_pot,
    _law_pot_ok := o__law_pot,
    b__law_pot := Fun.binds (ps := ["_law_script", "_law_k"]) o__law_pot fun _ _ _ _ _ _ us hl => match us, hl with | [_, _], _ => rfl,
    _law_pot_mg := PySem.W.mg_of X G (He.eqO_ok (c.fact 57 rfl)),
    F__law_take := (He.ga K "_law_take"),
    fd__law_take := fd__law_take,
    _law_take_ok := o__law_take,
    b__law_take := Fun.binds (ps := ["_law_pot_here", "_law_many"]) o__law_take fun _ _ _ _ _ _ us hl => match us, hl with | [_, _], _ => rfl,
    _law_take_mg := PySem.W.mg_of X G (He.eqO_ok (c.fact 59 rfl)),
    F__law_of := (He.ga K "_law_of"),
    fd__law_of := fd__law_of,
    _law_of_ok := o__law_of,
    b__law_of := Fun.binds (ps := ["_law_pot_here", "_law_some_here"]) o__law_of fun _ _ _ _ _ _ us hl => match us, hl with | [_, _], _ => rfl,
    _law_of_mg := PySem.W.mg_of X G (He.eqO_ok (c.fact 61 rfl)),
    F__law_is_name := (He.ga K "_law_is_name"),
    fd__law_is_name := fd__law_is_name,
    _law_is_name_ok := o__law_is_name,
    b__law_is_name := Fun.binds (ps := ["_law_value"]) o__law_is_name fun _ _ _ _ _ _ us hl => match us, hl with | [_], _ => rfl,
    _law_is_name_mg := PySem.W.mg_of X G (He.eqO_ok (c.fact 63 rfl)),
    F__law_are_rising := (He.ga K "_law_are_rising"),
    fd__law_are_rising := fd__law_are_rising,
    _law_are_rising_ok := o__law_are_rising,
    b__law_are_rising := Fun.binds (ps := ["_law_names"]) o__law_are_rising fun _ _ _ _ _ _ us hl => match us, hl with | [_], _ => rfl,
    _law_are_rising_mg := PySem.W.mg_of X G (He.eqO_ok (c.fact 65 rfl)),
    F__law_items := (He.ga K "_law_items"),
    fd__law_items := fd__law_items,
    _law_items_ok := o__law_items,
    b__law_items := Fun.binds (ps := ["_law_pot_here", "_law_size", "_law_most"]) o__law_items fun _ _ _ _ _ _ us hl => match us, hl with | [_, _, _], _ => rfl,
    _law_items_mg := PySem.W.mg_of X G (He.eqO_ok (c.fact 67 rfl)),
    F__law_some := (He.ga K "_law_some"),
    fd__law_some := fd__law_some,
    _law_some_ok := o__law_some,
    b__law_some := Fun.binds (ps := ["_law_pot_here", "_law_names", "_law_many"]) o__law_some fun _ _ _ _ _ _ us hl => match us, hl with | [_, _, _], _ => rfl,
    _law_some_mg := PySem.W.mg_of X G (He.eqO_ok (c.fact 69 rfl)),
    F__law_lore := (He.ga K "_law_lore"),
    fd__law_lore := fd__law_lore,
    _law_lore_ok := o__law_lore,
    b__law_lore := Fun.binds (ps := ["_law_pot_here", "_law_sizes", "_law_upto"]) o__law_lore fun _ _ _ _ _ _ us hl => match us, hl with | [_, _, _], _ => rfl,
    _law_lore_mg := PySem.W.mg_of X G (He.eqO_ok (c.fact 71 rfl)),
    F__law_world := (He.ga K "_law_world"),
    fd__law_world := fd__law_world,
    _law_world_ok := o__law_world,
    b__law_world := Fun.binds (ps := ["_law_lore_here"]) o__law_world fun _ _ _ _ _ _ us hl => match us, hl with | [_], _ => rfl,
    _law_world_mg := PySem.W.mg_of X G (He.eqO_ok (c.fact 73 rfl)),
    F__law_is_from := (He.ga K "_law_is_from"),
    fd__law_is_from := fd__law_is_from,
    _law_is_from_ok := o__law_is_from,
    b__law_is_from := Fun.binds (ps := ["_law_value", "_law_low", "_law_high"]) o__law_is_from fun _ _ _ _ _ _ us hl => match us, hl with | [_, _, _], _ => rfl,
    _law_is_from_mg := PySem.W.mg_of X G (He.eqO_ok (c.fact 75 rfl)),
    F__law_are_works := (He.ga K "_law_are_works"),
    fd__law_are_works := fd__law_are_works,
    _law_are_works_ok := o__law_are_works,
    b__law_are_works := Fun.binds (ps := ["_law_value", "_law_has_rows"]) o__law_are_works fun _ _ _ _ _ _ us hl => match us, hl with | [_, _], _ => rfl,
    _law_are_works_mg := PySem.W.mg_of X G (He.eqO_ok (c.fact 77 rfl)),
    F__law_work_triple := (He.ga K "_law_work_triple"),
    fd__law_work_triple := fd__law_work_triple,
    _law_work_triple_ok := o__law_work_triple,
    b__law_work_triple := Fun.binds (ps := ["_law_pot_here", "_law_name", "_law_has_rows"]) o__law_work_triple fun _ _ _ _ _ _ us hl => match us, hl with | [_, _, _], _ => rfl,
    at__law_work_triple := rfl,
    cd__law_work_triple := by obtain ⟨oc, od, kV, dc, pm, an, cdv, ct, sl, e, lk, hc⟩ := o__law_work_triple.ex; have q := code_tb lk (by rw [e]) hc; subst q; exact ⟨oc, od, .none, kV, dc, pm, an, ct, sl, e, lk, hc⟩,
    _law_work_triple_mg := PySem.W.mg_of X G (He.eqO_ok (c.fact 79 rfl)),
    F__law_bent_works := (He.ga K "_law_bent_works"),
    fd__law_bent_works := fd__law_bent_works,
    _law_bent_works_ok := o__law_bent_works,
    b__law_bent_works := Fun.binds (ps := ["_law_pot_here", "_law_works"]) o__law_bent_works fun _ _ _ _ _ _ us hl => match us, hl with | [_, _], _ => rfl,
    _law_bent_works_mg := PySem.W.mg_of X G (He.eqO_ok (c.fact 81 rfl)),
    F__law_told := (He.ga K "_law_told"),
    fd__law_told := fd__law_told,
    _law_told_ok := o__law_told,
    b__law_told := Fun.binds (ps := ["_law_world_here", "_law_works", "_law_room"]) o__law_told fun _ _ _ _ _ _ us hl => match us, hl with | [_, _, _], _ => rfl,
    _law_told_mg := PySem.W.mg_of X G (He.eqO_ok (c.fact 83 rfl)),
    F__law_right := (He.ga K "_law_right"),
    fd__law_right := fd__law_right,
    _law_right_ok := o__law_right,
    b__law_right := Fun.binds (ps := ["_law_pot_here"]) o__law_right fun _ _ _ _ _ _ us hl => match us, hl with | [_], _ => rfl,
    _law_right_mg := PySem.W.mg_of X G (He.eqO_ok (c.fact 85 rfl)),
    F_law := (He.ga K "law"),
    fd_law := fd_law,
    law_ok := o_law,
    b_law := Fun.binds (ps := ["_law_script"]) o_law fun _ _ _ _ _ _ us hl => match us, hl with | [_], _ => rfl,
    law_mg := PySem.W.mg_of X G (He.eqO_ok (c.fact 87 rfl)),
    BadWorld_ev := ev_BadWorld,
    BadSetup_ev := ev_BadSetup,
    b_int := PySem.W.mg_none_of X G (He.eqO_ok (c.fact 90 rfl)),
    b_bool := PySem.W.mg_none_of X G (He.eqO_ok (c.fact 91 rfl)),
    b_str := PySem.W.mg_none_of X G (He.eqO_ok (c.fact 92 rfl)),
    b_tuple := PySem.W.mg_none_of X G (He.eqO_ok (c.fact 93 rfl)),
    b_list := PySem.W.mg_none_of X G (He.eqO_ok (c.fact 94 rfl)),
    b_abs := PySem.W.mg_none_of X G (He.eqO_ok (c.fact 95 rfl)),
    b_len := PySem.W.mg_none_of X G (He.eqO_ok (c.fact 96 rfl)),
    b_isinstance := PySem.W.mg_none_of X G (He.eqO_ok (c.fact 97 rfl)),
    b_repr := PySem.W.mg_none_of X G (He.eqO_ok (c.fact 98 rfl)),
    b_all := PySem.W.mg_none_of X G (He.eqO_ok (c.fact 99 rfl)),
    b_any := PySem.W.mg_none_of X G (He.eqO_ok (c.fact 100 rfl)),
    b_range := PySem.W.mg_none_of X G (He.eqO_ok (c.fact 101 rfl)),
    b_zip := PySem.W.mg_none_of X G (He.eqO_ok (c.fact 102 rfl)),
    b_max := PySem.W.mg_none_of X G (He.eqO_ok (c.fact 103 rfl)),
    b_min := PySem.W.mg_none_of X G (He.eqO_ok (c.fact 104 rfl)),
    b_ValueError := PySem.W.mg_none_of X G (He.eqO_ok (c.fact 105 rfl)),
    tk_LETTERS := tk_LETTERS,
    k_LETTERS := k_LETTERS,
    tk_MOST_LETTERS := tk_MOST_LETTERS,
    k_MOST_LETTERS := k_MOST_LETTERS,
    tk_LEAST_SIZE := tk_LEAST_SIZE,
    k_LEAST_SIZE := k_LEAST_SIZE,
    tk_MOST_SIZE := tk_MOST_SIZE,
    k_MOST_SIZE := k_MOST_SIZE,
    tk_LEAST_MOST := tk_LEAST_MOST,
    k_LEAST_MOST := k_LEAST_MOST,
    tk_GREATEST_MOST := tk_GREATEST_MOST,
    k_GREATEST_MOST := k_GREATEST_MOST,
    tk_MOST_CELLS := tk_MOST_CELLS,
    k_MOST_CELLS := k_MOST_CELLS,
    tk_MOST_ROWS := tk_MOST_ROWS,
    k_MOST_ROWS := k_MOST_ROWS,
    tk_MOST_WORKS := tk_MOST_WORKS,
    k_MOST_WORKS := k_MOST_WORKS,
    tk_MOST_KINDS := tk_MOST_KINDS,
    k_MOST_KINDS := k_MOST_KINDS,
    tk_LEAST_ROOM := tk_LEAST_ROOM,
    k_LEAST_ROOM := k_LEAST_ROOM,
    tk_MOST_ROOM := tk_MOST_ROOM,
    k_MOST_ROOM := k_MOST_ROOM,
    tk_NUMBER_KIND := tk_NUMBER_KIND,
    k_NUMBER_KIND := k_NUMBER_KIND,
    tk_ROW_KIND := tk_ROW_KIND,
    k_ROW_KIND := k_ROW_KIND,
    tk_PAIR := tk_PAIR,
    k_PAIR := k_PAIR,
    tk_TRIPLE := tk_TRIPLE,
    k_TRIPLE := k_TRIPLE,
    x_Worldcc := of_decide_eq_true (c.fact 122 rfl),
    x_Worldcm := of_decide_eq_true (c.fact 123 rfl),
    x_Setupcc := of_decide_eq_true (c.fact 124 rfl),
    x_Setupcm := of_decide_eq_true (c.fact 125 rfl),
    x_n_size := of_decide_eq_true (c.fact 126 rfl),
    x_n_most := of_decide_eq_true (c.fact 127 rfl),
    x_n_cells := of_decide_eq_true (c.fact 128 rfl),
    x_n_rows := of_decide_eq_true (c.fact 129 rfl),
    x_n_loose := of_decide_eq_true (c.fact 130 rfl),
    x_m_world := of_decide_eq_true (c.fact 131 rfl),
    x_m_works := of_decide_eq_true (c.fact 132 rfl),
    x_m_room := of_decide_eq_true (c.fact 133 rfl),
    x_cg := of_decide_eq_true (c.fact 134 rfl),
    x_ct := of_decide_eq_true (c.fact 135 rfl),
    x_kBS := of_decide_eq_true (c.fact 136 rfl),
    x_wne := of_decide_eq_true (c.fact 137 rfl),
    x_wob := of_decide_eq_true (c.fact 138 rfl),
    x_wss := of_decide_eq_true (c.fact 139 rfl),
    x_lamne := of_decide_eq_true (c.fact 140 rfl) }⟩
def lams : LamL := [fun K => (He.ma K (He.ga K "World") "__init__"), fun K => (He.ga K "_law_work_triple")]

end K25

namespace K25
open PySem PySem.Spec PyProof.Rows L2 L2.TP RZ
theorem weight_le {d : PyData} : ∀ {ds : List PyData}, d ∈ ds → d.weight ≤ PyData.weightAll ds
  | e :: ds, h => by
    show d.weight ≤ e.weight + 1 + PyData.weightAll ds
    rcases List.mem_cons.mp h with z | z
    · rw [z]; omega
    · have := weight_le z; omega
section
variable {P : Program} {w : World} {K : PySem.W.Frag} {mg : Str → Option Value} {base : Heap}
def spIsI : Sp := fun vs H Q _ => ∃ v d, vs = [v] ∧ Dq H v d ∧ Q (.bl (intB d && !boolB d)) H
theorem ok_is_integer (T : Tx P K mg) : FnOk P w K mg base CX0 1 T.F_is_integer T.fd_is_integer ["value"] spIsI := by
  refine T.is_integer_ok.ok sc_is_integer (fun vs H Q E h => ?_) (fun cdv A outer s H vs Q E hr h => ?_)
  · obtain ⟨v, d, rfl, _⟩ := h
    rfl
  · obtain ⟨v, d, rfl, hd, q⟩ := h
    have nd := sc_is_integer.nd
    refine ⟨_, (pss_one (ps_ret (pe_and (pe_callB call_isi (by rfl) T.b_isinstance (by decide +kernel) (pa_cons (pv 0) (pa_cons (pe_bltn (by rfl) T.b_int (by decide +kernel) (v := .ty "int") rfl) pa_nil))) (pe_one (pe_not (pe_callB call_isi (by rfl) T.b_isinstance (by decide +kernel) (pa_cons (pv 0) (pa_cons (pe_bltn (by rfl) T.b_bool (by decide +kernel) (v := .ty "bool") rfl) pa_nil)))))))), ?_⟩
    refine ⟨_, rfl, _, _, _, _, _, rfl, .ty _, tyD hd, kitI d, _, rfl, ?_⟩
    cases e : intB d with
    | false =>
      rw [e] at q
      exact iteF q
    | true =>
      rw [e] at q
      refine iteT ?_
      exact ⟨_, rfl, _, _, _, _, _, rfl, .ty _, tyD hd, kitBl d, _, rfl, q⟩
def spFrom : Sp := fun vs H Q _ => ∃ v d lo hi, vs = [v, .int lo, .int hi] ∧ Dq H v d ∧ Q (.bl (fromD lo hi d)) H
theorem ok_is_from (T : Tx P K mg) : FnOk P w K mg base CX0 2 T.F_is_from T.fd_is_from ["value", "low", "high"] spFrom := by
  refine T.is_from_ok.ok sc_is_from (fun vs H Q E h => ?_) (fun cdv A outer s H vs Q E hr h => ?_)
  · obtain ⟨v, d, lo, hi, rfl, _⟩ := h
    rfl
  · obtain ⟨v, d, lo, hi, rfl, hd, q⟩ := h
    have nd := sc_is_from.nd
    refine ⟨_, (pss_one (ps_ret (pe_and (pe_call (ok_is_integer T) (hr.mono (by decide)) rfl T.is_integer_mg T.is_integer_ok.kp T.b_is_integer .nil pass0 (pa_cons (pv 0) pa_nil)) (pe_one (pe_chain op_le op_le (pv 1) (pv 0) (pv 2)))))), ?_⟩
    refine ⟨_, rfl, v, d, rfl, hd, _, rfl, ?_⟩
    cases e : (intB d && !boolB d) with
    | false =>
      rw [from_false e] at q
      exact iteF q
    | true =>
      obtain ⟨i, rfl⟩ := isI_int e
      cases hd
      refine iteT ?_
      refine ⟨_, rfl, _, rfl, _, _, rfl, rfl, _, rfl, ?_⟩
      have q : Q (.bl (decide (lo ≤ i) && decide (i ≤ hi))) H := q
      by_cases c : lo ≤ i
      · rw [decide_eq_true c] at q ⊢
        exact iteT ⟨_, rfl, _, _, rfl, rfl, q⟩
      · rw [decide_eq_false c] at q ⊢
        exact iteF q
def spIsName : Sp := fun vs H Q _ => ∃ v d, vs = [v] ∧ Dq H v d ∧ d.weight ≤ 100000 ∧ ∀ H', Ext H H' → Q (.bl (nameD d)) H'
theorem ok_is_name (T : Tx P K mg) : FnOk P w K mg base CX0 1 T.F_is_name T.fd_is_name ["value"] spIsName := by
  refine T.is_name_ok.ok sc_is_name (fun vs H Q E h => ?_) (fun cdv A outer s H vs Q E hr h => ?_)
  · obtain ⟨v, d, rfl, _⟩ := h
    rfl
  · obtain ⟨v, d, rfl, hd, wt, q⟩ := h
    have nd := sc_is_name.nd
    refine ⟨_, (pss_cons (ps_if (PW.pt (pw_or (pt_not (pt_val (pe_callB call_isi (by rfl) T.b_isinstance (by decide +kernel) (pa_cons (pv 0) (pa_cons (pe_bltn (by rfl) T.b_str (by decide +kernel) (v := .ty "str") rfl) pa_nil))))) (pw_or1 (pt_not (pt_chain op_le op_le pe_int (pe_callB call_len_str (by rfl) T.b_len (by decide +kernel) (pa_cons (pv 0) pa_nil)) (pe_glob (v := .int 8) rfl T.k_MOST_LETTERS ⟨_, rfl⟩)))))) (pss_one (ps_ret pe_bl)) pss_nil) (pss_one (ps_ret (pe_callB (cr_all rfl) (by rfl) T.b_all (by decide +kernel) (pa_cons (pe_lc (own := [("sign", 1)]) (g := gName 1) (by rfl) nd (pi_str (pv 0)) (blkOk_by (own := [("sign", 1)]) (N := N_is_name) (sc := defScope s_is_name) (by decide +kernel)) (fun _ _ _ _ _ => (pg_name (i := 1) nd rfl (Or.inl rfl))) (fun _ _ _ _ _ => pts_nil) (fun _ _ _ _ _ => (pe_cmpR op_in_str (pv 1) (pe_glob (v := .str "abcdefghijklmnopqrstuvwxyz") rfl T.k_LETTERS ⟨_, rfl⟩) (by rfl)))) pa_nil))))), ?_⟩
    refine ⟨_, rfl, _, _, _, _, _, rfl, .ty _, tyD hd, kitS d, _, rfl, ?_⟩
    cases e : strB d with
    | false =>
      have z := q H Ext.rfl'
      have n : nameD d = false := by cases d <;> first | rfl | (cases e; done)
      rw [n] at z
      exact iteT z
    | true =>
      obtain ⟨x, rfl⟩ := strB_of e
      cases hd
      have fit : x.length ≤ sizeLine := Nat.le_trans (show x.cps.size ≤ 100000 from wt) (by decide)
      refine iteF ?_
      refine ⟨_, rfl, x, rfl, fit, _, _, rfl, rfl, _, rfl, ?_⟩
      have nm : nameD (.str x) = ((decide (1 ≤ (x.length : Int)) && decide ((x.length : Int) ≤ 8)) && x.cps.toList.all signB) := rfl
      by_cases c1 : 1 ≤ (x.length : Int)
      · rw [decide_eq_true c1] at nm ⊢
        refine iteT ⟨_, _, rfl, rfl, ?_⟩
        by_cases c2 : (x.length : Int) ≤ 8
        · rw [decide_eq_true c2] at nm
          refine ⟨true, congrArg V.bl (decide_eq_true c2), iteF ?_⟩
          refine ⟨_, rfl, x, rfl, fun D hD => ?_⟩
          have sz : x.cps.size ≤ 100000 := wt
          refine lc_flat (walk_str (z := x)) (fun i => .bl (signB (x.cps.toList.getD i 0))) hD sz trivial (fun _ _ _ h => h) ?_ ?_
          · rintro i y H5 H6 acc Q' hi X6 hl hDa gH ⟨rfl, cc, hc, rfl⟩ k6
            refine ⟨rfl, ?_⟩
            have ec : x.cps.toList.getD i 0 = cc := by
              rw [List.getD_eq_getElem?_getD, Array.getElem?_toList, hc]
              rfl
            have z := k6 H6 Ext.rfl'
            rw [ec] at z
            exact ⟨_, rfl, _, _, rfl, rfl, z⟩
          · intro H6 X6 f6
            have ll : x.cps.size = x.cps.toList.length := by simp
            have eb : (List.range x.cps.size).map (fun i => V.bl (signB (x.cps.toList.getD i 0))) = (x.cps.toList.map signB).map V.bl := by
              rw [ll, List.map_map]
              refine range_map fun i y hy => ?_
              rw [List.getD_eq_getElem?_getD, hy]
              rfl
            rw [eb] at f6
            refine ⟨D, _, rfl, SqL.of f6, ?_⟩
            have z := q H6 X6
            rw [nm, Bool.true_and, Bool.true_and] at z
            rw [List.all_map]
            exact z
        · rw [decide_eq_false c2] at nm
          refine ⟨false, congrArg V.bl (decide_eq_false c2), iteT ?_⟩
          have z := q H Ext.rfl'
          rw [nm] at z
          exact z
      · rw [decide_eq_false c1] at nm ⊢
        refine iteF ⟨_, rfl, iteT ?_⟩
        have z := q H Ext.rfl'
        rw [nm] at z
        exact z
def tupnB (n : Int) : PyData → Bool
  | .tuple ds => decide (V.int (ds.length : Nat) = V.int n)
  | _ => false
def spIsTup : Sp := fun vs H Q _ => ∃ v d n, vs = [v, .int n] ∧ Dq H v d ∧ Q (.bl (tupnB n d)) H
theorem ok_is_tuple (T : Tx P K mg) : FnOk P w K mg base CX0 1 T.F_is_tuple T.fd_is_tuple ["value", "many"] spIsTup := by
  refine T.is_tuple_ok.ok sc_is_tuple (fun vs H Q E h => ?_) (fun cdv A outer s H vs Q E hr h => ?_)
  · obtain ⟨v, d, n, rfl, _⟩ := h
    rfl
  · obtain ⟨v, d, n, rfl, hd, q⟩ := h
    have nd := sc_is_tuple.nd
    refine ⟨_, (pss_one (ps_ret (pe_and (pe_callB call_isi (by rfl) T.b_isinstance (by decide +kernel) (pa_cons (pv 0) (pa_cons (pe_bltn (by rfl) T.b_tuple (by decide +kernel) (v := .ty "tuple") rfl) pa_nil))) (pe_one (pe_cmpR op_eq (pe_callB call_len_seq (by rfl) T.b_len (by decide +kernel) (pa_cons (pv 0) pa_nil)) (pv 1) (nomark _)))))), ?_⟩
    refine ⟨_, rfl, _, _, _, _, _, rfl, .ty _, tyD hd, kitT d, _, rfl, ?_⟩
    cases e : tupB d with
    | false =>
      have n' : tupnB n d = false := by cases d <;> first | rfl | (cases e; done)
      rw [n'] at q
      exact iteF q
    | true =>
      obtain ⟨ds, rfl⟩ := tupB_of e
      cases hd with
      | tup ha al =>
        rename_i a xs
        refine iteT ⟨_, rfl, a, xs, rfl, .inr (SqT.of ha), _, rfl, rfl, ?_⟩
        have ll := all_len al
        have q : Q (.bl (decide (V.int (ds.length : Nat) = V.int n))) H := q
        rw [← ll] at q
        exact q
/-- things in order -/
def spRise (K : PySem.W.Frag) : Sp := fun vs H Q _ => ∃ (a : Addr) (xs : List Str), vs = [.ref a] ∧ (SqL K H a (xs.map V.str) ∨ SqT K H a (xs.map V.str)) ∧ xs.length ≤ 1000 ∧ ∀ H', Ext H H' → Q (.bl (risingS xs)) H'
theorem ok_is_rising (T : Tx P K mg) : FnOk P w K mg base CX0 1 T.F_is_rising T.fd_is_rising ["things"] (spRise K) := by
  refine T.is_rising_ok.ok sc_is_rising (fun vs H Q E h => ?_) (fun cdv A outer s H vs Q E hr h => ?_)
  · obtain ⟨a, xs, rfl, _⟩ := h
    rfl
  · obtain ⟨a, xs, rfl, hx, hl, q⟩ := h
    have nd := sc_is_rising.nd
    have pr : ∀ {i : Nat} {x y : V}, (xs.map V.str)[i]? = some x → (xs.tail.map V.str)[i]? = some y → ∃ s1 s2, x = .str s1 ∧ y = .str s2 ∧ xs.getD i "" = s1 ∧ xs.tail.getD i "" = s2 := fun {i x y} h1 h2 => by
      rw [List.getElem?_map] at h1 h2
      obtain ⟨s1, e1, rfl⟩ := Option.map_eq_some_iff.mp h1
      obtain ⟨s2, e2, rfl⟩ := Option.map_eq_some_iff.mp h2
      exact ⟨s1, s2, rfl, rfl, by rw [List.getD_eq_getElem?_getD, e1]; rfl, by rw [List.getD_eq_getElem?_getD, e2]; rfl⟩
    have fn : ∀ n, n = min (xs.map V.str).length (xs.tail.map V.str).length → ((List.range n).map fun i => ltS (xs.getD i "") (xs.tail.getD i "")).all id = risingS xs := fun n hn => by
      rw [List.length_map, List.length_map] at hn
      exact zip_range (f := ltS) hn
    have len : min (xs.map V.str).length (xs.tail.map V.str).length ≤ 100000 := by rw [List.length_map]; omega
    refine ⟨_, (pss_one (ps_ret (pe_callB (cr_all rfl) (by rfl) T.b_all (by decide +kernel) (pa_cons (pe_lc (own := [("one", 1), ("other", 2)]) (g := gTup K 2 (gCons (gName 1) (gCons (gName 2) gNil))) (by rfl) nd (pi_zipK (K := K) rfl (by rfl) T.b_zip (pa_cons (pv 0) (pa_cons (pe_slice (SlR.or sl_list sl_tupA) (pv 0) (po_some pe_int) po_none) pa_nil))) (blkOk_by (own := [("one", 1), ("other", 2)]) (N := N_is_rising) (sc := defScope s_is_rising) (by decide +kernel)) (fun _ _ _ _ _ => (pg_tup rfl (pgs_cons (pg_name (i := 1) nd rfl (Or.inl rfl)) (pgs_cons (pg_name (i := 2) nd rfl (Or.inl rfl)) pgs_nil)))) (fun _ _ _ _ _ => pts_nil) (fun _ _ _ _ _ => (pe_cmpR op_lt_str (pv 1) (pv 2) (nomark _)))) pa_nil)))), ?_⟩
    rcases hx with hx | hx
    · refine ⟨_, rfl, _, rfl, _, rfl, .inl ⟨a, _, rfl, hx, fun b hb => ?_⟩⟩
      rw [cut1, tail_map]
      have xb := ext_upd (o := HO.lst (xs.tail.map V.str)) hb
      refine ⟨a, b, _, _, rfl, .inl ⟨hx.ext xb, SqL.of upd_same, fun D hD => ?_⟩⟩
      refine lc_flat (walk_zip (K := K) (a := a) (b := b) (xs := xs.map V.str) (ys := xs.tail.map V.str) rfl) (fun i => .bl (ltS (xs.getD i "") (xs.tail.getD i ""))) hD len ⟨hx.ext xb, SqL.of upd_same⟩ (fun _ _ e h => ⟨h.1.ext e, h.2.ext e⟩) ?_ ?_
      · rintro i y H5 H6 acc Q' hi X6 hl hDa gH ⟨t, x1, x2, rfl, ht, rfl, h1, h2⟩ k6
        obtain ⟨s1, s2, rfl, rfl, e1, e2⟩ := pr h1 h2
        have z := k6 _ (ext_upd (o := HO.tup [.str s1, .str s2]) ht)
        rw [e1, e2] at z
        refine ⟨t, _, rfl, SqT.of upd_same, rfl, _, _, rfl, _, _, rfl, rfl, rfl, ?_⟩
        exact ⟨_, rfl, _, rfl, _, _, rfl, rfl, z⟩
      · intro H6 X6 f6
        refine ⟨D, (List.range _).map fun i => ltS (xs.getD i "") (xs.tail.getD i ""), rfl, SqL.of (by rw [List.map_map]; exact f6), ?_⟩
        rw [fn _ rfl]
        exact q _ (xb.trans X6)
    · by_cases wh : xs = []
      · subst wh
        refine ⟨_, rfl, _, rfl, _, rfl, .inr ⟨a, _, rfl, hx, fun _ => ?_, fun n => absurd ⟨rfl, rfl⟩ n⟩⟩
        refine ⟨a, a, _, _, rfl, .inr ⟨hx, hx, fun D hD => ?_⟩⟩
        refine lc_flat (walk_zipT (K := K) (a := a) (b := a) (xs := ([] : List Str).map V.str) (ys := ([] : List Str).tail.map V.str) rfl) (fun i => .bl (ltS (([] : List Str).getD i "") (([] : List Str).tail.getD i ""))) hD len ⟨hx, hx⟩ (fun _ _ e h => ⟨h.1.ext e, h.2.ext e⟩) ?_ ?_
        · rintro i y H5 H6 acc Q' hi X6 hl hDa gH ⟨t, x1, x2, rfl, ht, rfl, h1, h2⟩ k6
          obtain ⟨s1, s2, rfl, rfl, e1, e2⟩ := pr h1 h2
          have z := k6 _ (ext_upd (o := HO.tup [.str s1, .str s2]) ht)
          rw [e1, e2] at z
          refine ⟨t, _, rfl, SqT.of upd_same, rfl, _, _, rfl, _, _, rfl, rfl, rfl, ?_⟩
          exact ⟨_, rfl, _, rfl, _, _, rfl, rfl, z⟩
        · intro H6 X6 f6
          refine ⟨D, (List.range _).map fun i => ltS (([] : List Str).getD i "") (([] : List Str).tail.getD i ""), rfl, SqL.of (by rw [List.map_map]; exact f6), ?_⟩
          rw [fn _ rfl]
          exact q _ X6
      · have nw : ¬ (HT.sIx (xs.map V.str).length 0 (some 1) = 0 ∧ HT.sIx (xs.map V.str).length (xs.map V.str).length none = (xs.map V.str).length) := fun z => by
          have h1 : HT.sIx (xs.map V.str).length 0 (some (1 : Int)) = min 1 (xs.map V.str).length := HT.sIx_nat _ _ 1
          have h2 : 0 < (xs.map V.str).length := by
            rw [List.length_map]
            exact List.length_pos_iff.mpr wh
          have := z.1
          omega
        refine ⟨_, rfl, _, rfl, _, rfl, .inr ⟨a, _, rfl, hx, fun z => absurd z nw, fun _ b hb => ?_⟩⟩
        rw [cut1, tail_map]
        have xb := ext_upd (o := HO.tup (xs.tail.map V.str)) hb
        refine ⟨a, b, _, _, rfl, .inr ⟨hx.ext xb, SqT.of upd_same, fun D hD => ?_⟩⟩
        refine lc_flat (walk_zipT (K := K) (a := a) (b := b) (xs := xs.map V.str) (ys := xs.tail.map V.str) rfl) (fun i => .bl (ltS (xs.getD i "") (xs.tail.getD i ""))) hD len ⟨hx.ext xb, SqT.of upd_same⟩ (fun _ _ e h => ⟨h.1.ext e, h.2.ext e⟩) ?_ ?_
        · rintro i y H5 H6 acc Q' hi X6 hl hDa gH ⟨t, x1, x2, rfl, ht, rfl, h1, h2⟩ k6
          obtain ⟨s1, s2, rfl, rfl, e1, e2⟩ := pr h1 h2
          have z := k6 _ (ext_upd (o := HO.tup [.str s1, .str s2]) ht)
          rw [e1, e2] at z
          refine ⟨t, _, rfl, SqT.of upd_same, rfl, _, _, rfl, _, _, rfl, rfl, rfl, ?_⟩
          exact ⟨_, rfl, _, rfl, _, _, rfl, rfl, z⟩
        · intro H6 X6 f6
          refine ⟨D, (List.range _).map fun i => ltS (xs.getD i "") (xs.tail.getD i ""), rfl, SqL.of (by rw [List.map_map]; exact f6), ?_⟩
          rw [fn _ rfl]
          exact q _ (xb.trans X6)
end

end K25

namespace K25
open PySem PySem.Spec PyProof.Rows L2 L2.TP RZ
section
variable {P : Program} {w : World} {K : PySem.W.Frag} {mg : Str → Option Value} {base : Heap}
def spWorth : Sp := fun vs H Q _ => ∃ v d n, vs = [.int n, v] ∧ Dq H v d ∧ Q (.bl (fromD 0 (n - 1) d)) H
theorem ok_is_worth (T : Tx P K mg) : FnOk P w K mg base CX0 3 T.F_is_worth T.fd_is_worth ["size", "value"] spWorth := by
  refine T.is_worth_ok.ok sc_is_worth (fun vs H Q E h => ?_) (fun cdv A outer s H vs Q E hr h => ?_)
  · obtain ⟨v, d, n, rfl, _⟩ := h
    rfl
  · obtain ⟨v, d, n, rfl, hd, q⟩ := h
    have nd := sc_is_worth.nd
    refine ⟨_, (pss_one (ps_ret (pe_call (ok_is_from T) (hr.mono (by decide)) rfl T.is_from_mg T.is_from_ok.kp T.b_is_from .nil pass0 (pa_cons (pv 1) (pa_cons pe_int (pa_cons (pe_op op_sub (pv 0) pe_int) pa_nil)))))), ?_⟩
    exact ⟨_, rfl, _, rfl, _, _, rfl, rfl, v, d, 0, n - 1, rfl, hd, q⟩
def spAre : Sp := fun vs H Q _ => ∃ (n m : Int) (v : V) (d : PyData), vs = [.int n, .int m, v] ∧ Dq H v d ∧ m ≤ 2 ∧ ∀ H', Ext H H' → Q (.bl (areD n m d)) H'
theorem ok_are_items (T : Tx P K mg) : FnOk P w K mg base CX0 4 T.F_are_items T.fd_are_items ["size", "most", "value"] spAre := by
  refine T.are_items_ok.ok sc_are_items (fun vs H Q E h => ?_) (fun cdv A outer s H vs Q E hr h => ?_)
  · obtain ⟨n, m, v, d, rfl, _⟩ := h
    rfl
  · obtain ⟨n, m, v, d, rfl, hd, m2, k⟩ := h
    have nd := sc_are_items.nd
    refine ⟨_, (pss_cons (ps_if (PW.pt (pw_or (pt_not (pt_val (pe_callB call_isi (by rfl) T.b_isinstance (by decide +kernel) (pa_cons (pv 2) (pa_cons (pe_bltn (by rfl) T.b_tuple (by decide +kernel) (v := .ty "tuple") rfl) pa_nil))))) (pw_or1 (pt_cmpR op_gt (pe_callB call_len_seq (by rfl) T.b_len (by decide +kernel) (pa_cons (pv 2) pa_nil)) (pv 1) (nomark _))))) (pss_one (ps_ret pe_bl)) pss_nil) (pss_one (ps_ret (pe_callB (cr_all rfl) (by rfl) T.b_all (by decide +kernel) (pa_cons (pe_lc (own := [("one", 3)]) (g := gName 3) (by rfl) nd (pi_tup (pv 2)) (blkOk_by (own := [("one", 3)]) (N := N_are_items) (sc := defScope s_are_items) (by decide +kernel)) (fun _ _ _ _ _ => (pg_name (i := 3) nd rfl (Or.inl rfl))) (fun _ _ _ _ _ => pts_nil) (fun _ _ _ _ _ => (pe_call (ok_is_from T) (hr.mono (by decide)) rfl T.is_from_mg T.is_from_ok.kp T.b_is_from .nil pass0 (pa_cons (pv 3) (pa_cons pe_int (pa_cons (pe_op op_sub (pv 0) pe_int) pa_nil)))))) pa_nil))))), ?_⟩
    refine ⟨_, rfl, _, _, _, _, _, rfl, .ty _, tyD hd, kitT d, _, rfl, ?_⟩
    cases e : tupB d with
    | false =>
      have z := k H Ext.rfl'
      have n' : areD n m d = false := by cases d <;> first | rfl | (cases e; done)
      rw [n'] at z
      exact iteT z
    | true =>
      obtain ⟨ds, rfl⟩ := tupB_of e
      cases hd with
      | tup ht al =>
      rename_i a xs
      refine iteF ?_
      refine ⟨_, rfl, a, _, rfl, .inr (SqT.of ht), _, rfl, _, _, rfl, rfl, _, rfl, ?_⟩
      have ll := all_len al
      by_cases c : (ds.length : Int) ≤ m
      · refine (if_neg (show ¬ decide (m < (xs.length : Int)) = true from fun z => absurd (of_decide_eq_true z) (by omega))).mpr ?_
        refine ⟨_, rfl, a, rfl, ⟨_, SqT.of ht⟩, fun D hD => ?_⟩
        refine lc_flat (walk_tup (K := K) (a := a) (xs := xs)) (fun i => .bl (fromD 0 (n - 1) (ds.getD i .none))) hD (by omega) (SqT.of ht) (fun _ _ e h => h.ext e) ?_ ?_
        · rintro i y H5 H6 acc Q' hi X6 hl hDa gH ⟨rfl, hy⟩ k6
          obtain ⟨f, hf, df⟩ := all_at al hy
          have z := k6 H6 Ext.rfl'
          rw [List.getD_eq_getElem?_getD, hf] at z
          refine ⟨rfl, ?_⟩
          exact ⟨_, rfl, _, rfl, _, _, rfl, rfl, y, f, 0, n - 1, rfl, df.ext X6, z⟩
        · intro H6 X6 f6
          have eb : (List.range xs.length).map (fun i => V.bl (fromD 0 (n - 1) (ds.getD i .none))) = (ds.map (fromD 0 (n - 1))).map V.bl := by
            rw [ll, List.map_map]
            refine range_map fun i y hy => ?_
            rw [List.getD_eq_getElem?_getD, hy]
            rfl
          rw [eb] at f6
          refine ⟨D, _, rfl, SqL.of f6, ?_⟩
          have z := k H6 X6
          have e : areD n m (.tuple ds) = (ds.map (fromD 0 (n - 1))).all id := by
            show (decide ((ds.length : Int) ≤ m) && ds.all (fromD 0 (n - 1))) = _
            rw [decide_eq_true c, Bool.true_and, List.all_map]
            rfl
          rw [e] at z
          exact z
      · refine (if_pos (show decide (m < (xs.length : Int)) = true from decide_eq_true (by omega))).mpr ?_
        have z := k H Ext.rfl'
        have e : areD n m (.tuple ds) = false := by
          show (decide ((ds.length : Int) ≤ m) && ds.all (fromD 0 (n - 1))) = _
          rw [decide_eq_false c]
          rfl
        rw [e] at z
        exact z
def spNames : Sp := fun vs H Q _ => ∃ (m : Int) (v : V) (d : PyData), vs = [v, .int m] ∧ Dq H v d ∧ d.weight ≤ 100000 ∧ m ≤ 1000 ∧ ∀ H', Ext H H' → Q (.bl (namesD m d)) H'
theorem ok_are_names (T : Tx P K mg) : FnOk P w K mg base CX0 4 T.F_are_names T.fd_are_names ["value", "most"] spNames := by
  refine T.are_names_ok.ok sc_are_names (fun vs H Q E h => ?_) (fun cdv A outer s H vs Q E hr h => ?_)
  · obtain ⟨m, v, d, rfl, _⟩ := h
    rfl
  · obtain ⟨m, v, d, rfl, hd, wt, m2, k⟩ := h
    have nd := sc_are_names.nd
    refine ⟨_, (pss_cons (ps_if (PW.pt (pw_or (pt_not (pt_val (pe_callB call_isi (by rfl) T.b_isinstance (by decide +kernel) (pa_cons (pv 0) (pa_cons (pe_bltn (by rfl) T.b_tuple (by decide +kernel) (v := .ty "tuple") rfl) pa_nil))))) (pw_or (pt_cmpR op_gt (pe_callB call_len_seq (by rfl) T.b_len (by decide +kernel) (pa_cons (pv 0) pa_nil)) (pv 1) (nomark _)) (pw_or1 (pt_not (pt_val (pe_callB (cr_all rfl) (by rfl) T.b_all (by decide +kernel) (pa_cons (pe_lc (own := [("one", 2)]) (g := gName 2) (by rfl) nd (pi_tup (pv 0)) (blkOk_by (own := [("one", 2)]) (N := N_are_names) (sc := defScope s_are_names) (by decide +kernel)) (fun _ _ _ _ _ => (pg_name (i := 2) nd rfl (Or.inl rfl))) (fun _ _ _ _ _ => pts_nil) (fun _ _ _ _ _ => (pe_call (ok_is_name T) (hr.mono (by decide)) rfl T.is_name_mg T.is_name_ok.kp T.b_is_name .nil pass0 (pa_cons (pv 2) pa_nil)))) pa_nil)))))))) (pss_one (ps_ret pe_bl)) pss_nil) (pss_one (ps_ret (pe_call (ok_is_rising T) (hr.mono (by decide)) rfl T.is_rising_mg T.is_rising_ok.kp T.b_is_rising .nil pass0 (pa_cons (pv 0) pa_nil))))), ?_⟩
    refine ⟨_, rfl, _, _, _, _, _, rfl, .ty _, tyD hd, kitT d, _, rfl, ?_⟩
    cases e : tupB d with
    | false =>
      have z := k H Ext.rfl'
      have n' : namesD m d = false := by cases d <;> first | rfl | (cases e; done)
      rw [n'] at z
      exact iteT z
    | true =>
      obtain ⟨ds, rfl⟩ := tupB_of e
      cases hd with
      | tup ht al =>
      rename_i a xs
      refine iteF ?_
      refine ⟨_, rfl, a, _, rfl, .inr (SqT.of ht), _, rfl, _, _, rfl, rfl, _, rfl, ?_⟩
      have ll := all_len al
      have nm : namesD m (.tuple ds) = (decide ((ds.length : Int) ≤ m) && (ds.all nameD && risingS (ds.map strD))) := rfl
      by_cases c : (ds.length : Int) ≤ m
      · rw [decide_eq_true c, Bool.true_and] at nm
        refine (if_neg (show ¬ decide (m < (xs.length : Int)) = true from fun z => absurd (of_decide_eq_true z) (by omega))).mpr ?_
        refine ⟨_, rfl, a, rfl, ⟨_, SqT.of ht⟩, fun D hD => ?_⟩
        refine lc_flat (walk_tup (K := K) (a := a) (xs := xs)) (fun i => .bl (nameD (ds.getD i .none))) hD (by omega) (SqT.of ht) (fun _ _ e h => h.ext e) ?_ ?_
        · rintro i y H5 H6 acc Q' hi X6 hl hDa gH ⟨rfl, hy⟩ k6
          obtain ⟨f, hf, df⟩ := all_at al hy
          refine ⟨rfl, ?_⟩
          refine ⟨_, rfl, y, f, rfl, df.ext X6, Nat.le_trans (weight_le (List.mem_of_getElem? hf)) wt, fun H7 X7 => ?_⟩
          have z := k6 H7 X7
          rw [List.getD_eq_getElem?_getD, hf] at z
          exact z
        · intro H6 X6 f6
          have eb : (List.range xs.length).map (fun i => V.bl (nameD (ds.getD i .none))) = (ds.map nameD).map V.bl := by
            rw [ll, List.map_map]
            refine range_map fun i y hy => ?_
            rw [List.getD_eq_getElem?_getD, hy]
            rfl
          rw [eb] at f6
          refine ⟨D, _, rfl, SqL.of f6, _, rfl, ?_⟩
          have ea : (ds.map nameD).all id = ds.all nameD := by rw [List.all_map]; rfl
          rw [ea]
          cases c2 : ds.all nameD with
          | false =>
            rw [c2] at nm
            have z := k H6 X6
            rw [nm] at z
            exact iteT z
          | true =>
            rw [c2, Bool.true_and] at nm
            refine iteF ?_
            have sb : ds.all strB = true := List.all_eq_true.mpr fun x hx => by
              obtain ⟨y, rfl, _⟩ := nameD_of (List.all_eq_true.mp c2 x hx)
              rfl
            have hs := (SqT.of ht).ext (K := K) X6
            rw [strs_of al sb] at hs
            refine ⟨_, rfl, a, _, rfl, .inr hs, by rw [List.length_map]; omega, fun H7 X7 => ?_⟩
            have z := k H7 (X6.trans X7)
            rw [nm] at z
            exact z
      · refine (if_pos (show decide (m < (xs.length : Int)) = true from decide_eq_true (by omega))).mpr ?_
        have z := k H Ext.rfl'
        rw [nm, decide_eq_false c] at z
        exact z
end

end K25

namespace K25
open PySem PySem.Spec PyProof.Rows L2 L2.TP RZ
theorem tupn_of {f : PyData} (h : tupnB 2 f = true) : ∃ a b, f = .tuple [a, b] := by
  cases f with
  | tuple ds =>
    have h : decide (V.int (ds.length : Nat) = V.int 2) = true := h
    have e := of_decide_eq_true h
    injection e with e
    match ds, e with
    | [a, b], _ => exact ⟨a, b, rfl⟩
    | [], e => simp at e
    | [_], e => simp at e
    | _ :: _ :: _ :: _, e => simp at e; omega
  | _ => cases h
theorem pair_false {part : PyData → Bool} {f : PyData} (h : tupnB 2 f = false) : pairD part f = false := by
  cases q : pairD part f with
  | false => rfl
  | true =>
    obtain ⟨x, b, rfl, _⟩ := pairD_of q
    cases h
section
variable {P : Program} {w : World} {K : PySem.W.Frag} {mg : Str → Option Value} {base : Heap}
def spNamed (P : Program) (w : World) (K : PySem.W.Frag) (mg : Str → Option Value) (base : Heap) : Sp := fun vs H Q _ => ∃ (m : Int) (v : V) (d : PyData) (f : Addr) (F : LF) (cs : Cels) (sp : Sp) (part : PyData → Bool), vs = [v, .int m, .ref f] ∧ Dq H v d ∧ d.weight ≤ 100000 ∧ m ≤ 1000 ∧ LOk P w K mg base 6 f F cs sp ∧ LamAt H f F cs ∧
  (∀ u e H1 (Q1 : VK), Ext H H1 → Dq H1 u e → (∀ H2, Ext H1 H2 → Q1 (.bl (part e)) H2) → sp [u] H1 Q1 C8.E0) ∧ ∀ H', Ext H H' → Q (.bl (namedD m part d)) H'
theorem ok_are_named (T : Tx P K mg) : FnOk P w K mg base CX0 8 T.F_are_named T.fd_are_named ["value", "most", "is_part"] (spNamed P w K mg base) := by
  refine T.are_named_ok.ok sc_are_named (fun vs H Q E h => ?_) (fun cdv A outer s H vs Q E hr h => ?_)
  · obtain ⟨m, v, d, f, F, cs, sp, part, rfl, _⟩ := h
    rfl
  · obtain ⟨m, v, d, f, F, cs, sp, part, rfl, hd, wt, m2, LO, LA, hp, k⟩ := h
    have nd := sc_are_named.nd
    refine ⟨_, (pss_cons (ps_if (PW.pt (pw_or (pt_not (pt_val (pe_callB call_isi (by rfl) T.b_isinstance (by decide +kernel) (pa_cons (pv 0) (pa_cons (pe_bltn (by rfl) T.b_tuple (by decide +kernel) (v := .ty "tuple") rfl) pa_nil))))) (pw_or1 (pt_cmpR op_gt (pe_callB call_len_seq (by rfl) T.b_len (by decide +kernel) (pa_cons (pv 0) pa_nil)) (pv 1) (nomark _))))) (pss_one (ps_ret pe_bl)) pss_nil) (pss_cons (ps_if (pt_not (pt_val (pe_callB (cr_all rfl) (by rfl) T.b_all (by decide +kernel) (pa_cons (pe_lc (own := [("pair", 5)]) (g := gName 5) (by rfl) nd (pi_tup (pv 0)) (blkOk_by (own := [("pair", 5)]) (N := N_are_named) (sc := defScope s_are_named) (by decide +kernel)) (fun _ _ _ _ _ => (pg_name (i := 5) nd rfl (Or.inl rfl))) (fun _ _ _ _ _ => pts_nil) (fun _ _ _ _ _ => (pe_and (pe_call (ok_is_tuple T) (hr.mono (by decide)) rfl T.is_tuple_mg T.is_tuple_ok.kp T.b_is_tuple .nil pass0 (pa_cons (pv 5) (pa_cons (pe_glob (v := .int 2) rfl T.k_PAIR ⟨_, rfl⟩) pa_nil))) (pe_and (pe_call (ok_is_name T) (hr.mono (by decide)) rfl T.is_name_mg T.is_name_ok.kp T.b_is_name .nil pass0 (pa_cons (pe_ix (ix_tupK (K := K) rfl) (pv 5) pe_int (fun _ _ => rfl)) pa_nil)) (pe_one (pe_callLm LO (hr.mono (by decide)) (i := 2) rfl (by first | exact .inl rfl | exact .inr (.inl rfl) | exact .inr (.inr rfl)) (pa_cons (pe_ix (ix_tupK (K := K) rfl) (pv 5) pe_int (fun _ _ => rfl)) pa_nil))))))) pa_nil)))) (pss_one (ps_ret pe_bl)) pss_nil) (pss_one (ps_ret (pe_call (ok_is_rising T) (hr.mono (by decide)) rfl T.is_rising_mg T.is_rising_ok.kp T.b_is_rising .nil pass0 (pa_cons (pe_lc (own := [("name", 3), ("part", 4)]) (g := gTup K 2 (gCons (gName 3) (gCons (gName 4) gNil))) (by rfl) nd (pi_tup (pv 0)) (blkOk_by (own := [("name", 3), ("part", 4)]) (N := N_are_named) (sc := defScope s_are_named) (by decide +kernel)) (fun _ _ _ _ _ => (pg_tup rfl (pgs_cons (pg_name (i := 3) nd rfl (Or.inl rfl)) (pgs_cons (pg_name (i := 4) nd rfl (Or.inl rfl)) pgs_nil)))) (fun _ _ _ _ _ => pts_nil) (fun _ _ _ _ _ => (pv 3))) pa_nil)))))), ?_⟩
    refine ⟨_, rfl, _, _, _, _, _, rfl, .ty _, tyD hd, kitT d, _, rfl, ?_⟩
    cases e : tupB d with
    | false =>
      have z := k H Ext.rfl'
      have n' : namedD m part d = false := by cases d <;> first | rfl | (cases e; done)
      rw [n'] at z
      exact iteT z
    | true =>
      obtain ⟨ds, rfl⟩ := tupB_of e
      cases hd with
      | tup ht al =>
      rename_i a xs
      refine iteF ?_
      refine ⟨_, rfl, a, _, rfl, .inr (SqT.of ht), _, rfl, _, _, rfl, rfl, _, rfl, ?_⟩
      have ll := all_len al
      have nm : namedD m part (.tuple ds) = (decide ((ds.length : Int) ≤ m) && (ds.all (pairD part) && risingS (ds.map fun d => strD (fstD d)))) := rfl
      by_cases c : (ds.length : Int) ≤ m
      · rw [decide_eq_true c, Bool.true_and] at nm
        refine (if_neg (show ¬ decide (m < (xs.length : Int)) = true from fun z => absurd (of_decide_eq_true z) (by omega))).mpr ?_
        refine ⟨_, rfl, a, rfl, ⟨_, SqT.of ht⟩, fun D hD => ?_⟩
        refine lc_flat (walk_tup (K := K) (a := a) (xs := xs)) (fun i => .bl (pairD part (ds.getD i .none))) hD (by omega) (SqT.of ht) (fun _ _ e h => h.ext e) ?_ ?_
        · rintro i y H5 H6 acc Q' hi X6 hl hDa gH ⟨rfl, hy⟩ k6
          obtain ⟨g, hg, dg⟩ := all_at al hy
          have wg := Nat.le_trans (weight_le (List.mem_of_getElem? hg)) wt
          rw [List.getD_eq_getElem?_getD, hg] at k6
          have k6 : ∀ H4, Ext H6 H4 → Q' (.bl (pairD part g)) H4 := k6
          replace dg := dg.ext X6
          refine ⟨rfl, ?_⟩
          refine ⟨_, rfl, y, g, 2, rfl, dg, _, rfl, ?_⟩
          cases c1 : tupnB 2 g with
          | false =>
            have z := k6 H6 Ext.rfl'
            rw [pair_false c1] at z
            exact iteF z
          | true =>
            refine iteT ?_
            obtain ⟨p, q, rfl⟩ := tupn_of c1
            cases dg with
            | tup hy2 al2 =>
            rename_i t zs
            cases al2 with
            | cons d1 al2 =>
            cases al2 with
            | cons d2 al2 =>
            cases al2
            rename_i u1 u2
            have wp : p.weight ≤ 100000 := Nat.le_trans (weight_le (ds := [p, q]) (by simp)) wg
            refine ⟨_, rfl, t, _, 0, u1, rfl, rfl, SqT.of hy2, rfl, u1, p, rfl, d1, wp, fun H7 X7 => ?_⟩
            refine ⟨_, rfl, ?_⟩
            have ep : pairD part (.tuple [p, q]) = (nameD p && part q) := rfl
            cases c2 : nameD p with
            | false =>
              rw [c2] at ep
              have z := k6 H7 X7
              rw [ep] at z
              exact iteF z
            | true =>
              rw [c2, Bool.true_and] at ep
              refine iteT ?_
              have LA7 := LA.ext (X6.trans X7)
              refine ⟨rfl, LA7.fn, _, rfl, t, _, 1, u2, rfl, rfl, SqT.of (X7 _ _ hy2), rfl, LA7, ?_⟩
              refine hp u2 q H7 _ (X6.trans X7) (d2.ext X7) fun H8 X8 => ?_
              have z := k6 H8 (X7.trans X8)
              rw [ep] at z
              exact z
        · intro H6 X6 f6
          have eb : (List.range xs.length).map (fun i => V.bl (pairD part (ds.getD i .none))) = (ds.map (pairD part)).map V.bl := by
            rw [ll, List.map_map]
            refine range_map fun i y hy => ?_
            rw [List.getD_eq_getElem?_getD, hy]
            rfl
          rw [eb] at f6
          refine ⟨D, _, rfl, SqL.of f6, _, rfl, ?_⟩
          have ea : (ds.map (pairD part)).all id = ds.all (pairD part) := by rw [List.all_map]; rfl
          rw [ea]
          cases c2 : ds.all (pairD part) with
          | false =>
            rw [c2] at nm
            have z := k H6 X6
            rw [nm] at z
            exact iteT z
          | true =>
            rw [c2, Bool.true_and] at nm
            refine iteF ?_
            have ht6 := X6 _ _ ht
            refine ⟨_, rfl, a, rfl, ⟨_, SqT.of ht6⟩, fun D2 hD2 => ?_⟩
            refine lc_flat (walk_tup (K := K) (a := a) (xs := xs)) (fun i => .str (strD (fstD (ds.getD i .none)))) hD2 (by omega) (SqT.of ht6) (fun _ _ e h => h.ext e) ?_ ?_
            · rintro i y H5 H7 acc Q' hi X7 hl hDa gH ⟨rfl, hy⟩ k7
              obtain ⟨g, hg, dg⟩ := all_at al hy
              obtain ⟨x, b, rfl, _, _⟩ := pairD_of (List.all_eq_true.mp c2 g (List.mem_of_getElem? hg))
              rw [List.getD_eq_getElem?_getD, hg] at k7
              replace dg := dg.ext (X6.trans X7)
              cases dg with
              | tup hy2 al2 =>
              rename_i t zs
              cases al2 with
              | cons d1 al2 =>
              cases al2 with
              | cons d2 al2 =>
              cases al2
              cases d1
              refine ⟨t, _, rfl, SqT.of hy2, rfl, _, _, rfl, _, _, rfl, rfl, rfl, ?_⟩
              exact ⟨_, rfl, k7 _ Ext.rfl'⟩
            · intro H7 X7 f7
              have eb : (List.range xs.length).map (fun i => V.str (strD (fstD (ds.getD i .none)))) = (ds.map fun d => strD (fstD d)).map V.str := by
                rw [ll, List.map_map]
                refine range_map fun i y hy => ?_
                rw [List.getD_eq_getElem?_getD, hy]
                rfl
              rw [eb] at f7
              refine ⟨D2, _, rfl, .inl (SqL.of f7), by rw [List.length_map]; omega, fun H8 X8 => ?_⟩
              have z := k H8 (X6.trans (X7.trans X8))
              rw [nm] at z
              exact z
      · refine (if_pos (show decide (m < (xs.length : Int)) = true from decide_eq_true (by omega))).mpr ?_
        have z := k H Ext.rfl'
        rw [nm, decide_eq_false c] at z
        exact z
end

end K25

namespace K25
open PySem PySem.Spec PyProof.Rows L2 L2.TP RZ
def toI : PyData → Int
  | .int i => i
  | _ => 0
/-- the names of named things -/
def wNames : PyData → List Str
  | .tuple ds => ds.map fun p => strD (fstD p)
  | _ => []
def tStrs : PyData → List Str
  | .tuple ds => ds.map strD
  | _ => []
def memS (x : Str) (ns : List Str) : Bool := inV (.str x) (ns.map V.str)
/-- which of the parts is no part of a world (5: none) -/
def worldD (d1 d2 d3 d4 d5 : PyData) : Nat :=
  if fromD 2 4 d1 = true then (if fromD 1 2 d2 = true then (if namedD 2 (fromD 0 (toI d1 - 1)) d3 = true then (if namedD 2 (areD (toI d1) (toI d2)) d4 = true then
    (if (wNames d4).any (fun x => memS x (wNames d3)) = true then 3 else
      if namesD ((wNames d3 ++ wNames d4).length : Nat) d5 = true then (if (tStrs d5).all (fun x => memS x (wNames d3 ++ wNames d4)) = true then 5 else 4) else 4) else 3) else 2) else 1) else 0
def wf (v1 v2 v3 v4 v5 : V) : List (Str × V) := [("own_size", v1), ("own_most", v2), ("own_cells", v3), ("own_rows", v4), ("own_loose", v5)]
theorem lk_no {k a : Str} {b : V} {l : List (Str × V)} (h : (k == a) = false) : List.lookup k ((a, b) :: l) = List.lookup k l := by simp [List.lookup, h]
theorem lk_yes {k : Str} {b : V} {l : List (Str × V)} : List.lookup k ((k, b) :: l) = some b := by simp [List.lookup]
theorem pf_no {f g : Str} {v x : V} {r : List (Str × V)} (h : (g == f) = false) : putF f v ((g, x) :: r) = (g, x) :: putF f v r := by
  show (if g = f then _ else _) = _
  rw [if_neg (by simpa using h)]
theorem pf_nil {f : Str} {v : V} : putF f v [] = [(f, v)] := rfl
theorem pf_b {f : Str} {v : V} : ∀ {l : List (Str × V)} {k : Nat}, l.length ≤ k → (putF f v l).length ≤ k + 1
  | [], k, _ => by rw [pf_nil]; exact Nat.succ_le_succ (Nat.zero_le _)
  | (g, x) :: r, k, h => by
    show (if g = f then _ else _ : List (Str × V)).length ≤ k + 1
    split
    · exact Nat.le_succ_of_le h
    · match k, h with
      | k + 1, h => exact Nat.succ_le_succ (pf_b (Nat.le_of_succ_le_succ h))
theorem wf_make (v1 v2 v3 v4 v5 : V) : putF "own_loose" v5 (putF "own_rows" v4 (putF "own_cells" v3 (putF "own_most" v2 (putF "own_size" v1 [])))) = wf v1 v2 v3 v4 v5 := by
  have r2 : putF "own_most" v2 (putF "own_size" v1 []) = ([("own_size", v1), ("own_most", v2)] : List (Str × V)) := by
    rw [pf_nil, pf_no (by decide +kernel), pf_nil]
  have r3 : putF "own_cells" v3 [("own_size", v1), ("own_most", v2)] = ([("own_size", v1), ("own_most", v2), ("own_cells", v3)] : List (Str × V)) := by
    rw [pf_no (by decide +kernel), pf_no (by decide +kernel), pf_nil]
  have r4 : putF "own_rows" v4 [("own_size", v1), ("own_most", v2), ("own_cells", v3)] = ([("own_size", v1), ("own_most", v2), ("own_cells", v3), ("own_rows", v4)] : List (Str × V)) := by
    rw [pf_no (by decide +kernel), pf_no (by decide +kernel), pf_no (by decide +kernel), pf_nil]
  have r5 : putF "own_loose" v5 [("own_size", v1), ("own_most", v2), ("own_cells", v3), ("own_rows", v4)] = wf v1 v2 v3 v4 v5 := by
    rw [pf_no (by decide +kernel), pf_no (by decide +kernel), pf_no (by decide +kernel), pf_no (by decide +kernel), pf_nil]
    rfl
  rw [r2, r3, r4, r5]
/-- the pairs of a right tuple of named things -/
theorem named_pair {H : Hp} {m : Int} {part : PyData → Bool} {ds : List PyData} {xs : List V} (al : DqAll H xs ds) (h : namedD m part (.tuple ds) = true) {i : Nat} {y : V} (hy : xs[i]? = some y) :
    ∃ (t : Addr) (x : Str) (u : V) (b : PyData), y = .ref t ∧ H t = some (.tup [.str x, u]) ∧ ds[i]? = some (.tuple [.str x, b]) ∧ Dq H u b ∧ part b = true := by
  obtain ⟨g, hg, dg⟩ := all_at al hy
  have c2 : ds.all (pairD part) = true := (He.ba (He.ba (show (decide ((ds.length : Int) ≤ m) && (ds.all (pairD part) && risingS (ds.map fun d => strD (fstD d)))) = true from h)).2).1
  obtain ⟨x, b, rfl, _, pb⟩ := pairD_of (List.all_eq_true.mp c2 g (List.mem_of_getElem? hg))
  cases dg with
  | tup hy2 al2 =>
  cases al2 with
  | cons d1 al2 =>
  cases al2 with
  | cons d2 al2 =>
  cases al2
  cases d1
  exact ⟨_, x, _, b, rfl, hy2, hg, d2, pb⟩
theorem named_tup {m : Int} {part : PyData → Bool} {d : PyData} (h : namedD m part d = true) : ∃ ds, d = .tuple ds ∧ (ds.length : Int) ≤ m := by
  cases d with
  | tuple ds => exact ⟨ds, rfl, of_decide_eq_true (He.ba h).1⟩
  | _ => cases h
theorem names_tup {m : Int} {d : PyData} (h : namesD m d = true) : ∃ ds, d = .tuple ds ∧ (ds.length : Int) ≤ m ∧ ds.all strB = true := by
  cases d with
  | tuple ds =>
    obtain ⟨h1, h2⟩ := He.ba (show (decide ((ds.length : Int) ≤ m) && (ds.all nameD && risingS (ds.map strD))) = true from h)
    refine ⟨ds, rfl, of_decide_eq_true h1, List.all_eq_true.mpr fun x hx => ?_⟩
    obtain ⟨y, rfl, _⟩ := nameD_of (List.all_eq_true.mp (He.ba h2).1 x hx)
    rfl
  | _ => cases h
theorem strs_flat : ∀ ns : List Str, (ns.map V.str).all flatV = true
  | [] => rfl
  | _ :: r => strs_flat r
section
variable {P : Program} {w : World} {K : PySem.W.Frag} {mg : Str → Option Value} {base : Heap}
def BadE (CE : Addr) (v : V) (H : Hp) (E : XK) : Prop := ∀ dd, H dd = none → E (.ref CE) (some dd) (upd H dd (.xd [("value", v)]))
def qw : Str := (envOfC "World.__init__" (defScope s_World___init__) 0 0 .none).qual ++ "<lambda>"
def spWInit (TS : List (Addr × Str)) (C CB : Addr) : Sp := fun vs H Q E => ∃ (x dx : Addr) (v1 v2 v3 v4 v5 : V) (d1 d2 d3 d4 d5 : PyData), vs = [.ref x, v1, v2, v3, v4, v5] ∧ H x = some (.ins C dx []) ∧ Dq H v1 d1 ∧ Dq H v2 d2 ∧ Dq H v3 d3 ∧ Dq H v4 d4 ∧ Dq H v5 d5 ∧
  d3.weight ≤ 100000 ∧ d4.weight ≤ 100000 ∧ d5.weight ≤ 100000 ∧ LamX.Tabs TS H ∧
  (∀ (i : Nat) (v : V), worldD d1 d2 d3 d4 d5 = i → i < 5 → [v1, v2, v3, v4, v5][i]? = some v → ∀ H', LamX.ExtN H H' → LamX.Tabs TS H' → BadE CB v H' E) ∧
  (worldD d1 d2 d3 d4 d5 = 5 → ∀ H', ExtNB x H H' → LamX.Tabs TS H' → H' x = some (.ins C dx (wf v1 v2 v3 v4 v5)) → Q .non H')
def spLw (n : Int) : Sp := fun vs H Q _ => ∃ u e, vs = [u] ∧ Dq H u e ∧ Q (.bl (fromD 0 (n - 1) e)) H
def spLr (n m : Int) : Sp := fun vs H Q _ => ∃ u e, vs = [u] ∧ Dq H u e ∧ ∀ H', Ext H H' → Q (.bl (areD n m e)) H'
theorem ok_World__init__ (T : Tx P K mg) {TS : List (Addr × Str)} {tP : Addr} (TB : LamX.TabB base mg (tbOf K T.F_World___init__).1 tP) (hmem : (tP, qw) ∈ TS) (huni : ∀ p ∈ TS, p.1 = tP → p.2 = qw) :
    FnOk P w K mg base (L2.CX P w) 10 T.F_World___init__ T.fd_World___init__ ["self", "size", "most", "cells", "rows", "loose"] (spWInit TS T.C_World T.C_BadWorld) := by
  obtain ⟨oc, od, dV, kV, dc, pm, an, ct, sl, efd, lk, hcd⟩ := T.cd_World___init__
  rw [efd] at lk ⊢
  refine fn_of lk hcd sc_World___init__ (fun vs H Q E h => ?_) fun A outer s H vs Q E hr h => ?_
  · obtain ⟨x, dx, v1, v2, v3, v4, v5, d1, d2, d3, d4, d5, rfl, _⟩ := h
    rfl
  · obtain ⟨x, dx, v1, v2, v3, v4, v5, d1, d2, d3, d4, d5, rfl, hx, h1, h2, h3, h4, h5, w3, w4, w5, hT, bad, good⟩ := h
    have nd := sc_World___init__.nd
    refine ⟨_, (pss_cons (ps_if (pt_not (pt_val (pe_call (ok_is_from T) (hr.mono (by decide)) rfl T.is_from_mg T.is_from_ok.kp T.b_is_from .nil pass0 (pa_cons (pv 1) (pa_cons (pe_glob (v := .int 2) rfl T.k_LEAST_SIZE ⟨_, rfl⟩) (pa_cons (pe_glob (v := .int 4) rfl T.k_MOST_SIZE ⟨_, rfl⟩) pa_nil)))))) (pss_one (ps_raiseP rfl (takes_of rfl rfl rfl rfl) T.BadWorld_ev (by decide) hr (pa_cons (pv 1) pa_nil))) pss_nil) (pss_cons (ps_if (pt_not (pt_val (pe_call (ok_is_from T) (hr.mono (by decide)) rfl T.is_from_mg T.is_from_ok.kp T.b_is_from .nil pass0 (pa_cons (pv 2) (pa_cons (pe_glob (v := .int 1) rfl T.k_LEAST_MOST ⟨_, rfl⟩) (pa_cons (pe_glob (v := .int 2) rfl T.k_GREATEST_MOST ⟨_, rfl⟩) pa_nil)))))) (pss_one (ps_raiseP rfl (takes_of rfl rfl rfl rfl) T.BadWorld_ev (by decide) hr (pa_cons (pv 2) pa_nil))) pss_nil) (pss_cons (ps_if (pt_not (pt_val (pe_callL3 (T := TS) (fr := ["size"]) (js := [1]) TB rfl rfl hmem huni (fun _ => rfl) (ok_are_named T) (hr.mono (by decide)) rfl T.are_named_mg T.are_named_ok.kp T.b_are_named (pv 3) (pe_glob (v := .int 2) rfl T.k_MOST_CELLS ⟨_, rfl⟩) (by show NdefX.ndefB (defScope s_World___init__) _ _ = true; decide +kernel) rfl rfl))) (pss_one (ps_raiseP rfl (takes_of rfl rfl rfl rfl) T.BadWorld_ev (by decide) hr (pa_cons (pv 3) pa_nil))) pss_nil) (pss_cons (ps_if (pt_not (pt_val (pe_callL3 (T := TS) (fr := ["size", "most"]) (js := [1, 2]) TB rfl rfl hmem huni (fun _ => rfl) (ok_are_named T) (hr.mono (by decide)) rfl T.are_named_mg T.are_named_ok.kp T.b_are_named (pv 4) (pe_glob (v := .int 2) rfl T.k_MOST_ROWS ⟨_, rfl⟩) (by show NdefX.ndefB (defScope s_World___init__) _ _ = true; decide +kernel) rfl rfl))) (pss_one (ps_raiseP rfl (takes_of rfl rfl rfl rfl) T.BadWorld_ev (by decide) hr (pa_cons (pv 4) pa_nil))) pss_nil) (pss_cons (ps_set (i := 6) nd rfl (Or.inr rfl) (pe_lc (own := [("name", 7), ("part", 8)]) (g := gTup K 2 (gCons (gName 7) (gCons (gName 8) gNil))) (by rfl) nd (pi_tup (pv 3)) (blkOk_by (own := [("name", 7), ("part", 8)]) (N := N_World___init__) (sc := defScope s_World___init__) (by decide +kernel)) (fun _ _ _ _ _ => (pg_tup rfl (pgs_cons (pg_name (i := 7) nd rfl (Or.inl rfl)) (pgs_cons (pg_name (i := 8) nd rfl (Or.inl rfl)) pgs_nil)))) (fun _ _ _ _ _ => pts_nil) (fun _ _ _ _ _ => (pv 7)))) (pss_cons (ps_if (pt_val (pe_callB (cr_any rfl) (by rfl) T.b_any (by decide +kernel) (pa_cons (pe_lc (own := [("name", 7), ("part", 8)]) (g := gTup K 2 (gCons (gName 7) (gCons (gName 8) gNil))) (by rfl) nd (pi_tup (pv 4)) (blkOk_by (own := [("name", 7), ("part", 8)]) (N := N_World___init__) (sc := defScope s_World___init__) (by decide +kernel)) (fun _ _ _ _ _ => (pg_tup rfl (pgs_cons (pg_name (i := 7) nd rfl (Or.inl rfl)) (pgs_cons (pg_name (i := 8) nd rfl (Or.inl rfl)) pgs_nil)))) (fun _ _ _ _ _ => pts_nil) (fun _ _ _ _ _ => (pe_cmpR (op_in_seqK (K := K) rfl) (pv 7) (pv 6) (by rfl)))) pa_nil))) (pss_one (ps_raiseP rfl (takes_of rfl rfl rfl rfl) T.BadWorld_ev (by decide) hr (pa_cons (pv 4) pa_nil))) pss_nil) (pss_cons (ps_set (i := 6) nd rfl (Or.inr rfl) (pe_op op_cat (pv 6) (pe_lc (own := [("name", 7), ("part", 8)]) (g := gTup K 2 (gCons (gName 7) (gCons (gName 8) gNil))) (by rfl) nd (pi_tup (pv 4)) (blkOk_by (own := [("name", 7), ("part", 8)]) (N := N_World___init__) (sc := defScope s_World___init__) (by decide +kernel)) (fun _ _ _ _ _ => (pg_tup rfl (pgs_cons (pg_name (i := 7) nd rfl (Or.inl rfl)) (pgs_cons (pg_name (i := 8) nd rfl (Or.inl rfl)) pgs_nil)))) (fun _ _ _ _ _ => pts_nil) (fun _ _ _ _ _ => (pv 7))))) (pss_cons (ps_if (PW.pt (pw_or (pt_not (pt_val (pe_call (ok_are_names T) (hr.mono (by decide)) rfl T.are_names_mg T.are_names_ok.kp T.b_are_names .nil pass0 (pa_cons (pv 5) (pa_cons (pe_callB call_len_seq (by rfl) T.b_len (by decide +kernel) (pa_cons (pv 6) pa_nil)) pa_nil))))) (pw_or1 (pt_not (pt_val (pe_callB (cr_all rfl) (by rfl) T.b_all (by decide +kernel) (pa_cons (pe_lc (own := [("name", 7)]) (g := gName 7) (by rfl) nd (pi_tup (pv 5)) (blkOk_by (own := [("name", 7)]) (N := N_World___init__) (sc := defScope s_World___init__) (by decide +kernel)) (fun _ _ _ _ _ => (pg_name (i := 7) nd rfl (Or.inl rfl))) (fun _ _ _ _ _ => pts_nil) (fun _ _ _ _ _ => (pe_cmpR (op_in_seqK (K := K) rfl) (pv 7) (pv 6) (by rfl)))) pa_nil))))))) (pss_one (ps_raiseP rfl (takes_of rfl rfl rfl rfl) T.BadWorld_ev (by decide) hr (pa_cons (pv 5) pa_nil))) pss_nil) (pss_cons (ps_fld (pv 0) (pv 1) rfl) (pss_cons (ps_fld (pv 0) (pv 2) rfl) (pss_cons (ps_fld (pv 0) (pv 3) rfl) (pss_cons (ps_fld (pv 0) (pv 4) rfl) (pss_one (ps_fld (pv 0) (pv 5) rfl)))))))))))))), ?_⟩
    refine ⟨_, rfl, v1, d1, 2, 4, rfl, h1, _, rfl, ?_⟩
    cases c1 : fromD 2 4 d1 with
    | false =>
      refine iteT ⟨_, rfl, rfl, rfl, fun dd hdd => bad 0 v1 ?_ (by decide) rfl H (LamX.ExtN.refl H) hT dd hdd⟩
      unfold worldD
      rw [if_neg (by rw [c1]; decide)]
    | true =>
    refine iteF ?_
    obtain ⟨n, rfl, n2, n4⟩ := from_true c1
    cases h1
    refine ⟨_, rfl, v2, d2, 1, 2, rfl, h2, _, rfl, ?_⟩
    cases c2 : fromD 1 2 d2 with
    | false =>
      refine iteT ⟨_, rfl, rfl, rfl, fun dd hdd => bad 1 v2 ?_ (by decide) rfl H (LamX.ExtN.refl H) hT dd hdd⟩
      unfold worldD
      rw [if_pos c1, if_neg (by rw [c2]; decide)]
    | true =>
    refine iteF ?_
    obtain ⟨m, rfl, m1, m2⟩ := from_true c2
    cases h2
    have wd : worldD (.int n) (.int m) d3 d4 d5 = (if namedD 2 (fromD 0 (n - 1)) d3 = true then (if namedD 2 (areD n m) d4 = true then
      (if (wNames d4).any (fun x => memS x (wNames d3)) = true then 3 else
        if namesD ((wNames d3 ++ wNames d4).length : Nat) d5 = true then (if (tStrs d5).all (fun x => memS x (wNames d3 ++ wNames d4)) = true then 5 else 4) else 4) else 3) else 2) := by
      unfold worldD
      rw [if_pos c1, if_pos c2]
      rfl
    -- the cells
    refine ⟨_, rfl, hT, fun f c' H1 eN T1 nf hf hc cs CO fr => ?_⟩
    have xp := ext_plusH fr
    refine ⟨2, v3, d3, f, _, cs, spLw n, fromD 0 (n - 1), rfl, (h3.extN eN).ext xp, w3, by decide, ?_, ⟨xp _ _ hf, xp _ _ hc, Trk.plus⟩, fun u e H1' Q1 _ he k => ⟨u, e, rfl, he, k H1' Ext.rfl'⟩, fun H2 X2 tr => ?_⟩
    · refine lok_of (k := 5) (N := ["part", "size"]) (ps := ["part"]) (fr := ["size"]) (ws := [some (.int n)]) (NdefX.nscope_by (by dsimp only; decide +kernel)) (fun pm ctv us hl => match us, hl with | [_], _ => rfl) CO (fun vs H Q E h => ?_) (fun A outer s H vs Q hr2 LA2 h => ?_)
      · obtain ⟨u, e, rfl, _⟩ := h
        rfl
      · obtain ⟨u, e, rfl, he, q⟩ := h
        refine ⟨_, pe_call (ok_is_worth T) (hr2.mono (by decide)) rfl T.is_worth_mg T.is_worth_ok.kp T.b_is_worth .nil pass0 (pa_cons (pv 1) (pa_cons (pv 0) pa_nil)), ?_⟩
        exact ⟨_, rfl, _, rfl, u, e, n, rfl, he.less LA2.trk, (show Q _ (plusH (lessH H cs) cs) by rw [plus_less LA2.trk]; exact q)⟩
    have X3 := ext_less fr X2
    have T3 := T1.ext X3
    have N3 : LamX.ExtN H (lessH H2 cs) := fun b o hb nt => X3 _ _ (eN b o hb nt)
    clear X3 T1 eN X2 fr CO hf hc xp tr
    generalize lessH H2 cs = H3 at T3 N3 ⊢
    refine ⟨_, rfl, ?_⟩
    cases c3 : namedD 2 (fromD 0 (n - 1)) d3 with
    | false =>
      refine iteT ⟨_, rfl, rfl, rfl, fun dd hdd => bad 2 v3 ?_ (by decide) rfl H3 N3 T3 dd hdd⟩
      rw [wd, if_neg (by rw [c3]; decide)]
    | true =>
    refine iteF ?_
    -- the rows
    refine ⟨_, rfl, T3, fun f c' H1 eN T1 nf hf hc cs CO fr => ?_⟩
    have xp := ext_plusH fr
    have N4 := N3.trans eN
    refine ⟨2, v4, d4, f, _, cs, spLr n m, areD n m, rfl, (h4.extN N4).ext xp, w4, by decide, ?_, ⟨xp _ _ hf, xp _ _ hc, Trk.plus⟩, fun u e H1' Q1 _ he k => ⟨u, e, rfl, he, k⟩, fun H2 X2 tr => ?_⟩
    · refine lok_of (k := 5) (N := ["part", "size", "most"]) (ps := ["part"]) (fr := ["size", "most"]) (ws := [some (.int n), some (.int m)]) (NdefX.nscope_by (by dsimp only; decide +kernel)) (fun pm ctv us hl => match us, hl with | [_], _ => rfl) CO (fun vs H Q E h => ?_) (fun A outer s H vs Q hr2 LA2 h => ?_)
      · obtain ⟨u, e, rfl, _⟩ := h
        rfl
      · obtain ⟨u, e, rfl, he, q⟩ := h
        refine ⟨_, pe_call (ok_are_items T) (hr2.mono (by decide)) rfl T.are_items_mg T.are_items_ok.kp T.b_are_items .nil pass0 (pa_cons (pv 1) (pa_cons (pv 2) (pa_cons (pv 0) pa_nil))), ?_⟩
        exact ⟨_, rfl, _, rfl, _, rfl, n, m, u, e, rfl, he.less LA2.trk, m2, fun H' X' => q _ (ext_plus LA2.trk X')⟩
    have X3 := ext_less fr X2
    have T5 := T1.ext X3
    have N5 : LamX.ExtN H (lessH H2 cs) := fun b o hb nt => X3 _ _ (N4 b o hb nt)
    clear X3 T1 eN X2 fr CO hf hc xp tr N3 T3 N4
    generalize lessH H2 cs = H5 at T5 N5 ⊢
    refine ⟨_, rfl, ?_⟩
    cases c4 : namedD 2 (areD n m) d4 with
    | false =>
      refine iteT ⟨_, rfl, rfl, rfl, fun dd hdd => bad 3 v4 ?_ (by decide) rfl H5 N5 T5 dd hdd⟩
      rw [wd, if_pos c3, if_neg (by rw [c4]; decide)]
    | true =>
    refine iteF ?_
    rw [if_pos c3, if_pos c4] at wd
    obtain ⟨ds3, rfl, l3⟩ := named_tup c3
    obtain ⟨ds4, rfl, l4⟩ := named_tup c4
    have h3' := h3.extN N5
    have h4' := h4.extN N5
    have h5' := h5.extN N5
    cases h3' with
    | tup t3 al3 =>
    cases h4' with
    | tup t4 al4 =>
    rename_i a3 xs3 a4 xs4
    have ll3 := all_len al3
    have ll4 := all_len al4
    have ex3 : (List.range xs3.length).map (fun i => V.str ((wNames (.tuple ds3)).getD i "")) = (wNames (.tuple ds3)).map V.str := by
      have : xs3.length = (wNames (.tuple ds3)).length := by rw [ll3]; exact (List.length_map _).symm
      rw [this]
      refine range_map fun i y hy => ?_
      rw [List.getD_eq_getElem?_getD, hy]
      rfl
    have ex4 : (List.range xs4.length).map (fun i => V.str ((wNames (.tuple ds4)).getD i "")) = (wNames (.tuple ds4)).map V.str := by
      have : xs4.length = (wNames (.tuple ds4)).length := by rw [ll4]; exact (List.length_map _).symm
      rw [this]
      refine range_map fun i y hy => ?_
      rw [List.getD_eq_getElem?_getD, hy]
      rfl
    have ln3 : (wNames (.tuple ds3)).length = ds3.length := List.length_map _
    have ln4 : (wNames (.tuple ds4)).length = ds4.length := List.length_map _
    -- names
    refine ⟨_, rfl, a3, rfl, ⟨_, SqT.of t3⟩, fun D hD => ?_⟩
    refine lc_flat (walk_tup (K := K) (a := a3) (xs := xs3)) (fun i => .str ((wNames (.tuple ds3)).getD i "")) hD (by omega) (SqT.of t3) (fun _ _ e h => h.ext e) ?_ ?_
    · rintro i y H6 H7 acc Q' hi X7 hl hDa gH ⟨rfl, hy⟩ k7
      obtain ⟨t, z, u, b, rfl, et, hg, _, _⟩ := named_pair al3 c3 hy
      have en : (wNames (.tuple ds3)).getD i "" = z := by
        rw [List.getD_eq_getElem?_getD, show wNames (.tuple ds3) = ds3.map (fun p => strD (fstD p)) from rfl, List.getElem?_map, hg]
        rfl
      have k8 := k7 H7 Ext.rfl'
      rw [en] at k8
      refine ⟨t, _, rfl, SqT.of (X7 _ _ et), rfl, _, _, rfl, _, _, rfl, rfl, rfl, ?_⟩
      exact ⟨_, rfl, k8⟩
    intro H6 X6 f6
    rw [ex3] at f6
    have t46 := X6 _ _ t4
    -- a row's name among them
    refine ⟨_, rfl, a4, rfl, ⟨_, SqT.of t46⟩, fun D2 hD2 => ?_⟩
    refine lc_flat (walk_tup (K := K) (a := a4) (xs := xs4)) (fun i => .bl (memS ((wNames (.tuple ds4)).getD i "") (wNames (.tuple ds3)))) hD2 (by omega) (SqT.of t46) (fun _ _ e h => h.ext e) ?_ ?_
    · rintro i y H8 H7 acc Q' hi X7 hl hDa gH ⟨rfl, hy⟩ k7
      obtain ⟨t, z, u, b, rfl, et, hg, _, _⟩ := named_pair al4 c4 hy
      have en : (wNames (.tuple ds4)).getD i "" = z := by
        rw [List.getD_eq_getElem?_getD, show wNames (.tuple ds4) = ds4.map (fun p => strD (fstD p)) from rfl, List.getElem?_map, hg]
        rfl
      have k8 := k7 H7 Ext.rfl'
      rw [en] at k8
      refine ⟨t, _, rfl, SqT.of (X7 _ _ (X6 _ _ et)), rfl, _, _, rfl, _, _, rfl, rfl, rfl, ?_⟩
      exact ⟨_, rfl, _, rfl, D, _, rfl, .inl (SqL.of (X7 _ _ f6)), rfl, strs_flat _, k8⟩
    intro H7 X7 f7
    have e7 : (List.range xs4.length).map (fun i => V.bl (memS ((wNames (.tuple ds4)).getD i "") (wNames (.tuple ds3)))) = ((wNames (.tuple ds4)).map fun x => memS x (wNames (.tuple ds3))).map V.bl := by
      have : xs4.length = (wNames (.tuple ds4)).length := by rw [ll4, ln4]
      rw [this, List.map_map]
      refine range_map fun i y hy => ?_
      rw [List.getD_eq_getElem?_getD, hy]
      rfl
    rw [e7] at f7
    refine ⟨D2, _, rfl, SqL.of f7, _, rfl, ?_⟩
    have ea : ((wNames (.tuple ds4)).map fun x => memS x (wNames (.tuple ds3))).any id = (wNames (.tuple ds4)).any fun x => memS x (wNames (.tuple ds3)) := by
      rw [List.any_map]
      rfl
    rw [ea]
    have N7 : LamX.ExtN H H7 := N5.trans (LamX.ExtN.of (X6.trans X7))
    have T7 := T5.ext (X6.trans X7)
    cases c5 : (wNames (.tuple ds4)).any fun x => memS x (wNames (.tuple ds3)) with
    | true =>
      refine iteT ⟨_, rfl, rfl, rfl, fun dd hdd => bad 3 _ ?_ (by decide) rfl H7 N7 T7 dd hdd⟩
      rw [wd, if_pos c5]
    | false =>
    rw [if_neg (by rw [c5]; decide)] at wd
    refine iteF ?_
    have t47 := X7 _ _ t46
    have al4' := DqAll.ext (X6.trans X7) al4
    refine ⟨_, rfl, _, rfl, a4, rfl, ⟨_, SqT.of t47⟩, fun D3 hD3 => ?_⟩
    refine lc_flat (walk_tup (K := K) (a := a4) (xs := xs4)) (fun i => .str ((wNames (.tuple ds4)).getD i "")) hD3 (by omega) (SqT.of t47) (fun _ _ e h => h.ext e) ?_ ?_
    · rintro i y H6 H7 acc Q' hi X7 hl hDa gH ⟨rfl, hy⟩ k7
      obtain ⟨t, z, u, b, rfl, et, hg, _, _⟩ := named_pair al4' c4 hy
      have en : (wNames (.tuple ds4)).getD i "" = z := by
        rw [List.getD_eq_getElem?_getD, show wNames (.tuple ds4) = ds4.map (fun p => strD (fstD p)) from rfl, List.getElem?_map, hg]
        rfl
      have k8 := k7 H7 Ext.rfl'
      rw [en] at k8
      refine ⟨t, _, rfl, SqT.of (X7 _ _ et), rfl, _, _, rfl, _, _, rfl, rfl, rfl, ?_⟩
      exact ⟨_, rfl, k8⟩
    intro H8 X8 f8
    rw [ex4] at f8
    refine ⟨D, D3, _, _, rfl, rfl, X8 _ _ (X7 _ _ f6), f8, by rw [List.length_map, List.length_map]; exact Nat.le_trans (by omega : _ ≤ 100) (by decide), fun D4 hD4 => ?_⟩
    generalize hJ : upd _ D4 _ = H9
    obtain ⟨X9, f9⟩ := new_of hJ hD4
    clear hJ hD4
    rw [← List.map_append] at f9
    have N9 : LamX.ExtN H H9 := N7.trans (LamX.ExtN.of (X8.trans X9))
    have T9 := T7.ext (X8.trans X9)
    have lnn : ((wNames (.tuple ds3) ++ wNames (.tuple ds4)).map V.str).length = (wNames (.tuple ds3) ++ wNames (.tuple ds4)).length := List.length_map _
    have lsm : (wNames (.tuple ds3) ++ wNames (.tuple ds4)).length ≤ 4 := by rw [List.length_append]; omega
    refine ⟨_, rfl, _, rfl, D4, _, rfl, .inl (SqL.of f9), _, v5, d5, rfl, h5.extN N9, w5, by rw [lnn]; omega, fun H10 X10 => ?_⟩
    rw [lnn]
    refine ⟨_, rfl, ?_⟩
    have N10 : LamX.ExtN H H10 := N9.trans (LamX.ExtN.of X10)
    have T10 := T9.ext X10
    cases c6 : namesD ((wNames (.tuple ds3) ++ wNames (.tuple ds4)).length : Nat) d5 with
    | false =>
      refine iteT ?_
      refine ⟨_, rfl, rfl, rfl, fun dd hdd => bad 4 _ ?_ (by decide) rfl H10 N10 T10 dd hdd⟩
      rw [wd, if_neg (by rw [c6]; decide)]
    | true =>
    rw [if_pos c6] at wd
    refine iteF ?_
    obtain ⟨ds5, rfl, l5, sb5⟩ := names_tup c6
    have h5' := h5.extN N10
    cases h5' with
    | tup t5 al5 =>
    rename_i a5 xs5
    have ll5 := all_len al5
    have es5 := strs_of al5 sb5
    subst es5
    refine ⟨_, rfl, a5, rfl, ⟨_, SqT.of t5⟩, fun D5 hD5 => ?_⟩
    refine lc_flat (walk_tup (K := K) (a := a5) (xs := (ds5.map strD).map V.str)) (fun i => .bl (memS ((ds5.map strD).getD i "") (wNames (.tuple ds3) ++ wNames (.tuple ds4)))) hD5 (by rw [List.length_map, List.length_map]; omega) (SqT.of t5) (fun _ _ e h => h.ext e) ?_ ?_
    · rintro i y H11 H12 acc Q' hi X12 hl hDa gH ⟨rfl, hy⟩ k12
      rw [List.getElem?_map] at hy
      obtain ⟨z, hz, rfl⟩ := Option.map_eq_some_iff.mp hy
      have k13 := k12 H12 Ext.rfl'
      rw [List.getD_eq_getElem?_getD, hz] at k13
      refine ⟨rfl, ?_⟩
      exact ⟨_, rfl, _, rfl, D4, _, rfl, .inl (SqL.of (X12 _ _ (X10 _ _ f9))), rfl, strs_flat _, k13⟩
    intro H11 X11 f11
    have e11 : (List.range ((ds5.map strD).map V.str).length).map (fun i => V.bl (memS ((ds5.map strD).getD i "") (wNames (.tuple ds3) ++ wNames (.tuple ds4)))) = ((ds5.map strD).map fun x => memS x (wNames (.tuple ds3) ++ wNames (.tuple ds4))).map V.bl := by
      rw [List.length_map (f := V.str), List.map_map]
      refine range_map fun i y hy => ?_
      rw [List.getD_eq_getElem?_getD, hy]
      rfl
    rw [e11] at f11
    refine ⟨D5, _, rfl, SqL.of f11, _, rfl, ?_⟩
    have ea2 : ((ds5.map strD).map fun x => memS x (wNames (.tuple ds3) ++ wNames (.tuple ds4))).all id = (tStrs (.tuple ds5)).all fun x => memS x (wNames (.tuple ds3) ++ wNames (.tuple ds4)) := by
      rw [List.all_map]
      rfl
    rw [ea2]
    have N11 : LamX.ExtN H H11 := N10.trans (LamX.ExtN.of X11)
    have T11 := T10.ext X11
    cases c7 : (tStrs (.tuple ds5)).all fun x => memS x (wNames (.tuple ds3) ++ wNames (.tuple ds4)) with
    | false =>
      refine iteT ⟨_, rfl, rfl, rfl, fun dd hdd => bad 4 _ ?_ (by decide) rfl H11 N11 T11 dd hdd⟩
      rw [wd, if_neg (by rw [c7]; decide)]
    | true =>
    rw [if_pos c7] at wd
    refine iteF ?_
    have hx11 := N11 _ _ hx (fun _ z => by cases z)
    refine ⟨_, rfl, _, rfl, x, T.C_World, dx, [], rfl, hx11, T.World_cl, T.x_n_size, by decide, ?_⟩
    refine ⟨_, rfl, _, rfl, x, T.C_World, dx, _, rfl, upd_same, T.World_cl, T.x_n_most, Nat.lt_of_le_of_lt (pf_b (Nat.le_refl 0)) (by decide), ?_⟩
    refine ⟨_, rfl, _, rfl, x, T.C_World, dx, _, rfl, upd_same, T.World_cl, T.x_n_cells, Nat.lt_of_le_of_lt (pf_b (pf_b (Nat.le_refl 0))) (by decide), ?_⟩
    refine ⟨_, rfl, _, rfl, x, T.C_World, dx, _, rfl, upd_same, T.World_cl, T.x_n_rows, Nat.lt_of_le_of_lt (pf_b (pf_b (pf_b (Nat.le_refl 0)))) (by decide), ?_⟩
    refine ⟨_, rfl, _, rfl, x, T.C_World, dx, _, rfl, upd_same, T.World_cl, T.x_n_loose, Nat.lt_of_le_of_lt (pf_b (pf_b (pf_b (pf_b (Nat.le_refl 0))))) (by decide), ?_⟩
    rw [upd_upd, upd_upd, upd_upd, upd_upd, wf_make]
    exact good wd _ ((ExtNB.of N11).trans extNB_upd) (tabs_ins T11 hx11) upd_same
end

end K25

namespace K25
open PySem PySem.Spec PyProof.Rows L2 L2.TP RZ
section
variable {P : Program} {w : World} {K : PySem.W.Frag} {mg : Str → Option Value} {base : Heap}
theorem primes_at (i : Int) (h0 : 0 ≤ i) (h5 : i < 5) : ∃ q : Int, atI [V.int 2147483647, V.int 2147483629, V.int 2147483587, V.int 2147483579, V.int 2147483563] i = some (.int q) ∧ 0 < q ∧ q < 4294967296 := by
  have h : i = 0 ∨ i = 1 ∨ i = 2 ∨ i = 3 ∨ i = 4 := by omega
  rcases h with rfl | rfl | rfl | rfl | rfl
  all_goals exact ⟨_, rfl, by decide, by decide⟩
theorem fm_nn {x m : Int} (h : 0 < m) : 0 ≤ x.fmod m := by
  rw [Int.fmod_eq_emod_of_nonneg x (by omega)]
  exact Int.emod_nonneg x (by omega)
theorem fm_lt {x m : Int} (h : 0 < m) : x.fmod m < m := by
  rw [Int.fmod_eq_emod_of_nonneg x (by omega)]
  exact Int.emod_lt_of_pos x h
theorem fd_nn {x m : Int} (hx : 0 ≤ x) (h : 0 < m) : 0 ≤ x.fdiv m := by
  rw [Int.fdiv_eq_ediv_of_nonneg x (by omega)]
  exact Int.ediv_nonneg hx (by omega)
theorem sq_lt {c : Int} (h0 : 0 ≤ c) (h1 : c ≤ 100001) : 0 ≤ 65551 * c * c ∧ 65551 * c * c ≤ 65551 * 100001 * 100001 := by
  have a1 : 0 ≤ 65551 * c := by omega
  have a2 : 65551 * c ≤ 65551 * 100001 := by omega
  exact ⟨Int.mul_nonneg a1 h0, Int.mul_le_mul a2 h1 h0 (by decide)⟩
theorem ok__law_take (T : Tx P K mg) : FnOk P w K mg base CX0 1 T.F__law_take T.fd__law_take ["_law_pot_here", "_law_many"] spTake := by
  refine T._law_take_ok.ok sc__law_take (fun vs H Q E h => ?_) (fun cdv A outer s H vs Q E hr h => ?_)
  · obtain ⟨G, p, n, m, rfl, _⟩ := h
    rfl
  · obtain ⟨G, p, n, m, rfl, wp, hn, m0, m1, k⟩ := h
    have nd := sc__law_take.nd
    obtain ⟨a, b, c, hp, a0, b0, b1, c0, c1⟩ := wp.pot.at_
    refine ⟨_, (pss_cons (ps_if (pt_cmpR op_gt (pe_ix ix_list (pv 0) pe_int (fun _ _ => rfl)) pe_int (nomark _)) (pss_cons (ps_set (i := 2) nd rfl (Or.inl rfl) (pe_op op_modN (pe_callTy call_int1 (by rfl) T.b_int (by decide +kernel) (pa_cons (pe_ix ix_list (pv 0) pe_int (fun _ _ => rfl)) pa_nil)) (pv 1))) (pss_cons (ps_asg (pe_op op_fdivN (pe_ix ix_list (pv 0) pe_int (fun _ _ => rfl)) (pv 1)) (pg_sub (pv 0) pe_int set_list)) (pss_one (ps_ret (pv 2))))) pss_nil) (pss_cons (ps_asg (pe_op op_add (pe_ix ix_list (pv 0) pe_int (fun _ _ => rfl)) pe_int) (pg_sub (pv 0) pe_int set_list)) (pss_cons (ps_set (i := 3) nd rfl (Or.inl rfl) (pe_ix ix_list (pe_lst (pa_cons pe_int (pa_cons pe_int (pa_cons pe_int (pa_cons pe_int (pa_cons pe_int pa_nil)))))) (pe_op op_modN (pe_callTy call_int1 (by rfl) T.b_int (by decide +kernel) (pa_cons (pe_ix ix_list (pv 0) pe_int (fun _ _ => rfl)) pa_nil)) pe_int) (fun _ _ => rfl))) (pss_cons (ps_set (i := 4) nd rfl (Or.inl rfl) (pe_op op_modN (pe_callTy call_int1 (by rfl) T.b_int (by decide +kernel) (pa_cons (pe_op op_pow (pe_op op_add (pe_op op_add (pe_ix ix_list (pv 0) pe_int (fun _ _ => rfl)) (pe_op op_mul (pe_op op_mul pe_int (pe_ix ix_list (pv 0) pe_int (fun _ _ => rfl))) (pe_ix ix_list (pv 0) pe_int (fun _ _ => rfl)))) pe_int) pe_int) pa_nil)) (pv 3))) (pss_one (ps_ret (pe_op op_modN (pe_op op_fdivN (pe_op op_modN (pe_callTy call_int1 (by rfl) T.b_int (by decide +kernel) (pa_cons (pe_op op_mul (pv 4) (pe_op op_add (pe_op op_modN (pe_callTy call_int1 (by rfl) T.b_int (by decide +kernel) (pa_cons (pv 4) pa_nil)) pe_int) (pe_op op_mul pe_int (pe_ix ix_list (pv 0) pe_int (fun _ _ => rfl))))) pa_nil)) pe_int) pe_int) (pv 1)))))))), ?_⟩
    refine ⟨_, rfl, p, _, _, _, rfl, rfl, SqL.of hp, rfl, _, _, rfl, rfl, _, rfl, ?_⟩
    refine ite2 (fun _ => ?_) (fun _ => ?_)
    · refine ⟨_, rfl, p, _, _, _, rfl, rfl, SqL.of hp, rfl, .inl ⟨_, rfl, _, rfl, _, _, rfl, rfl, (by show m ≠ 0; omega), ?_⟩⟩
      refine ⟨_, rfl, p, _, _, _, rfl, rfl, SqL.of hp, rfl, _, rfl, _, _, rfl, rfl, ⟨by omega, by omega⟩, ?_⟩
      refine ⟨_, rfl, p, _, _, 0, rfl, rfl, hp, rfl, ?_⟩
      refine ⟨_, rfl, ?_⟩
      refine k _ _ (fm_nn m0) (fm_lt m0) ⟨ext_over wp.ext wp.no, wp.no, ⟨_, b, c, upd_same, fd_nn a0 m0, b0, b1, c0, by omega⟩⟩
    · refine ⟨_, rfl, p, _, _, _, rfl, rfl, SqL.of hp, rfl, _, _, rfl, rfl, _, rfl, p, _, _, 2, rfl, rfl, hp, rfl, ?_⟩
      refine ⟨by show 5 ≤ sizeLine; decide, fun l hl => ?_⟩
      have ne : p ≠ l := fun z => by
        rw [← z, upd_same] at hl
        cases hl
      have hp2 : upd (upd H p (.lst [.int a, .int b, .int (c + 1)])) l (.lst [V.int 2147483647, V.int 2147483629, V.int 2147483587, V.int 2147483579, V.int 2147483563]) p = some (.lst [.int a, .int b, .int (c + 1)]) := by
        rw [upd_ne ne]
        exact upd_same
      obtain ⟨q, hq, q0, q1⟩ := primes_at ((c + 1).fmod 5) (fm_nn (by decide)) (fm_lt (by decide))
      refine ⟨_, rfl, p, _, _, _, rfl, rfl, SqL.of hp2, rfl, .inl ⟨_, rfl, _, _, rfl, rfl, (by show (5 : Int) ≠ 0; decide), l, _, _, _, rfl, rfl, SqL.of upd_same, hq, ?_⟩⟩
      obtain ⟨s1, s2⟩ := sq_lt (c := c + 1) (by omega) (by omega)
      refine ⟨_, rfl, p, _, _, _, rfl, rfl, SqL.of hp2, rfl, _, rfl, p, _, _, _, rfl, rfl, SqL.of hp2, rfl, _, _, rfl, rfl, .inl ⟨by omega, by omega⟩, _, rfl, p, _, _, _, rfl, rfl, SqL.of hp2, rfl, _, _, rfl, rfl, .inr ⟨by omega, by omega⟩, _, _, rfl, rfl, _, _, rfl, rfl, _, _, rfl, rfl, ⟨by decide, by decide, ?_⟩, .inl ⟨_, rfl, _, rfl, _, _, rfl, rfl, (by show q ≠ 0; omega), ?_⟩⟩
      · show (b + 65551 * (c + 1) * (c + 1) + 29).natAbs < 2 ^ 64
        omega
      have x0 := fm_nn (x := (b + 65551 * (c + 1) * (c + 1) + 29) ^ (3 : Int).toNat) q0
      have x1 := fm_lt (x := (b + 65551 * (c + 1) * (c + 1) + 29) ^ (3 : Int).toNat) q0
      generalize hx : ((b + 65551 * (c + 1) * (c + 1) + 29) ^ (3 : Int).toNat).fmod q = x at x0 x1
      refine ⟨_, rfl, _, rfl, .inl ⟨_, rfl, _, _, rfl, rfl, (by show (10037 : Int) ≠ 0; decide), _, rfl, p, _, _, _, rfl, rfl, SqL.of hp2, rfl, _, _, rfl, rfl, .inl ⟨by omega, by omega⟩, _, _, rfl, rfl, _, _, rfl, rfl, ?_, .inl ⟨_, rfl, _, _, rfl, rfl, (by show (2305843009213693951 : Int) ≠ 0; decide), _, _, rfl, rfl, ⟨by decide, by decide⟩, _, rfl, _, _, rfl, rfl, (by show m ≠ 0; omega), ?_⟩⟩⟩
      · refine .inl ⟨?_, ?_⟩
        · show -(2 ^ 64) < ((b + 65551 * (c + 1) * (c + 1) + 29) ^ (3 : Int).toNat).fmod q
          rw [hx]
          omega
        · show ((b + 65551 * (c + 1) * (c + 1) + 29) ^ (3 : Int).toNat).fmod q < 2 ^ 64
          rw [hx]
          omega
      refine k _ _ (fm_nn m0) (fm_lt m0) ⟨ext_over (ext_over wp.ext wp.no) (ext_none (ext_over wp.ext wp.no) hl), wp.no, ⟨a, b, c + 1, hp2, a0, b0, b1, by omega, by omega⟩⟩

/-- the pot of a cell -/
def spPot (K : PySem.W.Frag) : Sp := fun vs H Q _ => ∃ (a : Addr) (ns : List Int) (k : Int), vs = [.ref a, .int k] ∧ SqL K H a (ns.map V.int) ∧ 0 ≤ k ∧ k ≤ 100 ∧
  ∀ (p : Addr) (x y : Int), H p = none → 0 ≤ x → 0 ≤ y → y < 2305843009213693952 → Q (.ref p) (upd H p (.lst [.int x, .int y, .int 0]))
theorem ok__law_pot (T : Tx P K mg) : FnOk P w K mg base CX0 1 T.F__law_pot T.fd__law_pot ["_law_script", "_law_k"] (spPot K) := by
  refine T._law_pot_ok.ok sc__law_pot (fun vs H Q E h => ?_) (fun cdv A outer s H vs Q E hr h => ?_)
  · obtain ⟨a, ns, k, rfl, _⟩ := h
    rfl
  · obtain ⟨a, ns, k, rfl, hS, k0, k1, q⟩ := h
    have nd := sc__law_pot.nd
    refine ⟨_, (Evl.pss_cut (ps_set (i := 2) nd rfl (Or.inl rfl) (pe_ifExp (pt_cmpR op_lt (pv 1) (pe_callB call_len_seq (by rfl) T.b_len (by decide +kernel) (pa_cons (pv 0) pa_nil)) (nomark _)) (pe_ix ix_list (pv 0) (pv 1) (fun _ _ => rfl)) (pe_op op_add (pe_op op_mul pe_int (pv 1)) pe_int))) (pss_cons (ps_set (i := 3) nd rfl (Or.inl rfl) (pe_op op_mul (pe_op op_modN (pe_callTy call_int1 (by rfl) T.b_int (by decide +kernel) (pa_cons (pe_callB call_abs (by rfl) T.b_abs (by decide +kernel) (pa_cons (pv 2) pa_nil)) pa_nil)) (pe_op op_powW (pe_op op_pow pe_int pe_int) pe_int)) (pe_callTy call_int1 (by rfl) T.b_int (by decide +kernel) (pa_cons (pe_cmpR op_ge (pe_callB call_abs (by rfl) T.b_abs (by decide +kernel) (pa_cons (pv 2) pa_nil)) (pe_op op_pow pe_int pe_int) (nomark _)) pa_nil)))) (pss_one (ps_ret (pe_lst (pa_cons (pv 3) (pa_cons (pe_op op_modN (pe_callTy call_int1 (by rfl) T.b_int (by decide +kernel) (pa_cons (pe_op op_add (pe_op op_add (pe_op op_mul (pe_op op_modN (pe_callTy call_int1 (by rfl) T.b_int (by decide +kernel) (pa_cons (pv 2) pa_nil)) pe_int) pe_int) (pe_op op_mul (pe_op op_mul pe_int (pv 1)) (pv 1))) pe_int) pa_nil)) pe_int) (pa_cons pe_int pa_nil)))))))), ?_⟩
    refine ⟨fun σ' H' => ∃ c : Int, σ' = [some (.ref a), some (.int k), some (.int c), none] ∧ H' = H, ?_, ?_⟩
    · refine ⟨_, rfl, _, rfl, a, _, rfl, .inl hS, _, _, rfl, rfl, _, rfl, ?_⟩
      refine ite2 (fun h => ?_) (fun _ => ?_)
      · have hk : k < ((ns.map V.int).length : Int) := of_decide_eq_true h
        rw [List.length_map] at hk
        obtain ⟨j, rfl⟩ : ∃ j : Nat, k = (j : Int) := ⟨k.toNat, by omega⟩
        have hj : j < ns.length := by omega
        refine ⟨_, rfl, _, rfl, a, _, _, _, rfl, rfl, hS, atI_nat (v := V.int ns[j]) ?_, ns[j], rfl, rfl⟩
        rw [List.getElem?_map, List.getElem?_eq_getElem hj]
        rfl
      · exact ⟨_, rfl, _, _, rfl, rfl, .inl ⟨by omega, by omega⟩, _, _, rfl, rfl, _, rfl, rfl⟩
    · rintro σ' H' ⟨c, rfl, rfl⟩
      refine ⟨_, rfl, _, rfl, .inl ⟨_, rfl, _, _, rfl, rfl, ⟨by decide, by decide, by decide⟩, _, _, rfl, rfl, ⟨by decide, by decide +kernel⟩, _, _, rfl, rfl, (by show ((10 : Int) ^ (60 : Int).toNat) ^ (5 : Int).toNat ≠ 0; decide +kernel), ?_⟩⟩
      generalize hA : (if c < 0 then -c else c) = A'
      have hb : (0 : Int) < (10 ^ (60 : Int).toNat) ^ (5 : Int).toNat := by decide +kernel
      refine ⟨_, rfl, _, rfl, _, _, rfl, rfl, ⟨by decide, by decide, by decide⟩, _, _, rfl, rfl, .inr ⟨_, rfl, _, _, rfl, rfl, .inr ?_, ?_⟩⟩
      · constructor <;> (split <;> omega)
      have own0 : 0 ≤ A'.fmod ((10 ^ (60 : Int).toNat) ^ (5 : Int).toNat) * (if decide ((10 : Int) ^ (18 : Int).toNat ≤ (if c < 0 then -c else c)) = true then (1 : Int) else 0) := by
        refine Int.mul_nonneg (fm_nn hb) ?_
        split <;> omega
      have y0 := fm_nn (x := c) (m := 2305843009213693951) (by decide)
      have y1 := fm_lt (x := c) (m := 2305843009213693951) (by decide)
      refine ⟨_, rfl, _, rfl, .inl ⟨_, rfl, _, _, rfl, rfl, (by show (2305843009213693951 : Int) ≠ 0; decide), _, _, rfl, rfl, .inr ⟨by decide, by decide⟩, _, rfl, _, _, rfl, rfl, .inl ⟨by decide, by decide⟩, _, rfl, _, _, rfl, rfl, .inr ⟨by omega, by omega⟩, _, _, rfl, rfl, _, _, rfl, rfl, .inl ⟨_, rfl, _, _, rfl, rfl, (by show (2305843009213693921 : Int) ≠ 0; decide), by show 3 ≤ sizeLine; decide, fun p hp => ?_⟩⟩⟩
      exact q p _ _ hp own0 (fm_nn (by decide)) (Int.lt_trans (fm_lt (by decide)) (by decide))

/-- one of some things -/
def spOf (K : PySem.W.Frag) : Sp := fun vs H Q _ => ∃ (G : Hp) (p l : Addr) (n : Nat) (xs : List V), vs = [.ref p, .ref l] ∧ WP G p n H ∧ n ≤ 100000 ∧ SqL K G l xs ∧ 0 < xs.length ∧ xs.length ≤ 1000 ∧
  ∀ (i : Nat) (v : V) (H' : Hp), xs[i]? = some v → WP G p (n + 1) H' → Q v H'
theorem ok__law_of (T : Tx P K mg) : FnOk P w K mg base CX0 2 T.F__law_of T.fd__law_of ["_law_pot_here", "_law_some_here"] (spOf K) := by
  refine T._law_of_ok.ok sc__law_of (fun vs H Q E h => ?_) (fun cdv A outer s H vs Q E hr h => ?_)
  · obtain ⟨G, p, l, n, xs, rfl, _⟩ := h
    rfl
  · obtain ⟨G, p, l, n, xs, rfl, wp, hn, hl, l0, l1, k⟩ := h
    have nd := sc__law_of.nd
    refine ⟨_, (pss_one (ps_ret (pe_ix ix_list (pv 1) (pe_call (ok__law_take T) (hr.mono (by decide)) rfl T._law_take_mg T._law_take_ok.kp T.b__law_take .nil pass0 (pa_cons (pv 0) (pa_cons (pe_callB call_len_seq (by rfl) T.b_len (by decide +kernel) (pa_cons (pv 1) pa_nil)) pa_nil))) (fun _ _ => rfl)))), ?_⟩
    refine ⟨_, rfl, _, rfl, _, rfl, l, _, rfl, .inl (hl.ext wp.ext), G, p, n, (xs.length : Int), rfl, wp, hn, by omega, by omega, fun r H' r0 r1 wp' => ?_⟩
    obtain ⟨j, rfl⟩ : ∃ j : Nat, r = (j : Int) := ⟨r.toNat, by omega⟩
    have hj : j < xs.length := by omega
    refine ⟨l, _, _, _, rfl, rfl, hl.ext wp'.ext, atI_nat (List.getElem?_eq_getElem hj), ?_⟩
    exact k j _ H' (List.getElem?_eq_getElem hj) wp'

end
end K25

namespace K25
open PySem PySem.Spec PyProof.Rows L2 L2.TP RZ
section
variable {P : Program} {w : World} {K : PySem.W.Frag} {mg : Str → Option Value} {base : Heap}
def spItems : Sp := fun vs H Q _ => ∃ (G : Hp) (p : Addr) (k : Nat) (n m : Int), vs = [.ref p, .int n, .int m] ∧ WP G p k H ∧ k ≤ 40000 ∧ 1 ≤ n ∧ n ≤ 10 ∧ 0 ≤ m ∧ m ≤ 5 ∧
  ∀ (ns : List Int) (t : Addr) (G' H' : Hp), (ns.length : Int) ≤ m → (∀ z ∈ ns, 0 ≤ z ∧ z < n) → Ext G G' → WP G' p (k + 7) H' → G' t = some (.tup (ns.map V.int)) → Q (.ref t) H'
theorem ok__law_items (T : Tx P K mg) : FnOk P w K mg base CX0 3 T.F__law_items T.fd__law_items ["_law_pot_here", "_law_size", "_law_most"] spItems := by
  refine T._law_items_ok.ok sc__law_items (fun vs H Q E h => ?_) (fun cdv A outer s H vs Q E hr h => ?_)
  · obtain ⟨G, p, k, n, m, rfl, _⟩ := h
    rfl
  · obtain ⟨G, p, k, n, m, rfl, wp, hk, n1, n2, m0, m5, q⟩ := h
    have nd := sc__law_items.nd
    refine ⟨_, (pss_one (ps_ret (pe_callTy call_tuple_of (by rfl) T.b_tuple (by decide +kernel) (pa_cons (pe_lc (own := [("_law_lap", 3)]) (g := gName 3) (by rfl) nd (pi_range1 (by rfl) T.b_range (pa_cons (pe_call (ok__law_take T) (hr.mono (by decide)) rfl T._law_take_mg T._law_take_ok.kp T.b__law_take .nil pass0 (pa_cons (pv 0) (pa_cons (pe_op op_add (pv 2) pe_int) pa_nil))) pa_nil)) (blkOk_by (own := [("_law_lap", 3)]) (N := N__law_items) (sc := defScope s__law_items) (by decide +kernel)) (fun _ _ _ _ _ => (pg_name (i := 3) nd rfl (Or.inl rfl))) (fun _ _ _ _ _ => pts_nil) (fun _ _ _ _ _ => (pe_call (ok__law_take T) (hr.mono (by decide)) rfl T._law_take_mg T._law_take_ok.kp T.b__law_take .nil pass0 (pa_cons (pv 0) (pa_cons (pv 1) pa_nil))))) pa_nil)))), ?_⟩
    refine ⟨_, rfl, _, rfl, _, _, rfl, rfl, G, p, k, m + 1, rfl, wp, by omega, by omega, by omega, fun r H1 r0 r1 w1 => ?_⟩
    refine ⟨r, rfl, by omega, by omega, fun D hD => ?_⟩
    have gD := ext_none w1.ext hD
    refine lc_range (n := r.toNat) (lo := 0) (fun i H' => ∃ ns : List Int, ns.length = i ∧ (∀ z ∈ ns, 0 ≤ z ∧ z < n) ∧ WP (upd G D (.lst (ns.map V.int))) p (k + 1 + i) H') ⟨[], rfl, fun _ z => (nomatch z), w1.new hD⟩ (fun i H' hi h => ?_) (fun H' h => ?_)
    · obtain ⟨ns, hn, hb, wi⟩ := h
      refine ⟨rfl, ?_⟩
      refine ⟨_, rfl, _, rfl, _, p, _, n, rfl, wi, by omega, by omega, by omega, fun x H2 x0 x5 w2 => ?_⟩
      refine ⟨_, w2.ext _ _ upd_same, by rw [List.length_map]; exact Nat.lt_trans (by omega : ns.length < 10) (by decide), ?_⟩
      refine ⟨ns ++ [x], by rw [List.length_append]; exact congrArg Nat.succ hn, fun z hz => ?_, ?_⟩
      · rcases List.mem_append.mp hz with hz | hz
        · exact hb z hz
        · rw [List.mem_singleton.mp hz]
          exact ⟨x0, x5⟩
      · rw [List.map_append]
        exact WP.over w2 gD
    · obtain ⟨ns, hn, hb, wi⟩ := h
      have xG : Ext G (upd G D (.lst (ns.map V.int))) := ext_upd gD
      have fD : upd G D (.lst (ns.map V.int)) D = some (.lst (ns.map V.int)) := upd_same
      generalize upd G D (.lst (ns.map V.int)) = G1 at wi xG fD
      refine ⟨D, _, rfl, .inl ⟨SqL.of (wi.ext _ _ fD), fun t ht => ?_⟩⟩
      obtain ⟨G2, e2, f2, w3⟩ := wi.newG (.tup (ns.map V.int)) ht
      exact q ns t G2 _ (by omega) hb (xG.trans e2) (w3.mono (by omega)) f2
def spSome (K : PySem.W.Frag) : Sp := fun vs H Q _ => ∃ (G : Hp) (p l : Addr) (k : Nat) (xs : List Str) (q : Int), vs = [.ref p, .ref l, .int q] ∧ WP G p k H ∧ k ≤ 40000 ∧ SqL K G l (xs.map V.str) ∧ xs.length ≤ 10 ∧ 1 ≤ q ∧ q ≤ 10 ∧
  ∀ (ys : List Str) (t : Addr) (G' H' : Hp), ys.Sublist xs → Ext G G' → WP G' p (k + xs.length) H' → G' t = some (.tup (ys.map V.str)) → Q (.ref t) H'
theorem ok__law_some (T : Tx P K mg) : FnOk P w K mg base CX0 3 T.F__law_some T.fd__law_some ["_law_pot_here", "_law_names", "_law_many"] (spSome K) := by
  refine T._law_some_ok.ok sc__law_some (fun vs H Q E h => ?_) (fun cdv A outer s H vs Q E hr h => ?_)
  · obtain ⟨G, p, l, k, xs, q, rfl, _⟩ := h
    rfl
  · obtain ⟨G, p, l, k, xs, qq, rfl, wp, hk, hl, l10, q1, q10, q⟩ := h
    have nd := sc__law_some.nd
    refine ⟨_, (pss_cons (ps_set (i := 3) nd rfl (Or.inl rfl) (pe_tup pa_nil)) (pss_cons (ps_for PassesOwn.never rfl (pi_list (pv 1)) (pg_name (i := 4) nd rfl (Or.inl rfl)) (pss_one (ps_set (i := 3) nd rfl (Or.inl rfl) (pe_op op_catA (pv 3) (pe_op op_rep01 (pe_tup (pa_cons (pv 4) pa_nil)) (pe_callTy call_int1 (by rfl) T.b_int (by decide +kernel) (pa_cons (pe_cmpR op_eq (pe_call (ok__law_take T) (hr.mono (by decide)) rfl T._law_take_mg T._law_take_ok.kp T.b__law_take .nil pass0 (pa_cons (pv 0) (pa_cons (pv 2) pa_nil))) pe_int (nomark _)) pa_nil))))))) (pss_one (ps_ret (pv 3))))), ?_⟩
    refine ⟨by show 0 ≤ sizeLine; decide, fun t0 ht0 => ?_⟩
    obtain ⟨G0, e0, f0, w0⟩ := wp.newG (.tup []) ht0
    refine ⟨_, rfl, l, rfl, ⟨_, (hl.ext e0).ext w0.ext⟩, ?_⟩
    refine for_list (K := K) (a := l) (xs := xs.map V.str) (fun i σ H' => ∃ (ys : List Str) (t : Addr) (G' : Hp) (v4 : Option V), σ = [some (.ref p), some (.ref l), some (.int qq), some (.ref t), v4] ∧ ys.Sublist (xs.take i) ∧ Ext G G' ∧ WP G' p (k + i) H' ∧ G' t = some (.tup (ys.map V.str)))
      ⟨[], t0, G0, _, rfl, List.nil_sublist _, e0, w0, f0⟩ (fun i σ H' _ ⟨ys, t, G', v4, _, _, xg, wi, _⟩ => (hl.ext xg).ext wi.ext) ?_ ?_
    · rintro i y σ H' hy ⟨ys, t, G', v4, rfl, sub, xg, wi, ft⟩
      have hi : i < xs.length := by
        have := (List.getElem?_eq_some_iff.mp hy).1
        rw [List.length_map] at this
        exact this
      rw [List.getElem?_map] at hy
      obtain ⟨x, hx, rfl⟩ := Option.map_eq_some_iff.mp hy
      have yl : ys.length ≤ 10 := Nat.le_trans sub.length_le (by rw [List.length_take]; omega)
      have tk : xs.take (i + 1) = xs.take i ++ [x] := by rw [List.take_succ, hx]; rfl
      refine ⟨_, rfl, _, rfl, by show 1 ≤ sizeLine; decide, fun t1 ht1 => ?_⟩
      obtain ⟨G1, e1, f1, w1⟩ := wi.newG (.tup [.str x]) ht1
      refine ⟨_, rfl, _, rfl, G1, p, _, qq, rfl, w1, by omega, by omega, by omega, fun r H2 r0 r1 w2 => ?_⟩
      refine ⟨rfl, .inr ⟨_, rfl, ?_⟩⟩
      have s1 : SqT K H2 t1 [.str x] := SqT.of (w2.ext _ _ f1)
      have st : SqT K H2 t (ys.map V.str) := SqT.of (w2.ext _ _ (e1 _ _ ft))
      by_cases c : V.int r = V.int 0
      · refine ⟨t1, _, _, rfl, rfl, s1, List.cons_ne_nil _ _, .inl ⟨by rw [decide_eq_true c]; rfl, ?_⟩⟩
        refine ⟨t, t1, _, _, rfl, rfl, st, s1, by rw [List.length_map]; exact Nat.le_trans (by show ys.length + 1 ≤ 100; omega) (by decide), fun e => ?_, fun _ e => absurd e (List.cons_ne_nil _ _), fun _ _ t2 ht2 => ?_⟩
        · have ey : ys = [] := List.map_eq_nil_iff.mp e
          subst ey
          exact ⟨[x], t1, G1, _, rfl, by rw [tk]; exact List.sublist_append_right _ _, xg.trans e1, w2, f1⟩
        · obtain ⟨G2, e2, f2, w3⟩ := w2.newG (.tup (ys.map V.str ++ [.str x])) ht2
          exact ⟨ys ++ [x], t2, G2, _, rfl, by rw [tk]; exact sub.append (List.Sublist.refl _), xg.trans (e1.trans e2), w3, by rw [f2, List.map_append]; rfl⟩
      · refine ⟨t1, _, _, rfl, rfl, s1, List.cons_ne_nil _ _, .inr ⟨by rw [decide_eq_false c]; rfl, fun t2 ht2 => ?_⟩⟩
        obtain ⟨G2, e2, f2, w3⟩ := w2.newG (.tup []) ht2
        have st2 : SqT K _ t (ys.map V.str) := SqT.of (w3.ext _ _ (e2 _ _ (e1 _ _ ft)))
        have sub2 : ys.Sublist (xs.take (i + 1)) := by rw [tk]; exact sub.trans (List.sublist_append_left _ _)
        refine ⟨t, t2, _, _, rfl, rfl, st2, SqT.of (w3.ext _ _ f2), by rw [List.length_map]; exact Nat.le_trans (by show ys.length + 0 ≤ 100; omega) (by decide), fun e => ?_, fun _ _ => ?_, fun _ e => absurd rfl e⟩
        · have ey : ys = [] := List.map_eq_nil_iff.mp e
          subst ey
          exact ⟨[], t2, G2, _, rfl, List.nil_sublist _, xg.trans (e1.trans e2), w3, f2⟩
        · exact ⟨ys, t, G2, _, rfl, sub2, xg.trans (e1.trans e2), w3, e2 _ _ (e1 _ _ ft)⟩
    · rintro σ H' ⟨ys, t, G', v4, rfl, sub, xg, wi, ft⟩
      rw [List.length_map] at wi sub
      rw [List.take_length] at sub
      exact ⟨_, rfl, q ys t G' H' sub xg wi ft⟩
end

end K25

namespace K25
open PySem PySem.Spec PyProof.Rows L2 L2.TP RZ
structure Lore where
  n : Int
  m : Int
  cs : List (Str × Int)
  rs : List (Str × List Int)
  ls : List Str
def lists3 : List (List Str) := [["a", "b", "p", "q"], ["c", "cc", "r", "rr"], ["count", "guard", "row", "total"]]
structure LoreOk (a b : Int) (L : Lore) : Prop where
  n2 : 2 ≤ L.n
  n4 : L.n ≤ 4
  m1 : 1 ≤ L.m
  m2 : L.m ≤ 2
  nm : ∃ (nm : List Str) (i j : Nat), nm ∈ lists3 ∧ (i : Int) ≤ a ∧ (j : Int) ≤ b ∧ L.cs.map (·.1) = nm.take i ∧ L.rs.map (·.1) = (nm.drop 2).take j ∧ L.ls.Sublist (nm.take i ++ (nm.drop 2).take j)
  cw : ∀ c ∈ L.cs, 0 ≤ c.2 ∧ c.2 < L.n
  rw_ : ∀ r ∈ L.rs, (r.2.length : Int) ≤ L.m ∧ ∀ z ∈ r.2, 0 ≤ z ∧ z < L.n
def cellsD (cs : List (Str × Int)) : PyData := .tuple (cs.map fun c => .tuple [.str c.1, .int c.2])
def rowsD (rs : List (Str × List Int)) : PyData := .tuple (rs.map fun r => .tuple [.str r.1, .tuple (r.2.map .int)])
def loreD (L : Lore) : PyData := .tuple [.int L.n, .int L.m, cellsD L.cs, rowsD L.rs, .tuple (L.ls.map .str)]
theorem dqAll_of {H : Hp} : ∀ {ys : List V} {ds : List PyData}, ys.length = ds.length → (∀ (i : Nat) (y : V) (d : PyData), ys[i]? = some y → ds[i]? = some d → Dq H y d) → DqAll H ys ds
  | [], [], _, _ => .nil
  | y :: ys, d :: ds, h, k => .cons (k 0 y d rfl rfl) (dqAll_of (Nat.succ.inj h) fun i z e h1 h2 => k (i + 1) z e h1 h2)
theorem dqAll_strs {H : Hp} : ∀ {xs : List Str}, DqAll H (xs.map V.str) (xs.map PyData.str)
  | [] => .nil
  | _ :: _ => .cons (.str _) dqAll_strs
/-- from a property of each item to a list of witnesses -/
theorem choose_all {α : Type} {R : Nat → V → α → Prop} : ∀ {ys : List V}, (∀ i y, ys[i]? = some y → ∃ a, R i y a) → ∃ as : List α, as.length = ys.length ∧ ∀ i y a, ys[i]? = some y → as[i]? = some a → R i y a
  | [], _ => ⟨[], rfl, fun i y a h => by simp at h⟩
  | y :: ys, h => by
    obtain ⟨a, ha⟩ := h 0 y rfl
    obtain ⟨as, hl, hr⟩ := choose_all (R := fun i => R (i + 1)) (ys := ys) fun i z hz => h (i + 1) z hz
    refine ⟨a :: as, congrArg Nat.succ hl, fun i z b h1 h2 => ?_⟩
    match i, h1, h2 with
    | 0, h1, h2 => cases h1; cases h2; exact ha
    | i + 1, h1, h2 => exact hr i z b h1 h2
theorem ext_eq_of {α : Type} {xs ys : List α} (hl : xs.length = ys.length) (h : ∀ (i : Nat) (x y : α), xs[i]? = some x → ys[i]? = some y → x = y) : xs = ys := by
  refine List.ext_getElem? fun i => ?_
  by_cases c : i < xs.length
  · have c2 : i < ys.length := by omega
    rw [List.getElem?_eq_getElem c, List.getElem?_eq_getElem c2, h i _ _ (List.getElem?_eq_getElem c) (List.getElem?_eq_getElem c2)]
  · rw [List.getElem?_eq_none (by omega), List.getElem?_eq_none (by omega)]
/-- a drawn cell, a drawn row -/
def RCel (N1 : List Str) (n : Int) : Nat → V → Hp → Prop := fun i y G => ∃ c : Str × Int, c.1 = N1.getD i "" ∧ 0 ≤ c.2 ∧ c.2 < n ∧ ∃ t, y = .ref t ∧ G t = some (.tup [.str c.1, .int c.2])
def RRow (N2 : List Str) (n m : Int) : Nat → V → Hp → Prop := fun i y G => ∃ r : Str × List Int, r.1 = N2.getD i "" ∧ (r.2.length : Int) ≤ m ∧ (∀ z ∈ r.2, 0 ≤ z ∧ z < n) ∧ ∃ t t1, y = .ref t ∧ G t = some (.tup [.str r.1, .ref t1]) ∧ G t1 = some (.tup (r.2.map V.int))
theorem but_tup {G : Hp} {D t : Addr} {acc : List V} {xs : List V} (h : G D = some (.lst acc)) (e : G t = some (.tup xs)) : butP G D t = some (.tup xs) := by
  have ne : t ≠ D := fun z => by rw [z, h] at e; cases e
  rw [butP_ne ne]
  exact e
theorem cells_of {G : Hp} {N1 : List Str} {n : Int} {ys : List V} (hl : ys.length = N1.length) (h : ∀ i y, ys[i]? = some y → RCel N1 n i y G) : ∃ cs : List (Str × Int), cs.map (·.1) = N1 ∧ (∀ c ∈ cs, 0 ≤ c.2 ∧ c.2 < n) ∧ DqAll G ys (cs.map fun c => .tuple [.str c.1, .int c.2]) := by
  obtain ⟨cs, cl, hc⟩ := choose_all (R := fun i y (c : Str × Int) => c.1 = N1.getD i "" ∧ 0 ≤ c.2 ∧ c.2 < n ∧ ∃ t, y = .ref t ∧ G t = some (.tup [.str c.1, .int c.2])) (ys := ys) h
  refine ⟨cs, ext_eq_of (by rw [List.length_map, cl, hl]) fun i x y h1 h2 => ?_, fun c hm => ?_, dqAll_of (by rw [List.length_map, cl]) fun i y d h1 h2 => ?_⟩
  · rw [List.getElem?_map] at h1
    obtain ⟨c, e1, rfl⟩ := Option.map_eq_some_iff.mp h1
    have lt : i < ys.length := by
      have := (List.getElem?_eq_some_iff.mp e1).1
      omega
    rw [(hc i _ c (List.getElem?_eq_getElem lt) e1).1, List.getD_eq_getElem?_getD, h2]
    rfl
  · obtain ⟨i, hi⟩ := List.mem_iff_getElem?.mp hm
    have lt : i < ys.length := by
      have := (List.getElem?_eq_some_iff.mp hi).1
      omega
    obtain ⟨_, h1, h2, _⟩ := hc i _ c (List.getElem?_eq_getElem lt) hi
    exact ⟨h1, h2⟩
  · rw [List.getElem?_map] at h2
    obtain ⟨c, e1, rfl⟩ := Option.map_eq_some_iff.mp h2
    obtain ⟨_, _, _, t, rfl, ft⟩ := hc i y c h1 e1
    exact .tup ft (.cons (.str _) (.cons (.int _) .nil))
theorem rows_of {G : Hp} {N2 : List Str} {n m : Int} {ys : List V} (hl : ys.length = N2.length) (h : ∀ i y, ys[i]? = some y → RRow N2 n m i y G) : ∃ rs : List (Str × List Int), rs.map (·.1) = N2 ∧ (∀ r ∈ rs, (r.2.length : Int) ≤ m ∧ ∀ z ∈ r.2, 0 ≤ z ∧ z < n) ∧ DqAll G ys (rs.map fun r => .tuple [.str r.1, .tuple (r.2.map .int)]) := by
  obtain ⟨rs, cl, hc⟩ := choose_all (R := fun i y (r : Str × List Int) => r.1 = N2.getD i "" ∧ (r.2.length : Int) ≤ m ∧ (∀ z ∈ r.2, 0 ≤ z ∧ z < n) ∧ ∃ t t1, y = .ref t ∧ G t = some (.tup [.str r.1, .ref t1]) ∧ G t1 = some (.tup (r.2.map V.int))) (ys := ys) h
  refine ⟨rs, ext_eq_of (by rw [List.length_map, cl, hl]) fun i x y h1 h2 => ?_, fun c hm => ?_, dqAll_of (by rw [List.length_map, cl]) fun i y d h1 h2 => ?_⟩
  · rw [List.getElem?_map] at h1
    obtain ⟨c, e1, rfl⟩ := Option.map_eq_some_iff.mp h1
    have lt : i < ys.length := by
      have := (List.getElem?_eq_some_iff.mp e1).1
      omega
    rw [(hc i _ c (List.getElem?_eq_getElem lt) e1).1, List.getD_eq_getElem?_getD, h2]
    rfl
  · obtain ⟨i, hi⟩ := List.mem_iff_getElem?.mp hm
    have lt : i < ys.length := by
      have := (List.getElem?_eq_some_iff.mp hi).1
      omega
    obtain ⟨_, h1, h2, _⟩ := hc i _ c (List.getElem?_eq_getElem lt) hi
    exact ⟨h1, h2⟩
  · rw [List.getElem?_map] at h2
    obtain ⟨c, e1, rfl⟩ := Option.map_eq_some_iff.mp h2
    obtain ⟨_, _, _, t, t1, rfl, ft, ft1⟩ := hc i y c h1 e1
    exact .tup ft (.cons (.str _) (.cons (.tup ft1 dqAll_ints) .nil))
section
variable {P : Program} {w : World} {K : PySem.W.Frag} {mg : Str → Option Value} {base : Heap}
def spLore (K : PySem.W.Frag) : Sp := fun vs H Q _ => ∃ (G : Hp) (p ls lu : Addr) (k : Nat) (sz : List Int) (a b : Int), vs = [.ref p, .ref ls, .ref lu] ∧ WP G p k H ∧ k ≤ 30000 ∧ SqL K G ls (sz.map V.int) ∧ 0 < sz.length ∧ sz.length ≤ 10 ∧ (∀ z ∈ sz, 2 ≤ z ∧ z ≤ 4) ∧ SqT K G lu [.int a, .int b] ∧ 0 ≤ a ∧ a ≤ 2 ∧ 0 ≤ b ∧ b ≤ 2 ∧
  ∀ (L : Lore) (t : Addr) (G' H' : Hp), LoreOk a b L → Ext G G' → WP G' p (k + 60) H' → Dq G' (.ref t) (loreD L) → Q (.ref t) H'
theorem ok__law_lore (T : Tx P K mg) : FnOk P w K mg base CX0 6 T.F__law_lore T.fd__law_lore ["_law_pot_here", "_law_sizes", "_law_upto"] (spLore K) := by
  refine T._law_lore_ok.ok sc__law_lore (fun vs H Q E h => ?_) (fun cdv A outer s H vs Q E hr h => ?_)
  · obtain ⟨G, p, ls, lu, k, sz, a, b, rfl, _⟩ := h
    rfl
  · obtain ⟨G, p, ls, lu, k, sz, a, b, rfl, wp, hk, hls, s0, s1, hsz, hlu, a0, a2, b0, b2, q⟩ := h
    have nd := sc__law_lore.nd
    refine ⟨_, (pss_cons (ps_asg (pe_tup (pa_cons (pe_call (ok__law_of T) (hr.mono (by decide)) rfl T._law_of_mg T._law_of_ok.kp T.b__law_of .nil pass0 (pa_cons (pv 0) (pa_cons (pv 1) pa_nil))) (pa_cons (pe_op op_add pe_int (pe_call (ok__law_take T) (hr.mono (by decide)) rfl T._law_take_mg T._law_take_ok.kp T.b__law_take .nil pass0 (pa_cons (pv 0) (pa_cons pe_int pa_nil)))) pa_nil))) (pg_tup rfl (pgs_cons (pg_name (i := 3) nd rfl (Or.inr rfl)) (pgs_cons (pg_name (i := 4) nd rfl (Or.inr rfl)) pgs_nil)))) (pss_cons (ps_set (i := 5) nd rfl (Or.inl rfl) (pe_call (ok__law_of T) (hr.mono (by decide)) rfl T._law_of_mg T._law_of_ok.kp T.b__law_of .nil pass0 (pa_cons (pv 0) (pa_cons (pe_lst (pa_cons (pe_lst (pa_cons pe_str (pa_cons pe_str (pa_cons pe_str (pa_cons pe_str pa_nil))))) (pa_cons (pe_lst (pa_cons pe_str (pa_cons pe_str (pa_cons pe_str (pa_cons pe_str pa_nil))))) (pa_cons (pe_lst (pa_cons pe_str (pa_cons pe_str (pa_cons pe_str (pa_cons pe_str pa_nil))))) pa_nil)))) pa_nil)))) (pss_cons (ps_par (i := 6) (j := 7) (by rfl) nd rfl rfl (by decide) rfl rfl (pa_cons (pe_slice sl_list (pv 5) po_none (po_some (pe_call (ok__law_take T) (hr.mono (by decide)) rfl T._law_take_mg T._law_take_ok.kp T.b__law_take .nil pass0 (pa_cons (pv 0) (pa_cons (pe_op op_add (pe_ix ix_tup (pv 2) pe_int (fun _ _ => rfl)) pe_int) pa_nil))))) (pa_cons (pe_slice sl_list (pe_slice sl_list (pv 5) (po_some pe_int) po_none) po_none (po_some (pe_call (ok__law_take T) (hr.mono (by decide)) rfl T._law_take_mg T._law_take_ok.kp T.b__law_take .nil pass0 (pa_cons (pv 0) (pa_cons (pe_op op_add (pe_ix ix_tup (pv 2) pe_int (fun _ _ => rfl)) pe_int) pa_nil))))) pa_nil)) (by rfl)) (pss_cons (ps_set (i := 8) nd rfl (Or.inl rfl) (pe_callTy call_tuple_of (by rfl) T.b_tuple (by decide +kernel) (pa_cons (pe_lc (own := [("_law_name", 10)]) (g := gName 10) (by rfl) nd (pi_list (pv 6)) (blkOk_by (own := [("_law_name", 10)]) (N := N__law_lore) (sc := defScope s__law_lore) (by decide +kernel)) (fun _ _ _ _ _ => (pg_name (i := 10) nd rfl (Or.inl rfl))) (fun _ _ _ _ _ => pts_nil) (fun _ _ _ _ _ => (pe_tup (pa_cons (pv 10) (pa_cons (pe_call (ok__law_take T) (hr.mono (by decide)) rfl T._law_take_mg T._law_take_ok.kp T.b__law_take .nil pass0 (pa_cons (pv 0) (pa_cons (pv 3) pa_nil))) pa_nil))))) pa_nil))) (pss_cons (ps_set (i := 9) nd rfl (Or.inl rfl) (pe_callTy call_tuple_of (by rfl) T.b_tuple (by decide +kernel) (pa_cons (pe_lc (own := [("_law_name", 10)]) (g := gName 10) (by rfl) nd (pi_list (pv 7)) (blkOk_by (own := [("_law_name", 10)]) (N := N__law_lore) (sc := defScope s__law_lore) (by decide +kernel)) (fun _ _ _ _ _ => (pg_name (i := 10) nd rfl (Or.inl rfl))) (fun _ _ _ _ _ => pts_nil) (fun _ _ _ _ _ => (pe_tup (pa_cons (pv 10) (pa_cons (pe_call (ok__law_items T) (hr.mono (by decide)) rfl T._law_items_mg T._law_items_ok.kp T.b__law_items .nil pass0 (pa_cons (pv 0) (pa_cons (pv 3) (pa_cons (pv 4) pa_nil)))) pa_nil))))) pa_nil))) (pss_one (ps_ret (pe_tup (pa_cons (pv 3) (pa_cons (pv 4) (pa_cons (pv 8) (pa_cons (pv 9) (pa_cons (pe_call (ok__law_some T) (hr.mono (by decide)) rfl T._law_some_mg T._law_some_ok.kp T.b__law_some .nil pass0 (pa_cons (pv 0) (pa_cons (pe_op op_cat (pv 6) (pv 7)) (pa_cons pe_int pa_nil)))) pa_nil))))))))))))), ?_⟩
    refine ⟨_, rfl, _, rfl, G, p, ls, k, _, rfl, wp, by omega, hls, by rw [List.length_map]; exact s0, by rw [List.length_map]; omega, fun i0 v H1 hv w1 => ?_⟩
    rw [List.getElem?_map] at hv
    obtain ⟨n, hn, rfl⟩ := Option.map_eq_some_iff.mp hv
    obtain ⟨n2, n4⟩ := hsz n (List.mem_of_getElem? hn)
    refine ⟨_, rfl, G, p, _, 2, rfl, w1, by omega, by decide, by decide, fun r H2 r0 r1 w2 => ?_⟩
    refine ⟨_, _, rfl, rfl, by show 2 ≤ sizeLine; decide, fun tt htt => ?_⟩
    obtain ⟨G3, x3, f3, w3⟩ := w2.newG (.tup [.int n, .int (1 + r)]) htt
    refine ⟨tt, _, rfl, SqT.of (w3.ext _ _ f3), rfl, _, _, rfl, _, _, rfl, rfl, ?_⟩
    obtain ⟨m, hm⟩ : ∃ m : Int, 1 + r = m := ⟨_, rfl⟩
    rw [hm]
    have m1 : 1 ≤ m := by omega
    have m2 : m ≤ 2 := by omega
    clear f3
    -- the names
    refine ⟨_, rfl, by show 4 ≤ sizeLine; decide, fun b1 hb1 => ?_⟩
    obtain ⟨G4, x4, f4, w4⟩ := w3.newG (.lst [.str "a", .str "b", .str "p", .str "q"]) hb1
    refine ⟨by show 4 ≤ sizeLine; decide, fun b2' hb2 => ?_⟩
    obtain ⟨G5, x5, f5, w5⟩ := w4.newG (.lst [.str "c", .str "cc", .str "r", .str "rr"]) hb2
    refine ⟨by show 4 ≤ sizeLine; decide, fun b3 hb3 => ?_⟩
    obtain ⟨G6, x6, f6, w6⟩ := w5.newG (.lst [.str "count", .str "guard", .str "row", .str "total"]) hb3
    refine ⟨by show 3 ≤ sizeLine; decide, fun b4 hb4 => ?_⟩
    obtain ⟨G7, x7, f7, w7⟩ := w6.newG (.lst [.ref b1, .ref b2', .ref b3]) hb4
    refine ⟨G7, p, b4, _, _, rfl, w7, by omega, SqL.of f7, (by show 0 < 3; decide), (by show 3 ≤ 1000; decide), fun i1 v H8 hv8 w8 => ?_⟩
    obtain ⟨nb, nm, rfl, hnm, fn⟩ : ∃ nb nm, v = .ref nb ∧ nm ∈ lists3 ∧ G7 nb = some (.lst (nm.map V.str)) := by
      match i1, hv8 with
      | 0, h => cases h; exact ⟨_, ["a", "b", "p", "q"], rfl, by simp [lists3], (x5.trans (x6.trans x7)) _ _ f4⟩
      | 1, h => cases h; exact ⟨_, ["c", "cc", "r", "rr"], rfl, by simp [lists3], (x6.trans x7) _ _ f5⟩
      | 2, h => cases h; exact ⟨_, ["count", "guard", "row", "total"], rfl, by simp [lists3], x7 _ _ f6⟩
      | n + 3, h => simp at h
    have nl : nm.length = 4 := by
      unfold lists3 at hnm
      simp only [List.mem_cons, List.not_mem_nil, or_false] at hnm
      rcases hnm with rfl | rfl | rfl <;> rfl
    have x37 := x3.trans (x4.trans (x5.trans (x6.trans x7)))
    clear f4 f5 f6 f7 hv8 w3 w4 w5 w6 w7
    have hlu7 := hlu.ext x37
    -- some of them
    refine ⟨_, rfl, _, rfl, _, rfl, lu, _, 0, _, rfl, rfl, hlu7.ext w8.ext, rfl, _, _, rfl, rfl, G7, p, _, a + 1, rfl, w8, by omega, by omega, by omega, fun ri H9 ri0 ri1 w9 => ?_⟩
    refine ⟨_, rfl, nb, _, rfl, SqL.of (w9.ext _ _ fn), fun e1 he1 => ?_⟩
    rw [cutTo ri0, ← List.map_take]
    obtain ⟨G10, x10, f10, w10⟩ := w9.newG (.lst ((nm.take ri.toNat).map V.str)) he1
    refine ⟨_, rfl, _, rfl, nb, _, rfl, SqL.of (w10.ext _ _ (x10 _ _ fn)), fun e2 he2 => ?_⟩
    have cf : cutV (nm.map V.str) (some 2) none = (nm.drop 2).map V.str := (cutFrom (k := 2)).trans (List.map_drop).symm
    rw [cf]
    obtain ⟨G11, x11, f11, w11⟩ := w10.newG (.lst ((nm.drop 2).map V.str)) he2
    refine ⟨_, rfl, _, rfl, lu, _, 1, _, rfl, rfl, (hlu7.ext (x10.trans x11)).ext w11.ext, rfl, _, _, rfl, rfl, G11, p, _, b + 1, rfl, w11, by omega, by omega, by omega, fun rj H12 rj0 rj1 w12 => ?_⟩
    refine ⟨_, rfl, e2, _, rfl, SqL.of (w12.ext _ _ f11), fun e3 he3 => ?_⟩
    rw [cutTo rj0, ← List.map_take]
    obtain ⟨G13, x13, f13, w13⟩ := w12.newG (.lst (((nm.drop 2).take rj.toNat).map V.str)) he3
    refine ⟨_, _, rfl, ?_⟩
    have f10' := (x11.trans x13) _ _ f10
    have x013 := x37.trans (x10.trans (x11.trans x13))
    have l1 : (nm.take ri.toNat).length ≤ 4 := by rw [List.length_take]; omega
    have l2 : ((nm.drop 2).take rj.toNat).length ≤ 4 := by rw [List.length_take, List.length_drop]; omega
    generalize hN1 : nm.take ri.toNat = N1 at *
    generalize hN2 : (nm.drop 2).take rj.toNat = N2 at *
    clear f10 f11 w8 w9 w10 w11 w12
    generalize upd H12 e3 _ = H13 at w13 ⊢
    -- the cells
    refine ⟨_, rfl, e1, rfl, ⟨_, SqL.of (w13.ext _ _ f10')⟩, fun D hD => ?_⟩
    refine lc_pot (walk_list (K := K) (a := e1) (xs := N1.map V.str)) (c := 1) (RCel N1 n) hD (by rw [List.length_map]; omega) w13 (fun G H x y => SqL.of (y _ _ (x _ _ f10'))) (fun i y G G' e ⟨c, h1, h2, h3, t, h4, h5⟩ => ⟨c, h1, h2, h3, t, h4, e _ _ h5⟩) (fun i y G acc hG ⟨c, h1, h2, h3, t, h4, h5⟩ => ⟨c, h1, h2, h3, t, h4, but_tup hG h5⟩) ?_ ?_
    · rintro i x H5 H6 acc G Q' hi xG wG hGD ⟨rfl, hx⟩ k6
      rw [List.length_map] at hi
      rw [List.getElem?_map] at hx
      obtain ⟨s, hs, rfl⟩ := Option.map_eq_some_iff.mp hx
      refine ⟨rfl, ?_⟩
      refine ⟨_, rfl, _, rfl, _, rfl, G, p, _, n, rfl, wG, by omega, by omega, by omega, fun z H7 z0 z1 w7 => ⟨by show 2 ≤ sizeLine; decide, fun t ht => ?_⟩⟩
      obtain ⟨G6, y6, g6, w6⟩ := w7.newG (.tup [.str s, .int z]) ht
      exact k6 (.ref t) G6 _ y6 (w6.mono (by omega)) ⟨(s, z), by rw [List.getD_eq_getElem?_getD, hs]; rfl, z0, z1, t, rfl, g6⟩
    intro ys G14 H14 xa xb w14 hGD hyl hyr
    rw [List.length_map] at hyl w14
    obtain ⟨cs, hcs, hcb, hcd⟩ := cells_of hyl hyr
    refine ⟨D, _, rfl, .inl ⟨SqL.of (w14.ext _ _ hGD), fun tc htc => ?_⟩⟩
    obtain ⟨G15, x15, f15, w15⟩ := w14.newG (.tup ys) htc
    have dc : Dq G15 (.ref tc) (cellsD cs) := .tup f15 (DqAll.ext (xb.trans x15) hcd)
    have x1315 := xa.trans (xb.trans x15)
    clear hyr hcd f15 w14 htc hGD
    generalize upd H14 tc _ = H15 at w15 ⊢
    -- the rows
    have f13' := x1315 _ _ f13
    refine ⟨_, rfl, e3, rfl, ⟨_, SqL.of (w15.ext _ _ f13')⟩, fun D2 hD2 => ?_⟩
    refine lc_pot (walk_list (K := K) (a := e3) (xs := N2.map V.str)) (c := 7) (RRow N2 n m) hD2 (by rw [List.length_map]; omega) w15 (fun G H x y => SqL.of (y _ _ (x _ _ f13'))) (fun i y G G' e ⟨c, h1, h2, h3, t, t1, h4, h5, h6⟩ => ⟨c, h1, h2, h3, t, t1, h4, e _ _ h5, e _ _ h6⟩) (fun i y G acc hG ⟨c, h1, h2, h3, t, t1, h4, h5, h6⟩ => ⟨c, h1, h2, h3, t, t1, h4, but_tup hG h5, but_tup hG h6⟩) ?_ ?_
    · rintro i x H5 H6 acc G Q' hi xG wG hGD ⟨rfl, hx⟩ k6
      rw [List.length_map] at hi
      rw [List.getElem?_map] at hx
      obtain ⟨s, hs, rfl⟩ := Option.map_eq_some_iff.mp hx
      refine ⟨rfl, ?_⟩
      refine ⟨_, rfl, _, rfl, _, rfl, _, rfl, G, p, _, n, m, rfl, wG, by omega, by omega, by omega, by omega, by omega, fun ns t1 G7 H7 nl7 nb7 y7 w7 f7 => ⟨by show 2 ≤ sizeLine; decide, fun t ht => ?_⟩⟩
      obtain ⟨G6, y6, g6, w6⟩ := w7.newG (.tup [.str s, .ref t1]) ht
      exact k6 (.ref t) G6 _ (y7.trans y6) (w6.mono (by omega)) ⟨(s, ns), by rw [List.getD_eq_getElem?_getD, hs]; rfl, nl7, nb7, t, t1, rfl, g6, y6 _ _ f7⟩
    intro zs G16 H16 xa2 xb2 w16 hGD2 hzl hzr
    rw [List.length_map] at hzl w16
    obtain ⟨rs, hrs, hrb, hrd⟩ := rows_of hzl hzr
    refine ⟨D2, _, rfl, .inl ⟨SqL.of (w16.ext _ _ hGD2), fun tr htr => ?_⟩⟩
    obtain ⟨G17, x17, f17, w17⟩ := w16.newG (.tup zs) htr
    have dr : Dq G17 (.ref tr) (rowsD rs) := .tup f17 (DqAll.ext (xb2.trans x17) hrd)
    have x1517 := xa2.trans (xb2.trans x17)
    clear hzr hrd f17 w16 htr hGD2
    generalize upd H16 tr _ = H17 at w17 ⊢
    -- the loose ones
    have g1 := (x1315.trans x1517) _ _ f10'
    have g3 := x1517 _ _ f13'
    refine ⟨_, rfl, _, rfl, _, rfl, _, rfl, _, rfl, _, rfl, _, rfl, e1, e3, _, _, rfl, rfl, w17.ext _ _ g1, w17.ext _ _ g3, by rw [List.length_map, List.length_map]; exact Nat.le_trans (by omega : _ ≤ 100) (by decide), fun e5 he5 => ?_⟩
    rw [← List.map_append]
    obtain ⟨G18, x18, f18, w18⟩ := w17.newG (.lst ((N1 ++ N2).map V.str)) he5
    refine ⟨G18, p, e5, _, N1 ++ N2, 2, rfl, w18, by omega, SqL.of f18, by rw [List.length_append]; omega, by decide, by decide, fun yl tl G19 H19 sub x19 w19 f19 => ?_⟩
    refine ⟨by show 5 ≤ sizeLine; decide, fun t ht => ?_⟩
    obtain ⟨G20, x20, f20, w20⟩ := w19.newG (.tup [.int n, .int m, .ref tc, .ref tr, .ref tl]) ht
    have lA : (N1 ++ N2).length ≤ 8 := by rw [List.length_append]; omega
    refine q ⟨n, m, cs, rs, yl⟩ t G20 _ ⟨n2, n4, m1, m2, ⟨nm, ri.toNat, rj.toNat, hnm, by omega, by omega, hcs.trans hN1.symm, hrs.trans hN2.symm, by rw [hN1, hN2]; exact sub⟩, hcb, hrb⟩ (x013.trans (x1315.trans (x1517.trans (x18.trans (x19.trans x20))))) (w20.mono (by omega)) ?_
    exact .tup f20 (.cons (.int _) (.cons (.int _) (.cons (dc.ext (x1517.trans (x18.trans (x19.trans x20)))) (.cons (dr.ext (x18.trans (x19.trans x20))) (.cons (.tup (x20 _ _ f19) dqAll_strs) .nil)))))
end

end K25

namespace K25
open PySem PySem.Spec PyProof.Rows L2 L2.TP RZ
/-- a world of the lore L stands at x -/
def WAt (C : Addr) (H : Hp) (x : Addr) (L : Lore) : Prop := ∃ (dx : Addr) (v3 v4 v5 : V), H x = some (.ins C dx (wf (.int L.n) (.int L.m) v3 v4 v5)) ∧ Dq H v3 (cellsD L.cs) ∧ Dq H v4 (rowsD L.rs) ∧ Dq H v5 (.tuple (L.ls.map .str))
theorem WAt.ext {C : Addr} {H H' : Hp} {x : Addr} {L : Lore} (h : WAt C H x L) (e : Ext H H') : WAt C H' x L := by
  obtain ⟨dx, v3, v4, v5, h1, h2, h3, h4⟩ := h
  exact ⟨dx, v3, v4, v5, e _ _ h1, h2.ext e, h3.ext e, h4.ext e⟩
theorem wf_size (v1 v2 v3 v4 v5 : V) : (wf v1 v2 v3 v4 v5).lookup ("own_size" : Str) = some v1 := lk_yes
theorem wf_most (v1 v2 v3 v4 v5 : V) : (wf v1 v2 v3 v4 v5).lookup ("own_most" : Str) = some v2 := (lk_no (by decide +kernel)).trans lk_yes
theorem wf_cells (v1 v2 v3 v4 v5 : V) : (wf v1 v2 v3 v4 v5).lookup ("own_cells" : Str) = some v3 := (lk_no (by decide +kernel)).trans ((lk_no (by decide +kernel)).trans lk_yes)
theorem wf_rows (v1 v2 v3 v4 v5 : V) : (wf v1 v2 v3 v4 v5).lookup ("own_rows" : Str) = some v4 := (lk_no (by decide +kernel)).trans ((lk_no (by decide +kernel)).trans ((lk_no (by decide +kernel)).trans lk_yes))
theorem wf_loose (v1 v2 v3 v4 v5 : V) : (wf v1 v2 v3 v4 v5).lookup ("own_loose" : Str) = some v5 := (lk_no (by decide +kernel)).trans ((lk_no (by decide +kernel)).trans ((lk_no (by decide +kernel)).trans ((lk_no (by decide +kernel)).trans lk_yes)))
/-- the pairs of the cells, of the rows -/
theorem cell_pair {H : Hp} {xs : List V} {cs : List (Str × Int)} (al : DqAll H xs (cs.map fun c => .tuple [.str c.1, .int c.2])) {i : Nat} {y : V} (hy : xs[i]? = some y) : ∃ (t : Addr) (c : Str × Int), y = .ref t ∧ cs[i]? = some c ∧ H t = some (.tup [.str c.1, .int c.2]) := by
  obtain ⟨g, hg, dg⟩ := all_at al hy
  rw [List.getElem?_map] at hg
  obtain ⟨c, e1, rfl⟩ := Option.map_eq_some_iff.mp hg
  cases dg with
  | tup h2 al2 =>
  cases al2 with
  | cons d1 al2 =>
  cases al2 with
  | cons d2 al2 =>
  cases al2
  cases d1
  cases d2
  exact ⟨_, c, rfl, e1, h2⟩
theorem row_pair {H : Hp} {xs : List V} {rs : List (Str × List Int)} (al : DqAll H xs (rs.map fun r => .tuple [.str r.1, .tuple (r.2.map .int)])) {i : Nat} {y : V} (hy : xs[i]? = some y) : ∃ (t : Addr) (r : Str × List Int) (u : V), y = .ref t ∧ rs[i]? = some r ∧ H t = some (.tup [.str r.1, u]) ∧ Dq H u (.tuple (r.2.map .int)) := by
  obtain ⟨g, hg, dg⟩ := all_at al hy
  rw [List.getElem?_map] at hg
  obtain ⟨c, e1, rfl⟩ := Option.map_eq_some_iff.mp hg
  cases dg with
  | tup h2 al2 =>
  cases al2 with
  | cons d1 al2 =>
  cases al2 with
  | cons d2 al2 =>
  cases al2
  cases d1
  exact ⟨_, c, _, rfl, e1, h2, d2⟩
structure Low (L : Lore) : Prop where
  n0 : 0 ≤ L.n
  n4 : L.n ≤ 4
  c2 : L.cs.length ≤ 2
  r2 : L.rs.length ≤ 2
  l10 : L.ls.length ≤ 10
def firstD (L : Lore) : PyData := .tuple [.tuple (L.cs.map fun c => .int c.2), .tuple (L.rs.map fun r => .tuple (r.2.map .int))]
section
variable {P : Program} {w : World} {K : PySem.W.Frag} {mg : Str → Option Value} {base : Heap}
theorem ok_World_size (T : Tx P K mg) : FnOk P w K mg base CX0 1 T.F_World_size T.fd_World_size ["self"] (getSp T.C_World "own_size") := by
  obtain ⟨oc, od, kV, doc, pm, an, cdv, ct, osl, e, lk, hcd⟩ := T.World_size_ok.ex
  rw [e] at lk ⊢
  exact fn_getter lk hcd sc_World_size rfl rfl T.World_cl T.x_n_size
theorem ok_World_most (T : Tx P K mg) : FnOk P w K mg base CX0 1 T.F_World_most T.fd_World_most ["self"] (getSp T.C_World "own_most") := by
  obtain ⟨oc, od, kV, doc, pm, an, cdv, ct, osl, e, lk, hcd⟩ := T.World_most_ok.ex
  rw [e] at lk ⊢
  exact fn_getter lk hcd sc_World_most rfl rfl T.World_cl T.x_n_most
theorem ok_World_cells (T : Tx P K mg) : FnOk P w K mg base CX0 1 T.F_World_cells T.fd_World_cells ["self"] (getSp T.C_World "own_cells") := by
  obtain ⟨oc, od, kV, doc, pm, an, cdv, ct, osl, e, lk, hcd⟩ := T.World_cells_ok.ex
  rw [e] at lk ⊢
  exact fn_getter lk hcd sc_World_cells rfl rfl T.World_cl T.x_n_cells
theorem ok_World_rows (T : Tx P K mg) : FnOk P w K mg base CX0 1 T.F_World_rows T.fd_World_rows ["self"] (getSp T.C_World "own_rows") := by
  obtain ⟨oc, od, kV, doc, pm, an, cdv, ct, osl, e, lk, hcd⟩ := T.World_rows_ok.ex
  rw [e] at lk ⊢
  exact fn_getter lk hcd sc_World_rows rfl rfl T.World_cl T.x_n_rows
theorem ok_World_loose (T : Tx P K mg) : FnOk P w K mg base CX0 1 T.F_World_loose T.fd_World_loose ["self"] (getSp T.C_World "own_loose") := by
  obtain ⟨oc, od, kV, doc, pm, an, cdv, ct, osl, e, lk, hcd⟩ := T.World_loose_ok.ex
  rw [e] at lk ⊢
  exact fn_getter lk hcd sc_World_loose rfl rfl T.World_cl T.x_n_loose
def spFirst (C : Addr) : Sp := fun vs H Q _ => ∃ (x : Addr) (L : Lore), vs = [.ref x] ∧ WAt C H x L ∧ L.cs.length ≤ 100 ∧ L.rs.length ≤ 100 ∧ ∀ t H', Ext H H' → Dq H' (.ref t) (firstD L) → Q (.ref t) H'
theorem ok_World_first (T : Tx P K mg) : FnOk P w K mg base CX0 2 T.F_World_first T.fd_World_first ["self"] (spFirst T.C_World) := by
  refine T.World_first_ok.ok sc_World_first (fun vs H Q E h => ?_) (fun cdv A outer s H vs Q E hr h => ?_)
  · obtain ⟨x, L, rfl, _⟩ := h
    rfl
  · obtain ⟨x, L, rfl, ⟨dx, v3, v4, v5, hx, h3, h4, h5⟩, lc, lr, q⟩ := h
    have nd := sc_World_first.nd
    refine ⟨_, (pss_one (ps_ret (pe_tup (pa_cons (pe_callTy call_tuple_of (by rfl) T.b_tuple (by decide +kernel) (pa_cons (pe_lc (own := [("name", 1), ("worth", 2)]) (g := gTup K 2 (gCons (gName 1) (gCons (gName 2) gNil))) (by rfl) nd (pi_tup (pe_fld (pv 0) rfl)) (blkOk_by (own := [("name", 1), ("worth", 2)]) (N := N_World_first) (sc := defScope s_World_first) (by decide +kernel)) (fun _ _ _ _ _ => (pg_tup rfl (pgs_cons (pg_name (i := 1) nd rfl (Or.inl rfl)) (pgs_cons (pg_name (i := 2) nd rfl (Or.inl rfl)) pgs_nil)))) (fun _ _ _ _ _ => pts_nil) (fun _ _ _ _ _ => (pv 2))) pa_nil)) (pa_cons (pe_callTy call_tuple_of (by rfl) T.b_tuple (by decide +kernel) (pa_cons (pe_lc (own := [("name", 1), ("items", 3)]) (g := gTup K 2 (gCons (gName 1) (gCons (gName 3) gNil))) (by rfl) nd (pi_tup (pe_fld (pv 0) rfl)) (blkOk_by (own := [("name", 1), ("items", 3)]) (N := N_World_first) (sc := defScope s_World_first) (by decide +kernel)) (fun _ _ _ _ _ => (pg_tup rfl (pgs_cons (pg_name (i := 1) nd rfl (Or.inl rfl)) (pgs_cons (pg_name (i := 3) nd rfl (Or.inl rfl)) pgs_nil)))) (fun _ _ _ _ _ => pts_nil) (fun _ _ _ _ _ => (pv 3))) pa_nil)) pa_nil))))), ?_⟩
    cases h3 with
    | tup t3 al3 =>
    cases h4 with
    | tup t4 al4 =>
    rename_i a3 xs3 a4 xs4
    have l3 : xs3.length = L.cs.length := by rw [all_len al3, List.length_map]
    have l4 : xs4.length = L.rs.length := by rw [all_len al4, List.length_map]
    refine ⟨_, rfl, x, T.C_World, dx, _, _, rfl, hx, T.World_cl, T.x_n_cells, wf_cells _ _ _ _ _, a3, rfl, ⟨_, SqT.of t3⟩, fun D hD => ?_⟩
    refine lc_flat (walk_tup (K := K) (a := a3) (xs := xs3)) (fun i => .int ((L.cs.map (·.2)).getD i 0)) hD (by omega) (SqT.of t3) (fun _ _ e h => h.ext e) ?_ ?_
    · rintro i y H6 H7 acc Q' hi X7 hl hDa gH ⟨rfl, hy⟩ k7
      obtain ⟨t, c, rfl, hc, ft⟩ := cell_pair al3 hy
      have k8 := k7 H7 Ext.rfl'
      rw [List.getD_eq_getElem?_getD, List.getElem?_map, hc] at k8
      refine ⟨t, _, rfl, SqT.of (X7 _ _ ft), rfl, _, _, rfl, _, _, rfl, rfl, rfl, ?_⟩
      exact ⟨_, rfl, k8⟩
    intro H6 X6 f6
    have e6 : (List.range xs3.length).map (fun i => V.int ((L.cs.map (·.2)).getD i 0)) = (L.cs.map (·.2)).map V.int := by
      rw [show xs3.length = (L.cs.map (·.2)).length by rw [l3, List.length_map]]
      exact range_map fun i y hy => by rw [List.getD_eq_getElem?_getD, hy]; rfl
    rw [e6] at f6
    refine ⟨D, _, rfl, .inl ⟨SqL.of f6, fun t6 ht6 => ?_⟩⟩
    generalize hJ : upd _ t6 _ = H7
    obtain ⟨X7, f7⟩ := new_of hJ ht6
    clear hJ ht6
    have X67 := X6.trans X7
    have us := choose_all (R := fun i y (u : V) => ∃ (t : Addr) (r : Str × List Int), y = .ref t ∧ L.rs[i]? = some r ∧ H t = some (.tup [.str r.1, u]) ∧ Dq H u (.tuple (r.2.map .int))) (ys := xs4) fun i y hy => by
      obtain ⟨t, r, u, e1, e2, e3, e4⟩ := row_pair al4 hy
      exact ⟨u, t, r, e1, e2, e3, e4⟩
    obtain ⟨us, ul, hu⟩ := us
    refine ⟨_, rfl, x, T.C_World, dx, _, _, rfl, X67 _ _ hx, T.World_cl, T.x_n_rows, wf_rows _ _ _ _ _, a4, rfl, ⟨_, SqT.of (X67 _ _ t4)⟩, fun D2 hD2 => ?_⟩
    refine lc_flat (walk_tup (K := K) (a := a4) (xs := xs4)) (fun i => us.getD i .non) hD2 (by omega) (SqT.of (X67 _ _ t4)) (fun _ _ e h => h.ext e) ?_ ?_
    · rintro i y H8 H9 acc Q' hi X9 hl hDa gH ⟨rfl, hy⟩ k9
      have lt : i < us.length := by
        have := (List.getElem?_eq_some_iff.mp hy).1
        omega
      obtain ⟨t, r, rfl, hr', ft, _⟩ := hu i y us[i] hy (List.getElem?_eq_getElem lt)
      have k8 := k9 H9 Ext.rfl'
      rw [List.getD_eq_getElem?_getD, List.getElem?_eq_getElem lt] at k8
      refine ⟨t, _, rfl, SqT.of (X9 _ _ (X67 _ _ ft)), rfl, _, _, rfl, _, _, rfl, rfl, rfl, ?_⟩
      exact ⟨_, rfl, k8⟩
    intro H8 X8 f8
    have e8 : (List.range xs4.length).map (fun i => us.getD i .non) = us := by
      rw [← ul]
      exact (range_map (f := fun x => x) fun i y hy => by rw [List.getD_eq_getElem?_getD, hy]; rfl).trans (List.map_id' us)
    rw [e8] at f8
    refine ⟨D2, _, rfl, .inl ⟨SqL.of f8, fun t8 ht8 => ?_⟩⟩
    generalize hJ : upd _ t8 _ = H9
    obtain ⟨X9, f9⟩ := new_of hJ ht8
    clear hJ ht8
    refine ⟨by show 2 ≤ sizeLine; decide, fun t9 ht9 => ?_⟩
    generalize hJ : upd _ t9 _ = H10
    obtain ⟨X10, f10⟩ := new_of hJ ht9
    clear hJ ht9
    have X810 := X8.trans (X9.trans X10)
    refine q t9 H10 (X67.trans X810) (.tup f10 (.cons (.tup (X810 _ _ f7) ?_) (.cons (.tup (X10 _ _ f9) ?_) .nil)))
    · have z := dqAll_ints (H := H10) (ns := L.cs.map (·.2))
      have e : (L.cs.map (·.2)).map PyData.int = L.cs.map fun c => PyData.int c.2 := by rw [List.map_map]; rfl
      rw [e] at z
      exact z
    · refine dqAll_of (by rw [List.length_map, ul, l4]) fun i u d h1 h2 => ?_
      rw [List.getElem?_map] at h2
      obtain ⟨r, e1, rfl⟩ := Option.map_eq_some_iff.mp h2
      have lt : i < xs4.length := by
        have := (List.getElem?_eq_some_iff.mp h1).1
        omega
      obtain ⟨t, r', _, e2, _, du⟩ := hu i _ u (List.getElem?_eq_getElem lt) h1
      rw [e1] at e2
      cases e2
      exact du.ext (X67.trans X810)
end

end K25

namespace K25
open PySem PySem.Spec PyProof.Rows L2 L2.TP RZ
section
variable {P : Program} {w : World} {K : PySem.W.Frag} {mg : Str → Option Value} {base : Heap}
theorem ok__law_is_from (T : Tx P K mg) : FnOk P w K mg base CX0 1 T.F__law_is_from T.fd__law_is_from ["_law_value", "_law_low", "_law_high"] spFrom := by
  refine T._law_is_from_ok.ok sc__law_is_from (fun vs H Q E h => ?_) (fun cdv A outer s H vs Q E hr h => ?_)
  · obtain ⟨v, d, lo, hi, rfl, _⟩ := h
    rfl
  · obtain ⟨v, d, lo, hi, rfl, hd, q⟩ := h
    have nd := sc__law_is_from.nd
    refine ⟨_, (pss_one (ps_ret (pe_and (pe_callB call_isi (by rfl) T.b_isinstance (by decide +kernel) (pa_cons (pv 0) (pa_cons (pe_bltn (by rfl) T.b_int (by decide +kernel) (v := .ty "int") rfl) pa_nil))) (pe_and (pe_not (pe_callB call_isi (by rfl) T.b_isinstance (by decide +kernel) (pa_cons (pv 0) (pa_cons (pe_bltn (by rfl) T.b_bool (by decide +kernel) (v := .ty "bool") rfl) pa_nil)))) (pe_one (pe_chain op_le op_le (pv 1) (pv 0) (pv 2))))))), ?_⟩
    refine ⟨_, rfl, _, _, _, _, _, rfl, .ty _, tyD hd, kitI d, _, rfl, ?_⟩
    cases e : intB d with
    | false =>
      rw [from_false (by rw [e]; rfl)] at q
      exact iteF q
    | true =>
    refine iteT ?_
    refine ⟨_, rfl, _, _, _, _, _, rfl, .ty _, tyD hd, kitBl d, _, rfl, _, rfl, ?_⟩
    cases e2 : boolB d with
    | true =>
      rw [from_false (by rw [e, e2]; rfl)] at q
      exact iteF q
    | false =>
      obtain ⟨i, rfl⟩ := isI_int (by rw [e, e2]; rfl)
      cases hd
      refine iteT ?_
      refine ⟨_, rfl, _, rfl, _, _, rfl, rfl, _, rfl, ?_⟩
      have q : Q (.bl (decide (lo ≤ i) && decide (i ≤ hi))) H := q
      by_cases c : lo ≤ i
      · rw [decide_eq_true c] at q ⊢
        exact iteT ⟨_, rfl, _, _, rfl, rfl, q⟩
      · rw [decide_eq_false c] at q ⊢
        exact iteF q
theorem ok__law_is_name (T : Tx P K mg) : FnOk P w K mg base CX0 1 T.F__law_is_name T.fd__law_is_name ["_law_value"] spIsName := by
  refine T._law_is_name_ok.ok sc__law_is_name (fun vs H Q E h => ?_) (fun cdv A outer s H vs Q E hr h => ?_)
  · obtain ⟨v, d, rfl, _⟩ := h
    rfl
  · obtain ⟨v, d, rfl, hd, wt, q⟩ := h
    have nd := sc__law_is_name.nd
    refine ⟨_, (pss_cons (ps_if (PW.pt (pw_or (pt_not (pt_val (pe_callB call_isi (by rfl) T.b_isinstance (by decide +kernel) (pa_cons (pv 0) (pa_cons (pe_bltn (by rfl) T.b_str (by decide +kernel) (v := .ty "str") rfl) pa_nil))))) (pw_or1 (pt_not (pt_chain op_le op_le pe_int (pe_callB call_len_str (by rfl) T.b_len (by decide +kernel) (pa_cons (pv 0) pa_nil)) pe_int))))) (pss_one (ps_ret pe_bl)) pss_nil) (pss_one (ps_ret (pe_callB (cr_all rfl) (by rfl) T.b_all (by decide +kernel) (pa_cons (pe_lc (own := [("_law_sign", 1)]) (g := gName 1) (by rfl) nd (pi_str (pv 0)) (blkOk_by (own := [("_law_sign", 1)]) (N := N__law_is_name) (sc := defScope s__law_is_name) (by decide +kernel)) (fun _ _ _ _ _ => (pg_name (i := 1) nd rfl (Or.inl rfl))) (fun _ _ _ _ _ => pts_nil) (fun _ _ _ _ _ => (pe_cmpR op_in_str (pv 1) pe_str (by rfl)))) pa_nil))))), ?_⟩
    refine ⟨_, rfl, _, _, _, _, _, rfl, .ty _, tyD hd, kitS d, _, rfl, ?_⟩
    cases e : strB d with
    | false =>
      have z := q H Ext.rfl'
      have n : nameD d = false := by cases d <;> first | rfl | (cases e; done)
      rw [n] at z
      exact iteT z
    | true =>
      obtain ⟨x, rfl⟩ := strB_of e
      cases hd
      have fit : x.length ≤ sizeLine := Nat.le_trans (show x.cps.size ≤ 100000 from wt) (by decide)
      refine iteF ?_
      refine ⟨_, rfl, x, rfl, fit, _, _, rfl, rfl, _, rfl, ?_⟩
      have nm : nameD (.str x) = ((decide (1 ≤ (x.length : Int)) && decide ((x.length : Int) ≤ 8)) && x.cps.toList.all signB) := rfl
      by_cases c1 : 1 ≤ (x.length : Int)
      · rw [decide_eq_true c1] at nm ⊢
        refine iteT ⟨_, _, rfl, rfl, ?_⟩
        by_cases c2 : (x.length : Int) ≤ 8
        · rw [decide_eq_true c2] at nm
          refine ⟨true, congrArg V.bl (decide_eq_true c2), iteF ?_⟩
          refine ⟨_, rfl, x, rfl, fun D hD => ?_⟩
          have sz : x.cps.size ≤ 100000 := wt
          refine lc_flat (walk_str (z := x)) (fun i => .bl (signB (x.cps.toList.getD i 0))) hD sz trivial (fun _ _ _ h => h) ?_ ?_
          · rintro i y H5 H6 acc Q' hi X6 hl hDa gH ⟨rfl, cc, hc, rfl⟩ k6
            refine ⟨rfl, ?_⟩
            have ec : x.cps.toList.getD i 0 = cc := by
              rw [List.getD_eq_getElem?_getD, Array.getElem?_toList, hc]
              rfl
            have z := k6 H6 Ext.rfl'
            rw [ec] at z
            exact ⟨_, rfl, _, _, rfl, rfl, z⟩
          · intro H6 X6 f6
            have ll : x.cps.size = x.cps.toList.length := by simp
            have eb : (List.range x.cps.size).map (fun i => V.bl (signB (x.cps.toList.getD i 0))) = (x.cps.toList.map signB).map V.bl := by
              rw [ll, List.map_map]
              refine range_map fun i y hy => ?_
              rw [List.getD_eq_getElem?_getD, hy]
              rfl
            rw [eb] at f6
            refine ⟨D, _, rfl, SqL.of f6, ?_⟩
            have z := q H6 X6
            rw [nm, Bool.true_and, Bool.true_and] at z
            rw [List.all_map]
            exact z
        · rw [decide_eq_false c2] at nm
          refine ⟨false, congrArg V.bl (decide_eq_false c2), iteT ?_⟩
          have z := q H Ext.rfl'
          rw [nm] at z
          exact z
      · rw [decide_eq_false c1] at nm ⊢
        refine iteF ⟨_, rfl, iteT ?_⟩
        have z := q H Ext.rfl'
        rw [nm] at z
        exact z
theorem rise_range {xs : List Str} : ((List.range ((xs.length : Int) - 1).toNat).map fun i => ltS (xs.getD i "") (xs.getD (i + 1) "")).all id = risingS xs := by
  have e : ((xs.length : Int) - 1).toNat = min xs.length xs.tail.length := by rw [List.length_tail]; omega
  have e2 : (fun i => ltS (xs.getD i "") (xs.getD (i + 1) "")) = fun i => ltS (xs.getD i "") (xs.tail.getD i "") := by
    funext i
    congr 1
    cases xs <;> simp
  rw [e, e2]
  exact zip_range (f := ltS) rfl
theorem ok__law_are_rising (T : Tx P K mg) : FnOk P w K mg base CX0 1 T.F__law_are_rising T.fd__law_are_rising ["_law_names"] (spRise K) := by
  refine T._law_are_rising_ok.ok sc__law_are_rising (fun vs H Q E h => ?_) (fun cdv A outer s H vs Q E hr h => ?_)
  · obtain ⟨a, xs, rfl, _⟩ := h
    rfl
  · obtain ⟨a, xs, rfl, hx, hl, q⟩ := h
    have nd := sc__law_are_rising.nd
    refine ⟨_, (pss_one (ps_ret (pe_callB (cr_all rfl) (by rfl) T.b_all (by decide +kernel) (pa_cons (pe_lc (own := [("_law_at", 1)]) (g := gName 1) (by rfl) nd (pi_range1 (by rfl) T.b_range (pa_cons (pe_op op_sub (pe_callB call_len_seq (by rfl) T.b_len (by decide +kernel) (pa_cons (pv 0) pa_nil)) pe_int) pa_nil)) (blkOk_by (own := [("_law_at", 1)]) (N := N__law_are_rising) (sc := defScope s__law_are_rising) (by decide +kernel)) (fun _ _ _ _ _ => (pg_name (i := 1) nd rfl (Or.inl rfl))) (fun _ _ _ _ _ => pts_nil) (fun _ _ _ _ _ => (pe_cmpR op_lt_str (pe_ix (ix_seqK (K := K) rfl) (pv 0) (pv 1) (fun _ _ => rfl)) (pe_ix (ix_seqK (K := K) rfl) (pv 0) (pe_op op_add (pv 1) pe_int) (fun _ _ => rfl)) (nomark _)))) pa_nil)))), ?_⟩
    have el : ((xs.map V.str).length : Int) - 1 = (xs.length : Int) - 1 := by rw [List.length_map]
    refine ⟨_, rfl, a, _, rfl, hx, _, _, rfl, rfl, _, rfl, by rw [el]; omega, by rw [el]; omega, fun D hD => ?_⟩
    rw [el]
    refine lc_flat (walk_range (lo := 0) (n := ((xs.length : Int) - 1).toNat)) (fun i => .bl (ltS (xs.getD i "") (xs.getD (i + 1) ""))) hD (by omega) trivial (fun _ _ _ h => h) ?_ ?_
    · rintro i y H5 H6 acc Q' hi X6 hl hDa gH ⟨rfl, rfl⟩ k6
      have z := k6 H6 Ext.rfl'
      have h1 : i < xs.length := by omega
      have h2 : i + 1 < xs.length := by omega
      have hx6 : SqL K H6 a (xs.map V.str) ∨ SqT K H6 a (xs.map V.str) := by
        rcases hx with h | h
        · exact .inl (h.ext X6)
        · exact .inr (h.ext X6)
      rw [List.getD_eq_getElem?_getD, List.getD_eq_getElem?_getD, List.getElem?_eq_getElem h1, List.getElem?_eq_getElem h2] at z
      refine ⟨rfl, _, rfl, _, rfl, a, _, _, V.str xs[i], rfl, rfl, hx6, ?_, _, rfl, _, rfl, _, _, rfl, rfl, a, _, _, V.str xs[i + 1], rfl, rfl, hx6, ?_, _, _, rfl, rfl, z⟩
      · rw [Int.zero_add]
        exact atI_nat (by rw [List.getElem?_map, List.getElem?_eq_getElem h1]; rfl)
      · rw [Int.zero_add]
        exact atI_nat (j := i + 1) (by rw [List.getElem?_map, List.getElem?_eq_getElem h2]; rfl)
    · intro H6 X6 f6
      refine ⟨D, (List.range _).map fun i => ltS (xs.getD i "") (xs.getD (i + 1) ""), rfl, SqL.of (by rw [List.map_map]; exact f6), ?_⟩
      rw [rise_range]
      exact q _ X6
end

end K25

namespace K25
open PySem PySem.Spec PyProof.Rows L2 L2.TP RZ
/-! a drawn world is a right one -/
theorem memS_eq {x : Str} {ns : List Str} : memS x ns = decide (x ∈ ns) := by
  unfold memS inV
  rw [List.any_map]
  induction ns with
  | nil => rfl
  | cons n ns ih =>
    rw [List.any_cons, ih]
    show ((n == x) || decide (x ∈ ns)) = decide (x ∈ n :: ns)
    by_cases c : x = n
    · subst c
      simp
    · have c2 : (n == x) = false := by simpa using fun z : n = x => c z.symm
      rw [c2, Bool.false_or]
      simp [c]
theorem rising_of {xs : List Str} (h : xs.Pairwise fun x y => ltS x y = true) : risingS xs = true := by
  unfold L2.TP.risingS
  rw [List.all_eq_true]
  induction xs with
  | nil => intro p hp; cases hp
  | cons x xs ih =>
    rw [List.pairwise_cons] at h
    cases xs with
    | nil => intro p hp; cases hp
    | cons y ys =>
      intro p hp
      rw [List.tail_cons, List.zip_cons_cons] at hp
      rcases List.mem_cons.mp hp with e | e
      · rw [e]
        exact h.1 y List.mem_cons_self
      · exact ih h.2 p e
/-- what is asked of the names alone -/
def okS (x : Str) : Bool := nameS x && (PyData.strOk x && x.cps.toList.all fun c => decide (c < 16 ^ 8))
def namesB (a b : List Str) : Bool := (a ++ b).all okS && decide ((a ++ b).Pairwise fun x y => ltS x y = true) && b.all (fun x => !memS x a)
theorem names_all : ∀ nm ∈ lists3, ∀ i : Nat, i ≤ 2 → ∀ j : Nat, j ≤ 2 → namesB (nm.take i) ((nm.drop 2).take j) = true := by
  intro nm hm i hi j hj
  have hi' : i = 0 ∨ i = 1 ∨ i = 2 := by omega
  have hj' : j = 0 ∨ j = 1 ∨ j = 2 := by omega
  rcases List.mem_cons.mp hm with rfl | hm
  · rcases hi' with rfl | rfl | rfl <;> rcases hj' with rfl | rfl | rfl <;> decide +kernel
  rcases List.mem_cons.mp hm with rfl | hm
  · rcases hi' with rfl | rfl | rfl <;> rcases hj' with rfl | rfl | rfl <;> decide +kernel
  rcases List.mem_cons.mp hm with rfl | hm
  · rcases hi' with rfl | rfl | rfl <;> rcases hj' with rfl | rfl | rfl <;> decide +kernel
  cases hm
theorem weightAll_le {k : Nat} : ∀ {ds : List PyData}, (∀ d ∈ ds, d.weight ≤ k) → PyData.weightAll ds ≤ ds.length * (k + 1)
  | [], _ => by simp [PyData.weightAll]
  | d :: ds, h => by
    have h1 := h d List.mem_cons_self
    have h2 := weightAll_le (ds := ds) fun e he => h e (List.mem_cons_of_mem _ he)
    show d.weight + 1 + PyData.weightAll ds ≤ _
    rw [List.length_cons, Nat.succ_mul]
    omega
theorem int_w {z : Int} (h0 : 0 ≤ z) (h1 : z < 4) : (PyData.int z).weight ≤ 10 := by
  have : z = 0 ∨ z = 1 ∨ z = 2 ∨ z = 3 := by omega
  rcases this with rfl | rfl | rfl | rfl <;> decide +kernel
theorem nameS_8 {x : Str} (h : nameS x = true) : (PyData.str x).weight ≤ 10 := by
  have h2 := of_decide_eq_true (He.ba (He.ba h).1).2
  have h2 : (x.cps.size : Int) ≤ 8 := h2
  show x.cps.size ≤ 10
  omega
structure NmOk (x : Str) : Prop where
  nm : nameS x = true
  ok : PyData.strOk x = true
  sd : Sd 0 10 (.str x)
theorem okS_of {x : Str} (h : okS x = true) : NmOk x := by
  obtain ⟨h1, h2⟩ := He.ba h
  obtain ⟨h2, h3⟩ := He.ba h2
  exact ⟨h1, h2, ⟨Nat.zero_le _, nameS_8 h1, h3, rfl⟩⟩
structure LoreIs (L : Lore) : Prop where
  mm : 1 ≤ L.m ∧ L.m ≤ 2
  sc : ∀ c ∈ L.cs, NmOk c.1 ∧ 0 ≤ c.2 ∧ c.2 < 4
  sr : ∀ r ∈ L.rs, NmOk r.1 ∧ r.2.length ≤ 2 ∧ ∀ z ∈ r.2, 0 ≤ z ∧ z < 4
  sl : ∀ x ∈ L.ls, NmOk x
  l4 : L.ls.length ≤ 4
  w5 : worldD (.int L.n) (.int L.m) (cellsD L.cs) (rowsD L.rs) (.tuple (L.ls.map .str)) = 5
  c : (cellsD L.cs).weight ≤ 100000
  r : (rowsD L.rs).weight ≤ 100000
  l : (PyData.tuple (L.ls.map .str)).weight ≤ 100000
  low : Low L
theorem lore_is {a b : Int} {L : Lore} (ha : a ≤ 2) (hb : b ≤ 2) (h : LoreOk a b L) : LoreIs L := by
  obtain ⟨nm, i, j, hm, hi, hj, ec, er, sub⟩ := h.nm
  have nb := names_all nm hm i (by omega) j (by omega)
  rw [← ec, ← er] at nb sub
  obtain ⟨nb1, nb2⟩ := He.ba nb
  obtain ⟨nb1, nb3⟩ := He.ba nb1
  have pw := of_decide_eq_true nb3
  have nall0 := List.all_eq_true.mp nb1
  have nall : ∀ x ∈ L.cs.map (·.1) ++ L.rs.map (·.1), nameS x = true := fun x hx => (okS_of (nall0 x hx)).nm
  have n2 := h.n2
  have n4 := h.n4
  have m1 := h.m1
  have m2 := h.m2
  have cl : L.cs.length ≤ 2 := by
    have := congrArg List.length ec
    rw [List.length_map, List.length_take] at this
    omega
  have rl : L.rs.length ≤ 2 := by
    have := congrArg List.length er
    rw [List.length_map, List.length_take] at this
    omega
  have ll : L.ls.length ≤ 4 := by
    have := sub.length_le
    rw [List.length_append, List.length_map, List.length_map] at this
    omega
  have nc : ∀ c ∈ L.cs, nameS c.1 = true := fun c hc => nall c.1 (List.mem_append_left _ (List.mem_map_of_mem hc))
  have nr : ∀ r ∈ L.rs, nameS r.1 = true := fun r hr => nall r.1 (List.mem_append_right _ (List.mem_map_of_mem hr))
  have nl : ∀ x ∈ L.ls, nameS x = true := fun x hx => nall x (sub.subset hx)
  have c1 : fromD 2 4 (.int L.n) = true := by show (decide _ && decide _) = true; rw [decide_eq_true n2, decide_eq_true n4]; rfl
  have c2 : fromD 1 2 (.int L.m) = true := by show (decide _ && decide _) = true; rw [decide_eq_true m1, decide_eq_true m2]; rfl
  have w3 : wNames (cellsD L.cs) = L.cs.map (·.1) := by show List.map _ (List.map _ _) = _; rw [List.map_map]; rfl
  have w4 : wNames (rowsD L.rs) = L.rs.map (·.1) := by show List.map _ (List.map _ _) = _; rw [List.map_map]; rfl
  have w5 : tStrs (.tuple (L.ls.map .str)) = L.ls := by show List.map _ (List.map _ _) = _; rw [List.map_map]; exact List.map_id' _
  rw [List.pairwise_append] at pw
  have c3 : namedD 2 (fromD 0 (L.n - 1)) (cellsD L.cs) = true := by
    show (decide _ && (List.all _ _ && risingS _)) = true
    rw [show (L.cs.map fun c => PyData.tuple [.str c.1, .int c.2]).map (fun d => strD (fstD d)) = L.cs.map (·.1) from w3, rising_of pw.1, List.length_map, decide_eq_true (by omega), Bool.true_and, Bool.and_true, List.all_map, List.all_eq_true]
    intro c hc
    show (nameS c.1 && (decide _ && decide _)) = true
    obtain ⟨z0, z1⟩ := h.cw c hc
    rw [nc c hc, decide_eq_true z0, decide_eq_true (by omega)]
    rfl
  have c4 : namedD 2 (areD L.n L.m) (rowsD L.rs) = true := by
    show (decide _ && (List.all _ _ && risingS _)) = true
    rw [show (L.rs.map fun r => PyData.tuple [.str r.1, .tuple (r.2.map .int)]).map (fun d => strD (fstD d)) = L.rs.map (·.1) from w4, rising_of pw.2.1, List.length_map, decide_eq_true (by omega), Bool.true_and, Bool.and_true, List.all_map, List.all_eq_true]
    intro r hr
    obtain ⟨z0, z1⟩ := h.rw_ r hr
    show (nameS r.1 && (decide _ && List.all _ _)) = true
    rw [nr r hr, List.length_map, decide_eq_true z0, Bool.true_and, Bool.true_and, List.all_map, List.all_eq_true]
    intro z hz
    obtain ⟨y0, y1⟩ := z1 z hz
    show (decide _ && decide _) = true
    rw [decide_eq_true y0, decide_eq_true (by omega)]
    rfl
  have c5 : (wNames (rowsD L.rs)).any (fun x => memS x (wNames (cellsD L.cs))) = false := by
    rw [w3, w4, List.any_eq_false]
    intro x hx
    have := List.all_eq_true.mp nb2 x hx
    rw [Bool.not_eq_true]
    simpa using this
  have c6 : namesD ((wNames (cellsD L.cs) ++ wNames (rowsD L.rs)).length : Nat) (.tuple (L.ls.map .str)) = true := by
    rw [w3, w4]
    show (decide _ && (List.all _ _ && risingS _)) = true
    have e : (L.ls.map PyData.str).map strD = L.ls := w5
    rw [e, rising_of ((List.pairwise_append.mpr pw).sublist sub), List.length_map, decide_eq_true (by have := sub.length_le; omega), Bool.true_and, Bool.and_true, List.all_map, List.all_eq_true]
    exact fun x hx => nl x hx
  have c7 : (tStrs (.tuple (L.ls.map .str))).all (fun x => memS x (wNames (cellsD L.cs) ++ wNames (rowsD L.rs))) = true := by
    rw [w5, w3, w4, List.all_eq_true]
    intro x hx
    rw [memS_eq]
    exact decide_eq_true (sub.subset hx)
  refine ⟨⟨m1, m2⟩, fun c hc => ⟨okS_of (nall0 c.1 (List.mem_append_left _ (List.mem_map_of_mem hc))), (h.cw c hc).1, Int.lt_of_lt_of_le (h.cw c hc).2 n4⟩, fun r hr => ⟨okS_of (nall0 r.1 (List.mem_append_right _ (List.mem_map_of_mem hr))), ?_, fun z hz => ?_⟩, fun x hx => okS_of (nall0 x (sub.subset hx)), ll, ?_, ?_, ?_, ?_, ⟨by omega, n4, cl, rl, by omega⟩⟩
  · have := (h.rw_ r hr).1
    omega
  · obtain ⟨y0, y1⟩ := (h.rw_ r hr).2 z hz
    exact ⟨y0, by omega⟩
  · unfold worldD
    rw [if_pos c1, if_pos c2, if_pos (show namedD 2 (fromD 0 (toI (.int L.n) - 1)) _ = true from c3), if_pos (show namedD 2 (areD (toI (.int L.n)) (toI (.int L.m))) _ = true from c4), if_neg (by rw [c5]; decide), if_pos c6, if_pos c7]
  · refine Nat.le_trans (weightAll_le (k := 100) fun d hd => ?_) (by rw [List.length_map]; omega)
    obtain ⟨c, hc, rfl⟩ := List.mem_map.mp hd
    have h1 := nameS_8 (nc c hc)
    obtain ⟨z0, z1⟩ := h.cw c hc
    have h2 := int_w z0 (by omega)
    show (PyData.str c.1).weight + 1 + ((PyData.int c.2).weight + 1 + 0) ≤ 100
    omega
  · refine Nat.le_trans (weightAll_le (k := 100) fun d hd => ?_) (by rw [List.length_map]; omega)
    obtain ⟨r, hr, rfl⟩ := List.mem_map.mp hd
    have h1 := nameS_8 (nr r hr)
    obtain ⟨z0, z1⟩ := h.rw_ r hr
    have h2 : PyData.weightAll (r.2.map .int) ≤ (r.2.map PyData.int).length * (10 + 1) := weightAll_le fun e he => by
      obtain ⟨z, hz, rfl⟩ := List.mem_map.mp he
      obtain ⟨y0, y1⟩ := z1 z hz
      exact int_w y0 (by omega)
    rw [List.length_map] at h2
    show (PyData.str r.1).weight + 1 + (PyData.weightAll (r.2.map .int) + 1 + 0) ≤ 100
    omega
  · refine Nat.le_trans (weightAll_le (k := 100) fun d hd => ?_) (by rw [List.length_map]; omega)
    obtain ⟨x, hx, rfl⟩ := List.mem_map.mp hd
    have h1 := nameS_8 (nl x hx)
    omega

theorem first_sd {L : Lore} (li : LoreIs L) : Sd 3 100 (firstD L) := by
  have c2 := li.low.c2
  have r2 := li.low.r2
  have a1 : SdA 0 ((L.cs.map fun c => PyData.int c.2).length * (4 + 1)) (L.cs.map fun c => PyData.int c.2) := SdA.all fun d hd => by
    obtain ⟨c, hc, rfl⟩ := List.mem_map.mp hd
    have := (li.sc c hc).2
    exact sd_int this.1 (by omega)
  have a2 : SdA 1 ((L.rs.map fun r => PyData.tuple (r.2.map .int)).length * (10 + 1)) (L.rs.map fun r => PyData.tuple (r.2.map .int)) := SdA.all fun d hd => by
    obtain ⟨r, hr, rfl⟩ := List.mem_map.mp hd
    obtain ⟨_, h1, h2⟩ := li.sr r hr
    refine (Sd.tup (SdA.all (k := 0) (w := 4) fun t ht => ?_)).mono (Nat.le_refl _) (by rw [List.length_map]; omega)
    obtain ⟨z, hz, rfl⟩ := List.mem_map.mp ht
    have := h2 z hz
    exact sd_int this.1 (by omega)
  rw [List.length_map] at a1 a2
  exact (Sd.tup (SdA.cons ((Sd.tup a1).mono (k' := 2) (w' := 10) (by decide) (by omega)) (SdA.cons ((Sd.tup a2).mono (k' := 2) (w' := 22) (by decide) (by omega)) (SdA.nil (w := 0))))).mono (Nat.le_refl _) (by decide)

end K25

namespace K25
open PySem PySem.Spec PyProof.Rows L2 L2.TP RZ
/-! plain data may be compared -/
mutual
theorem lay_pl : ∀ (d : PyData), plB d = true → d.canLay0 = true
  | .int i, _ => rfl
  | .str x, h => by
    show PyData.strOk x = true
    unfold PyData.strOk
    rw [Array.all_eq_true']
    intro c hc
    have h2 := List.all_eq_true.mp (show x.cps.toList.all letB = true from h) c (Array.mem_toList_iff.mpr hc)
    have h3 : c ≤ 122 := of_decide_eq_true (He.ba h2).2
    exact decide_eq_true (by omega)
  | .tuple ds, h => layAll_pl ds h
theorem layAll_pl : ∀ (ds : List PyData), plAll ds = true → PyData.canLayAll0 ds = true
  | [], _ => rfl
  | d :: ds, h => by
    show (d.canLay0 && PyData.canLayAll0 ds) = true
    rw [lay_pl d (He.ba h).1, layAll_pl ds (He.ba h).2]
    rfl
end
theorem shaped_pl {d : PyData} (h : plB d = true) (hd : d.depth ≤ 64) : SeqAt.shaped d = true := by
  unfold SeqAt.shaped
  rw [lay_pl d h, Bool.true_and]
  exact decide_eq_true hd
theorem cells_pl {cs : List (Str × Int)} (h : ∀ c ∈ cs, NmOk c.1 ∧ 0 ≤ c.2 ∧ c.2 < 4) : plB (cellsD cs) = true := plAll_of fun d hd => by
  obtain ⟨c, hc, rfl⟩ := List.mem_map.mp hd
  obtain ⟨h1, h2, h3⟩ := h c hc
  show ((c.1.cps.toList.all letB) && ((decide (0 ≤ c.2) && decide (c.2 < 10)) && true)) = true
  rw [nameS_let h1.nm, decide_eq_true h2, decide_eq_true (by omega)]
  rfl
theorem ints_pl {is : List Int} (h : ∀ z ∈ is, 0 ≤ z ∧ z < 4) : plAll (is.map .int) = true := plAll_of fun d hd => by
  obtain ⟨z, hz, rfl⟩ := List.mem_map.mp hd
  obtain ⟨h1, h2⟩ := h z hz
  show (decide (0 ≤ z) && decide (z < 10)) = true
  rw [decide_eq_true h1, decide_eq_true (by omega)]
  rfl
theorem rows_pl {rs : List (Str × List Int)} (h : ∀ r ∈ rs, NmOk r.1 ∧ r.2.length ≤ 2 ∧ ∀ z ∈ r.2, 0 ≤ z ∧ z < 4) : plB (rowsD rs) = true := plAll_of fun d hd => by
  obtain ⟨r, hr, rfl⟩ := List.mem_map.mp hd
  obtain ⟨h1, _, h3⟩ := h r hr
  show ((r.1.cps.toList.all letB) && (plAll (r.2.map .int) && true)) = true
  rw [nameS_let h1.nm, ints_pl h3]
  rfl
theorem names_pl {ls : List Str} (h : ∀ x ∈ ls, NmOk x) : plB (.tuple (ls.map .str)) = true := plAll_of fun d hd => by
  obtain ⟨x, hx, rfl⟩ := List.mem_map.mp hd
  exact nameS_let (h x hx).nm
theorem lore_pl {L : Lore} (li : LoreIs L) : plAll [.int L.n, .int L.m, cellsD L.cs, rowsD L.rs, .tuple (L.ls.map .str)] = true := by
  have n0 := li.low.n0
  have n4 := li.low.n4
  have mm := li.mm
  show ((decide (0 ≤ L.n) && decide (L.n < 10)) && ((decide (0 ≤ L.m) && decide (L.m < 10)) && (plB (cellsD L.cs) && (plB (rowsD L.rs) && (plB (.tuple (L.ls.map .str)) && true))))) = true
  rw [cells_pl li.sc, rows_pl li.sr, names_pl li.sl, decide_eq_true n0, decide_eq_true (by omega), decide_eq_true (by omega), decide_eq_true (by omega)]
  rfl
theorem depthAll_le {k : Nat} : ∀ {ds : List PyData}, (∀ d ∈ ds, d.depth ≤ k) → PyData.depthAll ds ≤ k
  | [], _ => Nat.zero_le _
  | d :: ds, h => by
    show max d.depth (PyData.depthAll ds) ≤ k
    have h1 := h d List.mem_cons_self
    have h2 := depthAll_le (ds := ds) fun e he => h e (List.mem_cons_of_mem _ he)
    omega
theorem lore_depth {L : Lore} : (loreD L).depth ≤ 4 := by
  have c : (cellsD L.cs).depth ≤ 3 := by
    show PyData.depthAll _ + 1 ≤ 3
    have : PyData.depthAll (L.cs.map fun c => PyData.tuple [.str c.1, .int c.2]) ≤ 2 := depthAll_le fun d hd => by
      obtain ⟨c, hc, rfl⟩ := List.mem_map.mp hd
      show max 0 (max 0 0) + 1 ≤ 2
      omega
    omega
  have r : (rowsD L.rs).depth ≤ 3 := by
    show PyData.depthAll _ + 1 ≤ 3
    have : PyData.depthAll (L.rs.map fun r => PyData.tuple [.str r.1, .tuple (r.2.map .int)]) ≤ 2 := depthAll_le fun d hd => by
      obtain ⟨r, hr, rfl⟩ := List.mem_map.mp hd
      have : PyData.depthAll (r.2.map .int) ≤ 0 := depthAll_le fun d hd => by
        obtain ⟨z, hz, rfl⟩ := List.mem_map.mp hd
        exact Nat.le_refl _
      show max 0 (max (PyData.depthAll (r.2.map .int) + 1) 0) + 1 ≤ 2
      omega
    omega
  have l : (PyData.tuple (L.ls.map .str)).depth ≤ 1 := by
    show PyData.depthAll _ + 1 ≤ 1
    have : PyData.depthAll (L.ls.map .str) ≤ 0 := depthAll_le fun d hd => by
      obtain ⟨z, hz, rfl⟩ := List.mem_map.mp hd
      exact Nat.le_refl _
    omega
  show max 0 (max 0 (max (cellsD L.cs).depth (max (rowsD L.rs).depth (max (PyData.tuple (L.ls.map .str)).depth 0)))) + 1 ≤ 4
  omega
mutual
theorem pl_noL : ∀ (d : PyData), plB d = true → noL d = true
  | .int i, _ => rfl
  | .str x, _ => rfl
  | .tuple ds, h => plAll_noL ds h
theorem plAll_noL : ∀ (ds : List PyData), plAll ds = true → noLs ds = true
  | [], _ => rfl
  | d :: ds, h => by
    show (noL d && noLs ds) = true
    rw [pl_noL d (He.ba h).1, plAll_noL ds (He.ba h).2]
    rfl
end
section
variable {P : Program} {w : World} {K : PySem.W.Frag} {mg : Str → Option Value} {base : Heap}
def spFacts (C : Addr) : Sp := fun vs H Q _ => ∃ (x dx : Addr) (v1 v2 v3 v4 v5 : V), vs = [.ref x] ∧ H x = some (.ins C dx (wf v1 v2 v3 v4 v5)) ∧ ∀ t, H t = none → Q (.ref t) (upd H t (.tup [v1, v2, v3, v4, v5]))
theorem ok_World_facts (T : Tx P K mg) : FnOk P w K mg base CX0 1 T.F_World_facts T.fd_World_facts ["self"] (spFacts T.C_World) := by
  refine T.World_facts_ok.ok sc_World_facts (fun vs H Q E h => ?_) (fun cdv A outer s H vs Q E hr h => ?_)
  · obtain ⟨x, dx, v1, v2, v3, v4, v5, rfl, _⟩ := h
    rfl
  · obtain ⟨x, dx, v1, v2, v3, v4, v5, rfl, hx, q⟩ := h
    have nd := sc_World_facts.nd
    refine ⟨_, (pss_one (ps_ret (pe_tup (pa_cons (pe_fld (pv 0) rfl) (pa_cons (pe_fld (pv 0) rfl) (pa_cons (pe_fld (pv 0) rfl) (pa_cons (pe_fld (pv 0) rfl) (pa_cons (pe_fld (pv 0) rfl) pa_nil)))))))), ?_⟩
    exact ⟨_, rfl, x, T.C_World, dx, _, _, rfl, hx, T.World_cl, T.x_n_size, wf_size _ _ _ _ _, _, rfl, x, T.C_World, dx, _, _, rfl, hx, T.World_cl, T.x_n_most, wf_most _ _ _ _ _, _, rfl, x, T.C_World, dx, _, _, rfl, hx, T.World_cl, T.x_n_cells, wf_cells _ _ _ _ _,
      _, rfl, x, T.C_World, dx, _, _, rfl, hx, T.World_cl, T.x_n_rows, wf_rows _ _ _ _ _, _, rfl, x, T.C_World, dx, _, _, rfl, hx, T.World_cl, T.x_n_loose, wf_loose _ _ _ _ _, by show 5 ≤ sizeLine; decide, q⟩
theorem ty_world (T : Tx P K mg) {H : Hp} {x dx : Addr} {fs : List (Str × V)} (h : H x = some (.ins T.C_World dx fs)) : TyX K H (.ref x) (.ref T.C_World) := .base (.ins h T.World_cl T.x_Worldcc T.x_cg T.x_ct T.x_Worldcm)
theorem kit_world (T : Tx P K mg) : PySem.W.kitOne K (.ref T.C_World) (.ref T.C_World) = some true := kit_ref T.World_ty T.x_wss fun _ => rfl
def spEqW (K : PySem.W.Frag) (C : Addr) : Sp := fun vs H Q _ => ∃ (x : Addr) (L : Lore) (y : V), vs = [.ref x, y] ∧ WAt C H x L ∧ LoreIs L ∧ ((∃ (b : Addr) (L' : Lore), y = .ref b ∧ WAt C H b L' ∧ LoreIs L' ∧ ∀ H', Ext H H' → Q (.bl (PyData.eqv (loreD L) (loreD L'))) H') ∨
  (∃ t, TyX K H y t ∧ PySem.W.kitOne K t (.ref C) = some false ∧ Q (.bl false) H))
theorem ok_World___eq__ (T : Tx P K mg) : FnOk P w K mg base CX0 2 T.F_World___eq__ T.fd_World___eq__ ["self", "other"] (spEqW K T.C_World) := by
  refine T.World___eq___ok.ok sc_World___eq__ (fun vs H Q E h => ?_) (fun cdv A outer s H vs Q E hr h => ?_)
  · obtain ⟨x, L, y, rfl, _⟩ := h
    rfl
  · obtain ⟨x, L, y, rfl, hW, li, h⟩ := h
    have nd := sc_World___eq__.nd
    refine ⟨_, (pss_one (ps_ret (pe_and (pe_callB call_isi (by rfl) T.b_isinstance (by decide +kernel) (pa_cons (pv 1) (pa_cons (pe_glob (v := .ref T.C_World) rfl T.World_mg rfl) pa_nil))) (pe_one (pe_cmpR (op_eqD hr.units) (pe_meth0 (pv 0) T.World_cl ⟨T.World_facts_sl.at_, T.World_facts_sl.fn, T.World_facts_ok.kp⟩ (ok_World_facts T) (hr.mono (by decide)) T.b_World_facts .nil pass0) (pe_meth0 (pv 1) T.World_cl ⟨T.World_facts_sl.at_, T.World_facts_sl.fn, T.World_facts_ok.kp⟩ (ok_World_facts T) (hr.mono (by decide)) T.b_World_facts .nil pass0) (nomark _)))))), ?_⟩
    rcases h with ⟨b, L', rfl, hW', li', q⟩ | ⟨t, ty, kt, q⟩
    · obtain ⟨dx, v3, v4, v5, hx, d3, d4, d5⟩ := hW
      obtain ⟨dy, u3, u4, u5, hb, e3, e4, e5⟩ := hW'
      refine ⟨_, rfl, _, _, _, _, _, rfl, .own _, ty_world T hb, kit_world T, _, rfl, iteT ?_⟩
      refine ⟨_, rfl, x, dx, _, rfl, hx, rfl, x, dx, _, _, _, _, _, rfl, hx, fun t1 ht1 => ?_⟩
      generalize hJ : upd _ t1 _ = H1
      obtain ⟨X1, f1⟩ := new_of hJ ht1
      clear hJ ht1
      refine ⟨_, rfl, b, dy, _, rfl, X1 _ _ hb, rfl, b, dy, _, _, _, _, _, rfl, X1 _ _ hb, fun t2 ht2 => ?_⟩
      generalize hJ : upd _ t2 _ = H2
      obtain ⟨X2, f2⟩ := new_of hJ ht2
      clear hJ ht2
      have X12 := X1.trans X2
      have p1 := lore_pl li
      have p2 := lore_pl li'
      have q1 : Dq H2 (.ref t1) (loreD L) := .tup (X2 _ _ f1) (.cons (.int _) (.cons (.int _) (.cons (d3.ext X12) (.cons (d4.ext X12) (.cons (d5.ext X12) .nil)))))
      have q2 : Dq H2 (.ref t2) (loreD L') := .tup f2 (.cons (.int _) (.cons (.int _) (.cons (e3.ext X12) (.cons (e4.ext X12) (.cons (e5.ext X12) .nil)))))
      exact ⟨loreD L, loreD L', q1.dp (pl_noL _ p1), q2.dp (pl_noL _ p2), shaped_pl p1 (Nat.le_trans lore_depth (by decide)), shaped_pl p2 (Nat.le_trans lore_depth (by decide)), q H2 X12⟩
    · refine ⟨_, rfl, _, _, _, _, _, rfl, .own _, ty, kt, _, rfl, iteF q⟩
end
end K25

namespace K25
open PySem PySem.Spec PyProof.Rows L2 L2.TP RZ
theorem passN {X : Cx} {P : Program} {w : World} : Passes (L2.CX P w) X E0 := fun _ _ _ _ _ _ _ c => by
  obtain ⟨a, B, H', cls, d, _, _, _, _, _, _, _, hE⟩ := c
  exact hE.elim
theorem lore_at {H : Hp} {t : Addr} {L : Lore} (h : Dq H (.ref t) (loreD L)) : ∃ (v3 v4 v5 : V), H t = some (.tup [.int L.n, .int L.m, v3, v4, v5]) ∧ Dq H v3 (cellsD L.cs) ∧ Dq H v4 (rowsD L.rs) ∧ Dq H v5 (.tuple (L.ls.map .str)) := by
  cases h with
  | tup h al =>
  cases al with
  | cons d1 al =>
  cases al with
  | cons d2 al =>
  cases al with
  | cons d3 al =>
  cases al with
  | cons d4 al =>
  cases al with
  | cons d5 al =>
  cases al
  cases d1
  cases d2
  exact ⟨_, _, _, h, d3, d4, d5⟩
section
variable {P : Program} {w : World} {K : PySem.W.Frag} {mg : Str → Option Value} {base : Heap}
def spWorld (TS : List (Addr × Str)) (C : Addr) : Sp := fun vs H Q _ => ∃ (t : Addr) (L : Lore), vs = [.ref t] ∧ Dq H (.ref t) (loreD L) ∧ LoreIs L ∧ LamX.Tabs TS H ∧ ∀ x H', LamX.ExtN H H' → LamX.Tabs TS H' → WAt C H' x L → Q (.ref x) H'
theorem ok__law_world (T : Tx P K mg) {TS : List (Addr × Str)} {tP : Addr} (TB : LamX.TabB base mg (tbOf K T.F_World___init__).1 tP) (hmem : (tP, qw) ∈ TS) (huni : ∀ p ∈ TS, p.1 = tP → p.2 = qw) :
    FnOk P w K mg base CX0 12 T.F__law_world T.fd__law_world ["_law_lore_here"] (spWorld TS T.C_World) := by
  refine T._law_world_ok.ok sc__law_world (fun vs H Q E h => ?_) (fun cdv A outer s H vs Q E hr h => ?_)
  · obtain ⟨t, L, rfl, _⟩ := h
    rfl
  · obtain ⟨t, L, rfl, hl, li, hT, q⟩ := h
    have nd := sc__law_world.nd
    refine ⟨_, (pss_one (ps_ret (pe_make T.World_mk (ok_World__init__ T TB hmem huni) (hr.mono (by decide)) (by rfl) T.World_mg T.b_World___init__ .nil passN (pa_cons (pe_ix ix_tup (pv 0) pe_int (fun _ _ => rfl)) (pa_cons (pe_ix ix_tup (pv 0) pe_int (fun _ _ => rfl)) (pa_cons (pe_ix ix_tup (pv 0) pe_int (fun _ _ => rfl)) (pa_cons (pe_ix ix_tup (pv 0) pe_int (fun _ _ => rfl)) (pa_cons (pe_ix ix_tup (pv 0) pe_int (fun _ _ => rfl)) pa_nil)))))))), ?_⟩
    obtain ⟨v3, v4, v5, ht, d3, d4, d5⟩ := lore_at hl
    refine ⟨_, rfl, t, _, 0, _, rfl, rfl, SqT.of ht, rfl, _, rfl, t, _, 1, _, rfl, rfl, SqT.of ht, rfl, _, rfl, t, _, 2, _, rfl, rfl, SqT.of ht, rfl, _, rfl, t, _, 3, _, rfl, rfl, SqT.of ht, rfl, _, rfl, t, _, 4, _, rfl, rfl, SqT.of ht, rfl, ?_⟩
    intro x dx nx ndx ne
    have X1 : Ext H (upd (upd H dx (.own x)) x (.ins T.C_World dx [])) := fun b o hb => by
      have n1 : b ≠ x := fun z => by rw [z, nx] at hb; cases hb
      have n2 : b ≠ dx := fun z => by rw [z, ndx] at hb; cases hb
      rw [upd_ne n1, upd_ne n2]
      exact hb
    refine ⟨x, dx, _, _, v3, v4, v5, _, _, _, _, _, rfl, upd_same, .int L.n, .int L.m, d3.ext X1, d4.ext X1, d5.ext X1, li.c, li.r, li.l, hT.ext X1, fun i v e lt => ?_, fun _ H' X2 T2 f2 => ?_⟩
    · rw [li.w5] at e
      omega
    · have N2 : LamX.ExtN H H' := fun b o hb nt => X2 b o (fun z => by rw [z, nx] at hb; cases hb) (X1 _ _ hb) nt
      exact ⟨rfl, q x H' N2 T2 ⟨dx, v3, v4, v5, f2, d3.extN N2, d4.extN N2, d5.extN N2⟩⟩
end

end K25

namespace K25
open PySem PySem.Spec PyProof.Rows L2 L2.TP RZ
section
variable {P : Program} {w : World} {K : PySem.W.Frag} {mg : Str → Option Value} {base : Heap}
/-- one sign of a text -/
def spOfS : Sp := fun vs H Q _ => ∃ (G : Hp) (p : Addr) (z : Str) (n : Nat), vs = [.ref p, .str z] ∧ WP G p n H ∧ n ≤ 100000 ∧ 0 < z.length ∧ z.length ≤ 1000 ∧
  ∀ (c : Nat) (H' : Hp), c ∈ z.cps.toList → WP G p (n + 1) H' → Q (.str ⟨#[c]⟩) H'
theorem ok__law_ofS (T : Tx P K mg) : FnOk P w K mg base CX0 2 T.F__law_of T.fd__law_of ["_law_pot_here", "_law_some_here"] spOfS := by
  refine T._law_of_ok.ok sc__law_of (fun vs H Q E h => ?_) (fun cdv A outer s H vs Q E hr h => ?_)
  · obtain ⟨G, p, z, n, rfl, _⟩ := h
    rfl
  · obtain ⟨G, p, z, n, rfl, wp, hn, l0, l1, k⟩ := h
    have nd := sc__law_of.nd
    have fit : z.length ≤ sizeLine := Nat.le_trans l1 (by decide)
    refine ⟨_, (pss_one (ps_ret (pe_ix ix_str (pv 1) (pe_call (ok__law_take T) (hr.mono (by decide)) rfl T._law_take_mg T._law_take_ok.kp T.b__law_take .nil pass0 (pa_cons (pv 0) (pa_cons (pe_callB call_len_str (by rfl) T.b_len (by decide +kernel) (pa_cons (pv 1) pa_nil)) pa_nil))) (fun _ _ => rfl)))), ?_⟩
    refine ⟨_, rfl, _, rfl, _, rfl, z, rfl, fit, G, p, n, (z.length : Int), rfl, wp, hn, by omega, by omega, fun r H' r0 r1 wp' => ?_⟩
    obtain ⟨j, rfl⟩ : ∃ j : Nat, r = (j : Int) := ⟨r.toNat, by omega⟩
    have hj : j < z.cps.toList.length := by
      rw [Array.length_toList]
      have : z.length = z.cps.size := rfl
      omega
    exact ⟨z, _, _, rfl, rfl, fit, atI_nat (List.getElem?_eq_getElem hj), k _ H' (List.getElem_mem hj) wp'⟩
end

end K25

namespace K25
open PySem PySem.Spec PyProof.Rows L2 L2.TP RZ
/-! what may stand for works: things that are not data within (the functions) -/
def kindS (b : Bool) (c : Nat) : Bool := if b then inV (V.str ⟨#[c]⟩) [V.str "n", V.str "r"] else inV (V.str ⟨#[c]⟩) [V.str "n"]
def kindD (b : Bool) : PyData → Bool
  | .str ks => decide ((ks.length : Int) ≤ 3) && ks.cps.toList.all (kindS b)
  | _ => false
/-- one work: a tuple of three with data at its ends, a tuple of another length, or no tuple -/
inductive WI where
  | tri (d0 d2 : PyData)
  | tup (n : Nat)
  | oth (d : PyData)
def WI.At (H : Hp) (v : V) : WI → Prop
  | .tri d0 d2 => ∃ (a : Addr) (v0 t v2 : V), v = .ref a ∧ H a = some (.tup [v0, t, v2]) ∧ Dq H v0 d0 ∧ Dq H v2 d2 ∧ d0.weight ≤ 100000 ∧ d2.weight ≤ 100000
  | .tup n => ∃ (a : Addr) (vs : List V), v = .ref a ∧ H a = some (.tup vs) ∧ vs.length = n ∧ n ≠ 3 ∧ n ≤ 100
  | .oth d => tupB d = false ∧ ((∃ (a : Addr) (vs : List V), v = .ref a ∧ H a = some (.lst vs) ∧ d = .list []) ∨ (v = .non ∧ d = .none) ∨ ∃ x, v = .str x ∧ d = .str x)
theorem WI.At.extN {H H' : Hp} {v : V} {w : WI} (h : w.At H v) (e : LamX.ExtN H H') : w.At H' v := by
  cases w with
  | tri d0 d2 =>
    obtain ⟨a, v0, t, v2, rfl, ha, h0, h2, w0, w2⟩ := h
    exact ⟨a, v0, t, v2, rfl, e _ _ ha (fun _ z => by cases z), h0.extN e, h2.extN e, w0, w2⟩
  | tup n =>
    obtain ⟨a, vs, rfl, ha, r⟩ := h
    exact ⟨a, vs, rfl, e _ _ ha (fun _ z => by cases z), r⟩
  | oth d =>
    obtain ⟨nt, ⟨a, vs, rfl, ha, ed⟩ | h⟩ := h
    · exact ⟨nt, .inl ⟨a, vs, rfl, e _ _ ha (fun _ z => by cases z), ed⟩⟩
    · exact ⟨nt, .inr h⟩
theorem WI.At.ext {H H' : Hp} {v : V} {w : WI} (h : w.At H v) (e : Ext H H') : w.At H' v := h.extN (LamX.ExtN.of e)
def WI.rep : WI → PyData
  | .tri _ _ => .tuple []
  | .tup _ => .tuple []
  | .oth d => d
theorem WI.At.ty {K : PySem.W.Frag} {H : Hp} {v : V} {w : WI} (h : w.At H v) : TyX K H v (.type (tnD w.rep)) := by
  cases w with
  | tri d0 d2 =>
    obtain ⟨a, v0, t, v2, rfl, ha, _⟩ := h
    exact .base (.tup ha)
  | tup n =>
    obtain ⟨a, vs, rfl, ha, _⟩ := h
    exact .base (.tup ha)
  | oth d =>
    obtain ⟨nt, ⟨a, vs, rfl, ha, rfl⟩ | ⟨rfl, rfl⟩ | ⟨x, rfl, rfl⟩⟩ := h
    · exact .base (.lst ha)
    · exact .base .non
    · exact .base (.str _)
def WI.is3 : WI → Bool
  | .tri _ _ => true
  | _ => false
def WI.good (b : Bool) : WI → Bool
  | .tri d0 d2 => nameD d0 && kindD b d2
  | _ => false
def WI.nm : WI → Str
  | .tri (.str x) _ => x
  | _ => ""
/-- what is given for works -/
inductive WV where
  | tup (ws : List WI)
  | oth (d : PyData)
def WsAt (H : Hp) : List V → List WI → Prop
  | [], [] => True
  | v :: vs, w :: ws => w.At H v ∧ WsAt H vs ws
  | _, _ => False
theorem WsAt.len {H : Hp} : ∀ {vs : List V} {ws : List WI}, WsAt H vs ws → vs.length = ws.length
  | [], [], _ => rfl
  | _ :: _, _ :: _, h => congrArg (· + 1) (WsAt.len h.2)
theorem WsAt.extN {H H' : Hp} (e : LamX.ExtN H H') : ∀ {vs : List V} {ws : List WI}, WsAt H vs ws → WsAt H' vs ws
  | [], [], _ => trivial
  | _ :: _, _ :: _, h => ⟨h.1.extN e, WsAt.extN e h.2⟩
theorem WsAt.at_ {H : Hp} : ∀ {vs : List V} {ws : List WI} {i : Nat} {v : V}, WsAt H vs ws → vs[i]? = some v → ∃ w, ws[i]? = some w ∧ w.At H v
  | _ :: _, _ :: _, 0, _, h, e => by
    cases e
    exact ⟨_, rfl, h.1⟩
  | _ :: _, _ :: _, i + 1, _, h, e => WsAt.at_ (i := i) h.2 e
def WV.At (H : Hp) (v : V) : WV → Prop
  | .tup ws => ∃ (a : Addr) (vs : List V), v = .ref a ∧ H a = some (.tup vs) ∧ WsAt H vs ws ∧ ws.length ≤ 10
  | .oth d => tupB d = false ∧ ((∃ (a : Addr) (vs : List V), v = .ref a ∧ H a = some (.lst vs) ∧ d = .list []) ∨ (v = .non ∧ d = .none))
theorem WV.At.extN {H H' : Hp} {v : V} {w : WV} (h : w.At H v) (e : LamX.ExtN H H') : w.At H' v := by
  cases w with
  | tup ws =>
    obtain ⟨a, vs, rfl, ha, hw, l⟩ := h
    exact ⟨a, vs, rfl, e _ _ ha (fun _ z => by cases z), hw.extN e, l⟩
  | oth d =>
    obtain ⟨nt, ⟨a, vs, rfl, ha, ed⟩ | h⟩ := h
    · exact ⟨nt, .inl ⟨a, vs, rfl, e _ _ ha (fun _ z => by cases z), ed⟩⟩
    · exact ⟨nt, .inr h⟩
def WV.rep : WV → PyData
  | .tup _ => .tuple []
  | .oth d => d
theorem WV.At.ty {K : PySem.W.Frag} {H : Hp} {v : V} {w : WV} (h : w.At H v) : TyX K H v (.type (tnD w.rep)) := by
  cases w with
  | tup n =>
    obtain ⟨a, vs, rfl, ha, _⟩ := h
    exact .base (.tup ha)
  | oth d =>
    obtain ⟨nt, ⟨a, vs, rfl, ha, rfl⟩ | ⟨rfl, rfl⟩⟩ := h
    · exact .base (.lst ha)
    · exact .base .non
def worksB (b : Bool) : WV → Bool
  | .tup ws => (decide (1 ≤ (ws.length : Int)) && decide ((ws.length : Int) ≤ 3)) && (ws.all (WI.good b) && risingS (ws.map WI.nm))
  | .oth _ => false
section
variable {P : Program} {w : World} {K : PySem.W.Frag} {mg : Str → Option Value} {base : Heap}
def spKindsG (C : Addr) : Sp := fun vs H Q _ => ∃ (x : Addr) (L : Lore) (v : V) (d : PyData), vs = [.ref x, v, .int 3] ∧ WAt C H x L ∧ Dq H v d ∧ d.weight ≤ 100000 ∧ ∀ H', Ext H H' → Q (.bl (kindD (!L.rs.isEmpty) d)) H'
theorem ok_are_kinds (T : Tx P K mg) : FnOk P w K mg base CX0 3 T.F_are_kinds T.fd_are_kinds ["world", "value", "most"] (spKindsG T.C_World) := by
  refine T.are_kinds_ok.ok sc_are_kinds (fun vs H Q E h => ?_) (fun cdv A outer s H vs Q E hr h => ?_)
  · obtain ⟨x, L, v, d, rfl, _⟩ := h
    rfl
  · obtain ⟨x, L, v, d, rfl, ⟨dx, v3, v4, v5, hx, h3, h4, h5⟩, hd, wt, q⟩ := h
    have nd := sc_are_kinds.nd
    refine ⟨_, (pss_cons (ps_if (PW.pt (pw_or (pt_not (pt_val (pe_callB call_isi (by rfl) T.b_isinstance (by decide +kernel) (pa_cons (pv 1) (pa_cons (pe_bltn (by rfl) T.b_str (by decide +kernel) (v := .ty "str") rfl) pa_nil))))) (pw_or1 (pt_cmpR op_gt (pe_callB call_len_str (by rfl) T.b_len (by decide +kernel) (pa_cons (pv 1) pa_nil)) (pv 2) (nomark _))))) (pss_one (ps_ret pe_bl)) pss_nil) (pss_cons (ps_set (i := 3) nd rfl (Or.inr rfl) (pe_ifExp (pt_cmpR op_gt (pe_callB call_len_seq (by rfl) T.b_len (by decide +kernel) (pa_cons (pe_prop (pv 0) T.World_cl T.World_rows_pr (ok_World_rows T) (hr.mono (by decide)) T.b_World_rows .nil pass0 rfl) pa_nil)) pe_int (nomark _)) (pe_tup (pa_cons (pe_glob (v := .str "n") rfl T.k_NUMBER_KIND ⟨_, rfl⟩) (pa_cons (pe_glob (v := .str "r") rfl T.k_ROW_KIND ⟨_, rfl⟩) pa_nil))) (pe_tup (pa_cons (pe_glob (v := .str "n") rfl T.k_NUMBER_KIND ⟨_, rfl⟩) pa_nil)))) (pss_one (ps_ret (pe_callB (cr_all rfl) (by rfl) T.b_all (by decide +kernel) (pa_cons (pe_lc (own := [("kind", 4)]) (g := gName 4) (by rfl) nd (pi_str (pv 1)) (blkOk_by (own := [("kind", 4)]) (N := N_are_kinds) (sc := defScope s_are_kinds) (by decide +kernel)) (fun _ _ _ _ _ => (pg_name (i := 4) nd rfl (Or.inl rfl))) (fun _ _ _ _ _ => pts_nil) (fun _ _ _ _ _ => (pe_cmpR (op_in_seqK (K := K) rfl) (pv 4) (pv 3) (by rfl)))) pa_nil)))))), ?_⟩
    refine ⟨_, rfl, _, _, _, _, _, rfl, .ty _, tyD hd, kitS d, _, rfl, ?_⟩
    cases e : strB d with
    | false =>
      have z := q H Ext.rfl'
      have n : kindD (!L.rs.isEmpty) d = false := by cases d <;> first | rfl | (cases e; done)
      rw [n] at z
      exact iteT z
    | true =>
    obtain ⟨ks, rfl⟩ := strB_of e
    cases hd
    have fit : ks.length ≤ sizeLine := Nat.le_trans (show ks.cps.size ≤ 100000 from wt) (by decide)
    refine iteF ?_
    refine ⟨_, rfl, ks, rfl, fit, _, rfl, _, _, rfl, rfl, _, rfl, ?_⟩
    by_cases c1 : (3 : Int) < (ks.length : Int)
    · rw [decide_eq_true c1]
      have z := q H Ext.rfl'
      have n : kindD (!L.rs.isEmpty) (.str ks) = false := by
        show (decide ((ks.length : Int) ≤ 3) && _) = false
        rw [decide_eq_false (by omega)]
        rfl
      rw [n] at z
      exact iteT z
    rw [decide_eq_false c1]
    refine iteF ?_
    have kd : kindD (!L.rs.isEmpty) (.str ks) = ks.cps.toList.all (kindS (!L.rs.isEmpty)) := by
      show (decide ((ks.length : Int) ≤ 3) && _) = _
      rw [decide_eq_true (by omega), Bool.true_and]
    cases h4 with
    | tup t4 al4 =>
    rename_i a4 xs4
    have l4 : xs4.length = L.rs.length := by rw [all_len al4, List.length_map]
    refine ⟨_, rfl, x, dx, _, rfl, hx, x, dx, _, _, rfl, hx, wf_rows _ _ _ _ _, a4, _, rfl, .inr (SqT.of t4), ?_⟩
    have sz : ks.cps.size ≤ 100000 := wt
    have fin : ∀ (H6 : Hp) (D : Addr), Ext H H6 → H6 D = some (.lst ((List.range ks.cps.size).map fun i => V.bl (kindS (!L.rs.isEmpty) (ks.cps.toList.getD i 0)))) → ∃ (p : Addr) (ys : List Bool), [V.ref D] = [V.ref p] ∧ SqL K H6 p (ys.map V.bl) ∧ Q (.bl (ys.all id)) H6 := fun H6 D X6 f6 => by
      have ll : ks.cps.size = ks.cps.toList.length := by simp
      have eb : (List.range ks.cps.size).map (fun i => V.bl (kindS (!L.rs.isEmpty) (ks.cps.toList.getD i 0))) = (ks.cps.toList.map (kindS (!L.rs.isEmpty))).map V.bl := by
        rw [ll, List.map_map]
        refine range_map fun i y hy => ?_
        rw [List.getD_eq_getElem?_getD, hy]
        rfl
      rw [eb] at f6
      refine ⟨D, _, rfl, SqL.of f6, ?_⟩
      have z := q H6 X6
      rw [kd] at z
      rw [List.all_map]
      exact z
    refine ⟨_, _, rfl, rfl, _, rfl, ?_⟩
    by_cases c : L.rs = []
    · rw [decide_eq_false (by rw [l4, c]; decide)]
      have be : (!L.rs.isEmpty) = false := by rw [c]; rfl
      rw [be] at fin
      refine ⟨by show 1 ≤ sizeLine; decide, fun t ht => ?_⟩
      generalize hJ : upd _ t _ = H5
      obtain ⟨X5, f5⟩ := new_of hJ ht
      clear hJ ht
      refine ⟨_, rfl, ks, rfl, fun D hD => ?_⟩
      refine lc_flat (walk_str (z := ks)) (fun i => .bl (kindS false (ks.cps.toList.getD i 0))) hD sz trivial (fun _ _ _ h => h) ?_ ?_
      · rintro i y H6 H7 acc Q' hi X7 hl hDa _ ⟨rfl, cc, hc, rfl⟩ k7
        refine ⟨rfl, ?_⟩
        have ec : ks.cps.toList.getD i 0 = cc := by
          rw [List.getD_eq_getElem?_getD, Array.getElem?_toList, hc]
          rfl
        have z := k7 H7 Ext.rfl'
        rw [ec] at z
        exact ⟨_, rfl, _, rfl, t, _, rfl, .inr (SqT.of (X7 _ _ f5)), rfl, rfl, z⟩
      · intro H6 X6 f6
        exact fin H6 D (X5.trans X6) f6
    · have c0 : 0 < L.rs.length := List.length_pos_iff.mpr c
      have be : (!L.rs.isEmpty) = true := by
        cases hr : L.rs with
        | nil => exact absurd hr c
        | cons a b => rfl
      rw [be] at fin
      rw [decide_eq_true (by rw [l4]; omega)]
      refine ⟨by show 2 ≤ sizeLine; decide, fun t ht => ?_⟩
      generalize hJ : upd _ t _ = H5
      obtain ⟨X5, f5⟩ := new_of hJ ht
      clear hJ ht
      refine ⟨_, rfl, ks, rfl, fun D hD => ?_⟩
      refine lc_flat (walk_str (z := ks)) (fun i => .bl (kindS true (ks.cps.toList.getD i 0))) hD sz trivial (fun _ _ _ h => h) ?_ ?_
      · rintro i y H6 H7 acc Q' hi X7 hl hDa _ ⟨rfl, cc, hc, rfl⟩ k7
        refine ⟨rfl, ?_⟩
        have ec : ks.cps.toList.getD i 0 = cc := by
          rw [List.getD_eq_getElem?_getD, Array.getElem?_toList, hc]
          rfl
        have z := k7 H7 Ext.rfl'
        rw [ec] at z
        exact ⟨_, rfl, _, rfl, t, _, rfl, .inr (SqT.of (X7 _ _ f5)), rfl, rfl, z⟩
      · intro H6 X6 f6
        exact fin H6 D (X5.trans X6) f6
/-- is it a tuple of so many -/
def spTupW : Sp := fun vs H Q _ => ∃ (v : V) (wi : WI), vs = [v, .int 3] ∧ wi.At H v ∧ Q (.bl wi.is3) H
theorem ok_is_tupleW (T : Tx P K mg) : FnOk P w K mg base CX0 1 T.F_is_tuple T.fd_is_tuple ["value", "many"] spTupW := by
  refine T.is_tuple_ok.ok sc_is_tuple (fun vs H Q E h => ?_) (fun cdv A outer s H vs Q E hr h => ?_)
  · obtain ⟨v, wi, rfl, _⟩ := h
    rfl
  · obtain ⟨v, wi, rfl, hd, q⟩ := h
    have nd := sc_is_tuple.nd
    refine ⟨_, (pss_one (ps_ret (pe_and (pe_callB call_isi (by rfl) T.b_isinstance (by decide +kernel) (pa_cons (pv 0) (pa_cons (pe_bltn (by rfl) T.b_tuple (by decide +kernel) (v := .ty "tuple") rfl) pa_nil))) (pe_one (pe_cmpR op_eq (pe_callB call_len_seq (by rfl) T.b_len (by decide +kernel) (pa_cons (pv 0) pa_nil)) (pv 1) (nomark _)))))), ?_⟩
    refine ⟨_, rfl, _, _, _, _, _, rfl, .ty _, hd.ty, kitT wi.rep, _, rfl, ?_⟩
    cases wi with
    | tri d0 d2 =>
      obtain ⟨a, v0, t, v2, rfl, ha, _⟩ := hd
      exact iteT ⟨_, rfl, a, _, rfl, .inr (SqT.of ha), _, rfl, rfl, q⟩
    | tup n =>
      obtain ⟨a, vs, rfl, ha, e, n3, _⟩ := hd
      refine iteT ⟨_, rfl, a, _, rfl, .inr (SqT.of ha), _, rfl, rfl, ?_⟩
      rw [decide_eq_false (fun z : V.int (vs.length : Nat) = V.int 3 => n3 (by injection z with z; rw [← e]; exact Int.ofNat_inj.mp z))]
      exact q
    | oth d =>
      rw [show tupB (WI.rep (.oth d)) = false from hd.1]
      exact iteF q
end

end K25

namespace K25
open PySem PySem.Spec PyProof.Rows L2 L2.TP RZ
theorem worksB_no {b : Bool} {ws : List WI} (h : ws.all (WI.good b) = false) : worksB b (.tup ws) = false := by
  show ((_ && _) && (ws.all (WI.good b) && _)) = false
  rw [h, Bool.false_and, Bool.and_false]
theorem all_no {b : Bool} {ws : List WI} {i : Nat} {w : WI} (h : ws[i]? = some w) (g : w.good b = false) : ws.all (WI.good b) = false := by
  rw [Bool.eq_false_iff]
  intro z
  rw [List.all_eq_true.mp z w (List.mem_of_getElem? h)] at g
  cases g
theorem good_nm {b : Bool} {w : WI} (h : w.good b = true) : ∃ d2, w = .tri (.str w.nm) d2 := by
  cases w with
  | tri d0 d2 =>
    obtain ⟨z, rfl, _⟩ := nameD_of (He.ba h).1
    exact ⟨d2, rfl⟩
  | tup n => cases h
  | oth d => cases h
section
variable {P : Program} {w : World} {K : PySem.W.Frag} {mg : Str → Option Value} {base : Heap}
def spWorksG (C : Addr) : Sp := fun vs H Q _ => ∃ (x : Addr) (L : Lore) (v : V) (wv : WV), vs = [.ref x, v] ∧ WAt C H x L ∧ wv.At H v ∧ ∀ H', Ext H H' → Q (.bl (worksB (!L.rs.isEmpty) wv)) H'
theorem ok_are_works (T : Tx P K mg) : FnOk P w K mg base CX0 5 T.F_are_works T.fd_are_works ["world", "value"] (spWorksG T.C_World) := by
  refine T.are_works_ok.ok sc_are_works (fun vs H Q E h => ?_) (fun cdv A outer s H vs Q E hr h => ?_)
  · obtain ⟨x, L, v, wv, rfl, _⟩ := h
    rfl
  · obtain ⟨x, L, v, wv, rfl, hW, hv, q⟩ := h
    have nd := sc_are_works.nd
    refine ⟨_, (pss_cons (ps_if (PW.pt (pw_or (pt_not (pt_val (pe_callB call_isi (by rfl) T.b_isinstance (by decide +kernel) (pa_cons (pv 1) (pa_cons (pe_bltn (by rfl) T.b_tuple (by decide +kernel) (v := .ty "tuple") rfl) pa_nil))))) (pw_or1 (pt_not (pt_chain op_le op_le pe_int (pe_callB call_len_seq (by rfl) T.b_len (by decide +kernel) (pa_cons (pv 1) pa_nil)) (pe_glob (v := .int 3) rfl T.k_MOST_WORKS ⟨_, rfl⟩)))))) (pss_one (ps_ret pe_bl)) pss_nil) (pss_cons (ps_for PassesOwn.never rfl (pi_tup (pv 1)) (pg_name (i := 2) nd rfl (Or.inl rfl)) (pss_one (ps_if (PW.pt (pw_or (pt_not (pt_val (pe_call (ok_is_tupleW T) (hr.mono (by decide)) rfl T.is_tuple_mg T.is_tuple_ok.kp T.b_is_tuple .nil pass0 (pa_cons (pv 2) (pa_cons (pe_glob (v := .int 3) rfl T.k_TRIPLE ⟨_, rfl⟩) pa_nil))))) (pw_or (pt_not (pt_val (pe_call (ok_is_name T) (hr.mono (by decide)) rfl T.is_name_mg T.is_name_ok.kp T.b_is_name .nil pass0 (pa_cons (pe_ix (ix_tupK (K := K) rfl) (pv 2) pe_int (fun _ _ => rfl)) pa_nil)))) (pw_or1 (pt_not (pt_val (pe_call (ok_are_kinds T) (hr.mono (by decide)) rfl T.are_kinds_mg T.are_kinds_ok.kp T.b_are_kinds .nil pass0 (pa_cons (pv 0) (pa_cons (pe_ix (ix_tupK (K := K) rfl) (pv 2) pe_int (fun _ _ => rfl)) (pa_cons (pe_glob (v := .int 3) rfl T.k_MOST_KINDS ⟨_, rfl⟩) pa_nil)))))))))) (pss_one (ps_ret pe_bl)) pss_nil))) (pss_one (ps_ret (pe_call (ok_is_rising T) (hr.mono (by decide)) rfl T.is_rising_mg T.is_rising_ok.kp T.b_is_rising .nil pass0 (pa_cons (pe_lc (own := [("work", 2)]) (g := gName 2) (by rfl) nd (pi_tup (pv 1)) (blkOk_by (own := [("work", 2)]) (N := N_are_works) (sc := defScope s_are_works) (by decide +kernel)) (fun _ _ _ _ _ => (pg_name (i := 2) nd rfl (Or.inl rfl))) (fun _ _ _ _ _ => pts_nil) (fun _ _ _ _ _ => (pe_ix (ix_tupK (K := K) rfl) (pv 2) pe_int (fun _ _ => rfl)))) pa_nil)))))), ?_⟩
    refine ⟨_, rfl, _, _, _, _, _, rfl, .ty _, hv.ty, kitT wv.rep, _, rfl, ?_⟩
    cases wv with
    | oth d =>
      rw [show tupB (WV.rep (.oth d)) = false from hv.1]
      exact iteT (q H Ext.rfl')
    | tup ws =>
    refine iteF ?_
    obtain ⟨a, xs, rfl, ha, hw, l10⟩ := hv
    have xl := hw.len
    refine ⟨_, rfl, a, _, rfl, .inr (SqT.of ha), _, _, rfl, rfl, _, rfl, ?_⟩
    have wB : worksB (!L.rs.isEmpty) (.tup ws) = ((decide (1 ≤ (ws.length : Int)) && decide ((ws.length : Int) ≤ 3)) && (ws.all (WI.good (!L.rs.isEmpty)) && risingS (ws.map WI.nm))) := rfl
    by_cases c1 : 1 ≤ (xs.length : Int)
    · rw [decide_eq_true c1]
      refine iteT ⟨_, _, rfl, rfl, ?_⟩
      by_cases c2 : (xs.length : Int) ≤ 3
      · refine ⟨true, congrArg V.bl (decide_eq_true c2), iteF ?_⟩
        rw [xl] at c1 c2
        rw [decide_eq_true c1, decide_eq_true c2, Bool.true_and, Bool.true_and] at wB
        refine ⟨_, rfl, a, rfl, ⟨_, SqT.of ha⟩, ?_⟩
        refine for_tup (K := K) (a := a) (xs := xs) (fun i σ H' => ∃ v2 : Option V, σ = [some (.ref x), some (.ref a), v2] ∧ Ext H H' ∧ (ws.take i).all (WI.good (!L.rs.isEmpty)) = true) ⟨_, rfl, Ext.rfl', rfl⟩ (fun i σ H' _ ⟨_, _, e, _⟩ => SqT.of (e _ _ ha)) ?_ ?_
        · rintro i y σ H' hy ⟨v2, rfl, x1, al⟩
          obtain ⟨wi, hwi, hy'⟩ := hw.at_ hy
          have hyx := hy'.ext x1
          have bad : wi.good (!L.rs.isEmpty) = false → ∀ H2, Ext H H2 → Q (.bl false) H2 := fun g H2 X2 => by
            have z := q H2 X2
            rw [worksB_no (all_no hwi g)] at z
            exact z
          refine ⟨_, rfl, y, wi, rfl, hyx, _, rfl, ?_⟩
          cases wi with
          | tup n => exact iteT (bad rfl H' x1)
          | oth d => exact iteT (bad rfl H' x1)
          | tri d0 d2 =>
          obtain ⟨t, v0, th, v2', rfl, ft, h0, h2, w0, w2⟩ := hyx
          refine iteF ⟨_, rfl, t, _, 0, _, rfl, rfl, SqT.of ft, rfl, _, d0, rfl, h0, w0, fun H7 X7 => ⟨_, rfl, ?_⟩⟩
          cases n0 : nameD d0 with
          | false => exact iteT (bad (by show (nameD d0 && _) = false; rw [n0]; rfl) H7 (x1.trans X7))
          | true =>
          have x7 := x1.trans X7
          refine iteF ⟨_, rfl, _, rfl, t, _, 2, _, rfl, rfl, SqT.of (X7 _ _ ft), rfl, x, L, _, d2, rfl, hW.ext x7, h2.ext X7, w2, fun H8 X8 => ⟨_, rfl, ?_⟩⟩
          cases k2 : kindD (!L.rs.isEmpty) d2 with
          | false => exact iteT (bad (by show (nameD d0 && kindD _ d2) = false; rw [k2, Bool.and_false]) H8 (x7.trans X8))
          | true =>
          refine iteF ⟨_, rfl, x7.trans X8, ?_⟩
          rw [List.take_succ, hwi, List.all_append, al]
          show (true && ((nameD d0 && kindD _ d2) && true)) = true
          rw [n0, k2]
          rfl
        · rintro σ H' ⟨v2, rfl, x1, al⟩
          rw [xl, List.take_length] at al
          refine ⟨_, rfl, a, rfl, ⟨_, SqT.of (x1 _ _ ha)⟩, fun D hD => ?_⟩
          refine lc_flat (walk_tup (K := K) (a := a) (xs := xs)) (fun i => .str ((ws.map WI.nm).getD i "")) hD (by omega) (SqT.of (x1 _ _ ha)) (fun _ _ e h => h.ext e) ?_ ?_
          · rintro i y H6 H7 acc Q' hi X7 hl hDa gH ⟨rfl, hy⟩ k7
            obtain ⟨wi, hwi, hy'⟩ := hw.at_ hy
            obtain ⟨d2, ew⟩ := good_nm (List.all_eq_true.mp al wi (List.mem_of_getElem? hwi))
            have k8 := k7 H7 Ext.rfl'
            rw [List.getD_eq_getElem?_getD, List.getElem?_map, hwi] at k8
            have hyx := (hy'.ext x1).ext X7
            rw [ew] at hyx
            obtain ⟨t, v0, th, v2', rfl, ft, h0, _⟩ := hyx
            cases h0
            exact ⟨rfl, _, rfl, t, _, 0, _, rfl, rfl, SqT.of ft, rfl, k8⟩
          · intro H6 X6 f6
            rw [show xs.length = (ws.map WI.nm).length by rw [xl, List.length_map], range_map (f := V.str) (xs := ws.map WI.nm) fun i y hy => by rw [List.getD_eq_getElem?_getD, hy]; rfl] at f6
            refine ⟨D, _, rfl, .inl (SqL.of f6), by rw [List.length_map]; omega, fun H7 X7 => ?_⟩
            have z := q H7 (x1.trans (X6.trans X7))
            rw [wB, al, Bool.true_and] at z
            exact z
      · refine ⟨false, congrArg V.bl (decide_eq_false c2), iteT ?_⟩
        rw [xl] at c2
        have z := q H Ext.rfl'
        rw [wB, decide_eq_false c2, Bool.and_false, Bool.false_and] at z
        exact z
    · rw [decide_eq_false c1]
      refine iteF ⟨_, rfl, iteT ?_⟩
      rw [xl] at c1
      have z := q H Ext.rfl'
      rw [wB, decide_eq_false c1, Bool.false_and, Bool.false_and] at z
      exact z
end

end K25

namespace K25
open PySem PySem.Spec PyProof.Rows L2 L2.TP RZ
def sf (v1 v2 v3 : V) : List (Str × V) := [("own_world", v1), ("own_works", v2), ("own_room", v3)]
theorem sf_make (v1 v2 v3 : V) : putF "own_room" v3 (putF "own_works" v2 (putF "own_world" v1 [])) = sf v1 v2 v3 := by
  have r2 : putF "own_works" v2 (putF "own_world" v1 []) = ([("own_world", v1), ("own_works", v2)] : List (Str × V)) := by
    rw [pf_nil, pf_no (by decide +kernel), pf_nil]
  rw [r2, pf_no (by decide +kernel), pf_no (by decide +kernel), pf_nil]
  rfl
theorem sf_world (v1 v2 v3 : V) : (sf v1 v2 v3).lookup ("own_world" : Str) = some v1 := lk_yes
theorem sf_works (v1 v2 v3 : V) : (sf v1 v2 v3).lookup ("own_works" : Str) = some v2 := (lk_no (by decide +kernel)).trans lk_yes
theorem sf_room (v1 v2 v3 : V) : (sf v1 v2 v3).lookup ("own_room" : Str) = some v3 := (lk_no (by decide +kernel)).trans ((lk_no (by decide +kernel)).trans lk_yes)
section
variable {P : Program} {w : World} {K : PySem.W.Frag} {mg : Str → Option Value} {base : Heap}
def spSInit (CW CS CB : Addr) : Sp := fun vs H Q E => ∃ (y dy x : Addr) (v r : V) (dr : PyData) (L : Lore) (wv : WV), vs = [.ref y, .ref x, v, r] ∧ H y = some (.ins CS dy []) ∧ WAt CW H x L ∧ wv.At H v ∧ Dq H r dr ∧
  (worksB (!L.rs.isEmpty) wv = false → ∀ H', Ext H H' → BadE CB v H' E) ∧
  (worksB (!L.rs.isEmpty) wv = true → fromD 1 2 dr = false → ∀ H', Ext H H' → BadE CB r H' E) ∧
  (worksB (!L.rs.isEmpty) wv = true → fromD 1 2 dr = true → ∀ H', ExtI y H H' → H' y = some (.ins CS dy (sf (.ref x) v r)) → Q .non H')
theorem ok_Setup__init__ (T : Tx P K mg) : FnOk P w K mg base (L2.CX P w) 6 T.F_Setup___init__ T.fd_Setup___init__ ["self", "world", "works", "room"] (spSInit T.C_World T.C_Setup T.C_BadSetup) := by
  obtain ⟨oc, od, kV, dc, pm, an, cdv, ct, sl, efd, lk, hcd⟩ := T.Setup___init___ok.ex
  rw [efd] at lk ⊢
  refine fn_of lk hcd sc_Setup___init__ (fun vs H Q E h => ?_) fun A outer s H vs Q E hr h => ?_
  · obtain ⟨y, dy, x, v, r, dr, L, wv, rfl, _⟩ := h
    rfl
  · obtain ⟨y, dy, x, v, r, dr, L, wv, rfl, hy, hW, hv, hr', b1, b2, g⟩ := h
    have nd := sc_Setup___init__.nd
    refine ⟨_, (pss_cons (ps_if (pt_not (pt_val (pe_call (ok_are_works T) (hr.mono (by decide)) rfl T.are_works_mg T.are_works_ok.kp T.b_are_works .nil pass0 (pa_cons (pv 1) (pa_cons (pv 2) pa_nil))))) (pss_one (ps_raiseP rfl (takes_of rfl rfl rfl rfl) T.BadSetup_ev (by decide) hr (pa_cons (pv 2) pa_nil))) pss_nil) (pss_cons (ps_if (pt_not (pt_val (pe_call (ok_is_from T) (hr.mono (by decide)) rfl T.is_from_mg T.is_from_ok.kp T.b_is_from .nil pass0 (pa_cons (pv 3) (pa_cons (pe_glob (v := .int 1) rfl T.k_LEAST_ROOM ⟨_, rfl⟩) (pa_cons (pe_glob (v := .int 2) rfl T.k_MOST_ROOM ⟨_, rfl⟩) pa_nil)))))) (pss_one (ps_raiseP rfl (takes_of rfl rfl rfl rfl) T.BadSetup_ev (by decide) hr (pa_cons (pv 3) pa_nil))) pss_nil) (pss_cons (ps_fld (pv 0) (pv 1) rfl) (pss_cons (ps_fld (pv 0) (pv 2) rfl) (pss_one (ps_fld (pv 0) (pv 3) rfl)))))), ?_⟩
    refine ⟨_, rfl, _, rfl, x, L, v, wv, rfl, hW, hv, fun H1 X1 => ⟨_, rfl, ?_⟩⟩
    cases c1 : worksB (!L.rs.isEmpty) wv with
    | false => exact iteT ⟨_, rfl, rfl, rfl, fun dd hdd => b1 c1 H1 X1 dd hdd⟩
    | true =>
    refine iteF ⟨_, rfl, r, dr, 1, 2, rfl, hr'.ext X1, _, rfl, ?_⟩
    cases c2 : fromD 1 2 dr with
    | false => exact iteT ⟨_, rfl, rfl, rfl, fun dd hdd => b2 c1 c2 H1 X1 dd hdd⟩
    | true =>
    refine iteF ?_
    refine ⟨_, rfl, _, rfl, y, T.C_Setup, dy, [], rfl, X1 _ _ hy, T.Setup_cl, T.x_m_world, by decide, ?_⟩
    refine ⟨_, rfl, _, rfl, y, T.C_Setup, dy, _, rfl, upd_same, T.Setup_cl, T.x_m_works, Nat.lt_of_le_of_lt (pf_b (Nat.le_refl 0)) (by decide), ?_⟩
    refine ⟨_, rfl, _, rfl, y, T.C_Setup, dy, _, rfl, upd_same, T.Setup_cl, T.x_m_room, Nat.lt_of_le_of_lt (pf_b (pf_b (Nat.le_refl 0))) (by decide), ?_⟩
    rw [upd_upd, upd_upd, sf_make]
    exact g c1 c2 _ ((ExtI.of X1).trans extI_upd) upd_same
theorem ok_Setup_world (T : Tx P K mg) : FnOk P w K mg base CX0 1 T.F_Setup_world T.fd_Setup_world ["self"] (getSp T.C_Setup "own_world") := by
  obtain ⟨oc, od, kV, doc, pm, an, cdv, ct, osl, e, lk, hcd⟩ := T.Setup_world_ok.ex
  rw [e] at lk ⊢
  exact fn_getter lk hcd sc_Setup_world rfl rfl T.Setup_cl T.x_m_world
theorem ok_Setup_works (T : Tx P K mg) : FnOk P w K mg base CX0 1 T.F_Setup_works T.fd_Setup_works ["self"] (getSp T.C_Setup "own_works") := by
  obtain ⟨oc, od, kV, doc, pm, an, cdv, ct, osl, e, lk, hcd⟩ := T.Setup_works_ok.ex
  rw [e] at lk ⊢
  exact fn_getter lk hcd sc_Setup_works rfl rfl T.Setup_cl T.x_m_works
theorem ok_Setup_places (T : Tx P K mg) : FnOk P w K mg base CX0 1 T.F_Setup_places T.fd_Setup_places ["self"] (getSp T.C_Setup "own_room") := by
  obtain ⟨oc, od, kV, doc, pm, an, cdv, ct, osl, e, lk, hcd⟩ := T.Setup_places_ok.ex
  rw [e] at lk ⊢
  exact fn_getter lk hcd sc_Setup_places rfl rfl T.Setup_cl T.x_m_room
end

end K25

namespace K25
open PySem PySem.Spec PyProof.Rows L2 L2.TP RZ
def letB25 (b : Bool) : Str := if b then "nr" else "n"
theorem str1 {c k : Nat} : ((⟨#[k]⟩ : Str) == ⟨#[c]⟩) = decide (k = c) := by
  rw [Bool.eq_iff_iff, decide_eq_true_eq, beq_iff_eq]
  constructor
  · intro h
    injection h with h
    injection h with h
    injection h with h
  · rintro rfl
    rfl
theorem kind_in (b : Bool) (c : Nat) : (!(Builtin.Str.occurrences (letB25 b) ⟨#[c]⟩ 0 (letB25 b).length 1).isEmpty) = kindS b c := by
  rw [PySem.StrLaws.found_one]
  have en : ("n" : Str) = ⟨#[110]⟩ := by decide +kernel
  have er : ("r" : Str) = ⟨#[114]⟩ := by decide +kernel
  cases b with
  | false =>
    have e : (letB25 false).cps.toList = [110] := by decide +kernel
    rw [e]
    show _ = (("n" : Str) == ⟨#[c]⟩ || false)
    rw [en, str1, Bool.or_false, Bool.eq_iff_iff, decide_eq_true_eq, decide_eq_true_eq, List.mem_singleton]
    exact eq_comm
  | true =>
    have e : (letB25 true).cps.toList = [110, 114] := by decide +kernel
    rw [e]
    show _ = (("n" : Str) == ⟨#[c]⟩ || (("r" : Str) == ⟨#[c]⟩ || false))
    rw [en, er, str1, str1, Bool.or_false, Bool.eq_iff_iff, Bool.or_eq_true, decide_eq_true_eq, decide_eq_true_eq, decide_eq_true_eq, List.mem_cons, List.mem_singleton]
    exact or_congr eq_comm eq_comm
section
variable {P : Program} {w : World} {K : PySem.W.Frag} {mg : Str → Option Value} {base : Heap}
def spLWorks : Sp := fun vs H Q _ => ∃ (v : V) (b : Bool) (wv : WV), vs = [v, .bl b] ∧ wv.At H v ∧ ∀ H', Ext H H' → Q (.bl (worksB b wv)) H'
theorem ok__law_are_works (T : Tx P K mg) : FnOk P w K mg base CX0 3 T.F__law_are_works T.fd__law_are_works ["_law_value", "_law_has_rows"] spLWorks := by
  refine T._law_are_works_ok.ok sc__law_are_works (fun vs H Q E h => ?_) (fun cdv A outer s H vs Q E hr h => ?_)
  · obtain ⟨v, b, wv, rfl, _⟩ := h
    rfl
  · obtain ⟨v, b, wv, rfl, hv, q⟩ := h
    have nd := sc__law_are_works.nd
    refine ⟨_, (pss_cons (ps_if (PW.pt (pw_or (pt_not (pt_val (pe_callB call_isi (by rfl) T.b_isinstance (by decide +kernel) (pa_cons (pv 0) (pa_cons (pe_bltn (by rfl) T.b_tuple (by decide +kernel) (v := .ty "tuple") rfl) pa_nil))))) (pw_or1 (pt_not (pt_chain op_le op_le pe_int (pe_callB call_len_seq (by rfl) T.b_len (by decide +kernel) (pa_cons (pv 0) pa_nil)) pe_int))))) (pss_one (ps_ret pe_bl)) pss_nil) (Evl.pss_cut (ps_set (i := 2) nd rfl (Or.inr rfl) (pe_ifExp (pt_val (pv 1)) pe_str pe_str)) (pss_cons (ps_for PassesOwn.never rfl (pi_tup (pv 0)) (pg_name (i := 3) nd rfl (Or.inl rfl)) (pss_cons (ps_if (PW.pt (pw_or (pt_not (pt_val (pe_callB call_isi (by rfl) T.b_isinstance (by decide +kernel) (pa_cons (pv 3) (pa_cons (pe_bltn (by rfl) T.b_tuple (by decide +kernel) (v := .ty "tuple") rfl) pa_nil))))) (pw_or (pt_cmpR op_ne (pe_callB call_len_seq (by rfl) T.b_len (by decide +kernel) (pa_cons (pv 3) pa_nil)) pe_int (nomark _)) (pw_or1 (pt_not (pt_val (pe_call (ok__law_is_name T) (hr.mono (by decide)) rfl T._law_is_name_mg T._law_is_name_ok.kp T.b__law_is_name .nil pass0 (pa_cons (pe_ix (ix_tupK (K := K) rfl) (pv 3) pe_int (fun _ _ => rfl)) pa_nil)))))))) (pss_one (ps_ret pe_bl)) pss_nil) (pss_one (ps_if (PW.pt (pw_or (pt_not (pt_val (pe_callB call_isi (by rfl) T.b_isinstance (by decide +kernel) (pa_cons (pe_ix (ix_tupK (K := K) rfl) (pv 3) pe_int (fun _ _ => rfl)) (pa_cons (pe_bltn (by rfl) T.b_str (by decide +kernel) (v := .ty "str") rfl) pa_nil))))) (pw_or (pt_cmpR op_gt (pe_callB call_len_str (by rfl) T.b_len (by decide +kernel) (pa_cons (pe_ix (ix_tupK (K := K) rfl) (pv 3) pe_int (fun _ _ => rfl)) pa_nil)) pe_int (nomark _)) (pw_or1 (pt_not (pt_val (pe_callB (cr_all rfl) (by rfl) T.b_all (by decide +kernel) (pa_cons (pe_lc (own := [("_law_letter", 4)]) (g := gName 4) (by rfl) nd (pi_str (pe_ix (ix_tupK (K := K) rfl) (pv 3) pe_int (fun _ _ => rfl))) (blkOk_by (own := [("_law_letter", 4)]) (N := N__law_are_works) (sc := defScope s__law_are_works) (by decide +kernel)) (fun _ _ _ _ _ => (pg_name (i := 4) nd rfl (Or.inl rfl))) (fun _ _ _ _ _ => pts_nil) (fun _ _ _ _ _ => (pe_cmpR op_in_str (pv 4) (pv 2) (by rfl)))) pa_nil)))))))) (pss_one (ps_ret pe_bl)) pss_nil)))) (pss_one (ps_ret (pe_call (ok__law_are_rising T) (hr.mono (by decide)) rfl T._law_are_rising_mg T._law_are_rising_ok.kp T.b__law_are_rising .nil pass0 (pa_cons (pe_lc (own := [("_law_work", 3)]) (g := gName 3) (by rfl) nd (pi_tup (pv 0)) (blkOk_by (own := [("_law_work", 3)]) (N := N__law_are_works) (sc := defScope s__law_are_works) (by decide +kernel)) (fun _ _ _ _ _ => (pg_name (i := 3) nd rfl (Or.inl rfl))) (fun _ _ _ _ _ => pts_nil) (fun _ _ _ _ _ => (pe_ix (ix_tupK (K := K) rfl) (pv 3) pe_int (fun _ _ => rfl)))) pa_nil))))))), ?_⟩
    refine ⟨_, rfl, _, _, _, _, _, rfl, .ty _, hv.ty, kitT wv.rep, _, rfl, ?_⟩
    cases wv with
    | oth d =>
      rw [show tupB (WV.rep (.oth d)) = false from hv.1]
      exact iteT (q H Ext.rfl')
    | tup ws =>
    refine iteF ?_
    obtain ⟨a, xs, rfl, ha, hw, l10⟩ := hv
    have xl := hw.len
    refine ⟨_, rfl, a, _, rfl, .inr (SqT.of ha), _, _, rfl, rfl, _, rfl, ?_⟩
    have wB : worksB b (.tup ws) = ((decide (1 ≤ (ws.length : Int)) && decide ((ws.length : Int) ≤ 3)) && (ws.all (WI.good b) && risingS (ws.map WI.nm))) := rfl
    by_cases c1 : 1 ≤ (xs.length : Int)
    · rw [decide_eq_true c1]
      refine iteT ⟨_, _, rfl, rfl, ?_⟩
      by_cases c2 : (xs.length : Int) ≤ 3
      · refine ⟨true, congrArg V.bl (decide_eq_true c2), iteF ?_⟩
        rw [xl] at c1 c2
        rw [decide_eq_true c1, decide_eq_true c2, Bool.true_and, Bool.true_and] at wB
        refine ⟨fun σ' H' => σ' = [some (.ref a), some (.bl b), some (.str (letB25 b)), none, none] ∧ H' = H, ?_, ?_⟩
        · refine ⟨_, rfl, _, rfl, ?_⟩
          cases b with
          | true => exact iteT ⟨rfl, rfl⟩
          | false => exact iteF ⟨rfl, rfl⟩
        rintro σ' H' ⟨rfl, rfl⟩
        refine ⟨_, rfl, a, rfl, ⟨_, SqT.of ha⟩, ?_⟩
        refine for_tup (K := K) (a := a) (xs := xs) (fun i σ H2 => ∃ v2 : Option V, σ = [some (.ref a), some (.bl b), some (.str (letB25 b)), v2, none] ∧ Ext H' H2 ∧ (ws.take i).all (WI.good b) = true) ⟨_, rfl, Ext.rfl', rfl⟩ (fun i σ H' _ ⟨_, _, e, _⟩ => SqT.of (e _ _ ha)) ?_ ?_
        · rintro i y σ H2 hy ⟨v2, rfl, x1, al⟩
          obtain ⟨wi, hwi, hy'⟩ := hw.at_ hy
          have hyx := hy'.ext x1
          have bad : wi.good b = false → ∀ H2, Ext H' H2 → Q (.bl false) H2 := fun g H2 X2 => by
            have z := q H2 X2
            rw [worksB_no (all_no hwi g)] at z
            exact z
          refine ⟨_, rfl, _, _, _, _, _, rfl, .ty _, hyx.ty, kitT wi.rep, _, rfl, ?_⟩
          cases wi with
          | oth d =>
            rw [show tupB (WI.rep (.oth d)) = false from hyx.1]
            exact iteT (bad rfl H2 x1)
          | tup n =>
            obtain ⟨t, vs, rfl, ft, e, n3, _⟩ := hyx
            refine iteF ⟨_, rfl, t, _, rfl, .inr (SqT.of ft), rfl, _, rfl, ?_⟩
            rw [decide_eq_false (fun z : V.int (vs.length : Nat) = V.int 3 => n3 (by injection z with z; rw [← e]; exact Int.ofNat_inj.mp z))]
            exact iteT (bad rfl H2 x1)
          | tri d0 d2 =>
          obtain ⟨t, v0, th, v2', rfl, ft, h0, h2, w0, w2⟩ := hyx
          refine iteF ⟨_, rfl, t, _, rfl, .inr (SqT.of ft), rfl, _, rfl, iteF ?_⟩
          refine ⟨_, rfl, t, _, 0, _, rfl, rfl, SqT.of ft, rfl, _, d0, rfl, h0, w0, fun H7 X7 => ⟨_, rfl, ?_⟩⟩
          cases n0 : nameD d0 with
          | false => exact iteT (bad (by show (nameD d0 && _) = false; rw [n0]; rfl) H7 (x1.trans X7))
          | true =>
          have x7 := x1.trans X7
          have gd : WI.good b (.tri d0 d2) = kindD b d2 := by
            show (nameD d0 && kindD b d2) = _
            rw [n0, Bool.true_and]
          refine iteF ⟨_, rfl, t, _, 2, _, rfl, rfl, SqT.of (X7 _ _ ft), rfl, _, _, _, _, _, rfl, .ty _, tyD (h2.ext X7), kitS d2, _, rfl, ?_⟩
          cases e2 : strB d2 with
          | false =>
            have n : kindD b d2 = false := by cases d2 <;> first | rfl | (cases e2; done)
            exact iteT (bad (gd.trans n) H7 x7)
          | true =>
          obtain ⟨ks, rfl⟩ := strB_of e2
          cases h2
          have fit : ks.length ≤ sizeLine := Nat.le_trans (show ks.cps.size ≤ 100000 from w2) (by decide)
          refine iteF ⟨_, rfl, t, _, 2, _, rfl, rfl, SqT.of (X7 _ _ ft), rfl, ks, rfl, fit, _, _, rfl, rfl, _, rfl, ?_⟩
          by_cases c3 : (3 : Int) < (ks.length : Int)
          · rw [decide_eq_true c3]
            have n : kindD b (.str ks) = false := by
              show (decide ((ks.length : Int) ≤ 3) && _) = false
              rw [decide_eq_false (by omega)]
              rfl
            exact iteT (bad (gd.trans n) H7 x7)
          rw [decide_eq_false c3]
          have kd : kindD b (.str ks) = ks.cps.toList.all (kindS b) := by
            show (decide ((ks.length : Int) ≤ 3) && _) = _
            rw [decide_eq_true (by omega), Bool.true_and]
          refine iteF ⟨_, rfl, t, _, 2, _, rfl, rfl, SqT.of (X7 _ _ ft), rfl, ks, rfl, fun D hD => ?_⟩
          have sz : ks.cps.size ≤ 100000 := w2
          refine lc_flat (walk_str (z := ks)) (fun i => .bl (kindS b (ks.cps.toList.getD i 0))) hD sz trivial (fun _ _ _ h => h) ?_ ?_
          · rintro i y H8 H9 acc Q' hi X9 hl hDa gH ⟨rfl, cc, hc, rfl⟩ k9
            refine ⟨rfl, ?_⟩
            have ec : ks.cps.toList.getD i 0 = cc := by
              rw [List.getD_eq_getElem?_getD, Array.getElem?_toList, hc]
              rfl
            have z := k9 H9 Ext.rfl'
            rw [ec, ← kind_in] at z
            exact ⟨_, rfl, _, rfl, _, _, rfl, rfl, z⟩
          · intro H8 X8 f8
            have ll : ks.cps.size = ks.cps.toList.length := by simp
            have eb : (List.range ks.cps.size).map (fun i => V.bl (kindS b (ks.cps.toList.getD i 0))) = (ks.cps.toList.map (kindS b)).map V.bl := by
              rw [ll, List.map_map]
              refine range_map fun i y hy => ?_
              rw [List.getD_eq_getElem?_getD, hy]
              rfl
            rw [eb] at f8
            refine ⟨D, _, rfl, SqL.of f8, _, rfl, ?_⟩
            have ea : (ks.cps.toList.map (kindS b)).all id = kindD b (.str ks) := by
              rw [kd, List.all_map]
              rfl
            rw [ea]
            cases k2 : kindD b (.str ks) with
            | false => exact iteT (bad (gd.trans k2) H8 (x7.trans X8))
            | true =>
            refine iteF ⟨_, rfl, x7.trans X8, ?_⟩
            rw [List.take_succ, hwi, List.all_append, al]
            show (true && (WI.good b (.tri d0 (.str ks)) && true)) = true
            rw [gd, k2]
            rfl
        · rintro σ H2 ⟨v2, rfl, x1, al⟩
          rw [xl, List.take_length] at al
          refine ⟨_, rfl, a, rfl, ⟨_, SqT.of (x1 _ _ ha)⟩, fun D hD => ?_⟩
          refine lc_flat (walk_tup (K := K) (a := a) (xs := xs)) (fun i => .str ((ws.map WI.nm).getD i "")) hD (by omega) (SqT.of (x1 _ _ ha)) (fun _ _ e h => h.ext e) ?_ ?_
          · rintro i y H6 H7 acc Q' hi X7 hl hDa gH ⟨rfl, hy⟩ k7
            obtain ⟨wi, hwi, hy'⟩ := hw.at_ hy
            obtain ⟨d2, ew⟩ := good_nm (List.all_eq_true.mp al wi (List.mem_of_getElem? hwi))
            have k8 := k7 H7 Ext.rfl'
            rw [List.getD_eq_getElem?_getD, List.getElem?_map, hwi] at k8
            have hyx := (hy'.ext x1).ext X7
            rw [ew] at hyx
            obtain ⟨t, v0, th, v2', rfl, ft, h0, _⟩ := hyx
            cases h0
            exact ⟨rfl, _, rfl, t, _, 0, _, rfl, rfl, SqT.of ft, rfl, k8⟩
          · intro H6 X6 f6
            rw [show xs.length = (ws.map WI.nm).length by rw [xl, List.length_map], range_map (f := V.str) (xs := ws.map WI.nm) fun i y hy => by rw [List.getD_eq_getElem?_getD, hy]; rfl] at f6
            refine ⟨D, _, rfl, .inl (SqL.of f6), by rw [List.length_map]; omega, fun H7 X7 => ?_⟩
            have z := q H7 (x1.trans (X6.trans X7))
            rw [wB, al, Bool.true_and] at z
            exact z
      · refine ⟨false, congrArg V.bl (decide_eq_false c2), iteT ?_⟩
        rw [xl] at c2
        have z := q H Ext.rfl'
        rw [wB, decide_eq_false c2, Bool.and_false, Bool.false_and] at z
        exact z
    · rw [decide_eq_false c1]
      refine iteF ⟨_, rfl, iteT ?_⟩
      rw [xl] at c1
      have z := q H Ext.rfl'
      rw [wB, decide_eq_false c1, Bool.false_and, Bool.false_and] at z
      exact z
end

end K25

namespace K25
open PySem PySem.Spec PyProof.Rows L2 L2.TP RZ
def qt : Str := (envOfC "_law_work_triple" (defScope s__law_work_triple) 0 0 .none).qual ++ "<lambda>"
theorem join_none : ∀ cs : List Nat, TL.joinL [] (cs.map fun c => [c]) = cs
  | [] => rfl
  | [_] => rfl
  | a :: b :: r => by
    show [a] ++ ([] ++ TL.joinL [] ((b :: r).map fun c => [c])) = _
    rw [join_none (b :: r)]
    rfl
theorem join_cs (cs : List Nat) : Txt.join "" (cs.map fun c => (⟨#[c]⟩ : Str)) = ⟨cs.toArray⟩ := by
  have h := SX.join_S [] (cs.map fun c => [c])
  rw [join_none, List.map_map] at h
  exact h
theorem sum_one : ∀ cs : List Nat, ((cs.map fun c => (⟨#[c]⟩ : Str)).map (·.length)).sum = cs.length
  | [] => rfl
  | c :: r => by
    have h := sum_one r
    rw [List.map_cons, List.map_cons, List.sum_cons, h]
    show 1 + r.length = r.length + 1
    omega
section
variable {P : Program} {w : World} {K : PySem.W.Frag} {mg : Str → Option Value} {base : Heap}
def spTriple (TS : List (Addr × Str)) : Sp := fun vs H Q _ => ∃ (p : Addr) (k : Nat) (name : Str) (b : Bool), vs = [.ref p, .str name, .bl b] ∧ Pot H p k ∧ k ≤ 50000 ∧ LamX.Tabs TS H ∧
  ∀ (t : Addr) (th : V) (ks : Str) (H' : Hp), KeepB p H H' → LamX.Tabs TS H' → Pot H' p (k + 5) → H' t = some (.tup [.str name, th, .str ks]) → ks.length ≤ 3 → (∀ c ∈ ks.cps.toList, kindS b c = true) → selfV th = true → Q (.ref t) H'
theorem ok__law_work_triple (T : Tx P K mg) {TS : List (Addr × Str)} {tP : Addr} (TB : LamX.TabB base mg (tbOf K T.F__law_work_triple).1 tP) (hmem : (tP, qt) ∈ TS) (huni : ∀ p ∈ TS, p.1 = tP → p.2 = qt) :
    FnOk P w K mg base CX0 4 T.F__law_work_triple T.fd__law_work_triple ["_law_pot_here", "_law_name", "_law_has_rows"] (spTriple TS) := by
  obtain ⟨oc, od, dV, kV, dc, pm, an, ct, sl, efd, lk, hcd⟩ := T.cd__law_work_triple
  rw [efd] at lk ⊢
  refine fn_of lk hcd sc__law_work_triple (fun vs H Q E h => ?_) fun A outer s H vs Q E hr h => ?_
  · obtain ⟨p, k, name, b, rfl, _⟩ := h
    rfl
  · obtain ⟨p, k, name, b, rfl, hP, hk, hT, q⟩ := h
    have nd := sc__law_work_triple.nd
    suffices z : ∃ t, PSs (cxOf CX0 P w K mg base N__law_work_triple "_law_work_triple" (defScope s__law_work_triple) T.F__law_work_triple (.ref (tbOf K T.F__law_work_triple).1) A outer s H E).nox (defBody s__law_work_triple) t ∧ t { nx := fun _ H' => Q .non H', rt := Q } (L2.start N__law_work_triple [.ref p, .str name, .bl b]) H by
      obtain ⟨t, ht, hq⟩ := z
      exact ⟨t, ht.nox, hq⟩
    refine ⟨_, (pss_cons (ps_set (i := 3) nd rfl (Or.inl rfl) (pe_call (ok__law_of T) (hr.mono (by decide)) rfl T._law_of_mg T._law_of_ok.kp T.b__law_of .nil pass0 (pa_cons (pv 0) (pa_cons (pe_lst (pa_cons (pe_lamE (T := TS) TB rfl hmem huni (by decide +kernel) rfl) (pa_cons (pe_lamE (T := TS) TB rfl hmem huni (by decide +kernel) rfl) (pa_cons pe_non (pa_cons pe_int (pa_cons pe_str (pa_cons (pe_tup pa_nil) pa_nil))))))) pa_nil)))) (Evl.pss_cut (ps_set (i := 4) nd rfl (Or.inr rfl) (pe_ifExp (pt_val (pv 2)) pe_str pe_str)) (pss_one (ps_ret (pe_tup (pa_cons (pv 1) (pa_cons (pv 3) (pa_cons (pe_join pe_str (pe_lc (own := [("_law_turn", 5)]) (g := gName 5) (by rfl) nd (pi_range1 (by rfl) T.b_range (pa_cons (pe_call (ok__law_take T) (hr.mono (by decide)) rfl T._law_take_mg T._law_take_ok.kp T.b__law_take .nil pass0 (pa_cons (pv 0) (pa_cons pe_int pa_nil))) pa_nil)) (blkOk_by (own := [("_law_turn", 5)]) (N := N__law_work_triple) (sc := defScope s__law_work_triple) (by decide +kernel)) (fun _ _ _ _ _ => (pg_name (i := 5) nd rfl (Or.inl rfl))) (fun _ _ _ _ _ => pts_nil) (fun _ _ _ _ _ => (pe_call (ok__law_ofS T) (hr.mono (by decide)) rfl T._law_of_mg T._law_of_ok.kp T.b__law_of .nil pass0 (pa_cons (pv 0) (pa_cons (pv 4) pa_nil)))))) pa_nil)))))))), ?_⟩
    refine ⟨_, rfl, hT, fun f1 H1 N1 T1 => ⟨T1, fun f2 H2 N2 T2 => ⟨by show 0 ≤ sizeLine; decide, fun t0 ht0 => ?_⟩⟩⟩
    have N12 := N1.trans N2
    have X3 := ext_upd (o := .tup []) ht0
    generalize upd H2 t0 (.tup []) = H3 at X3 ⊢
    refine ⟨by show 6 ≤ sizeLine; decide, fun l hl => ?_⟩
    have X4 := ext_upd (o := .lst [.ref f1, .ref f2, .non, .int 0, .str "f", .ref t0]) hl
    have f4 : upd H3 l (.lst [.ref f1, .ref f2, .non, .int 0, .str "f", .ref t0]) l = some (.lst [.ref f1, .ref f2, .non, .int 0, .str "f", .ref t0]) := upd_same
    have P3 := (hP.extN N12).extN (LamX.ExtN.of X3)
    have nlp : l ≠ p := fun z => by
      obtain ⟨_, _, _, e, _⟩ := P3.at_
      rw [z, e] at hl
      cases hl
    generalize upd H3 l (.lst [V.ref f1, .ref f2, .non, .int 0, .str "f", .ref t0]) = H4 at X4 f4 ⊢
    have P4 := P3.extN (LamX.ExtN.of X4)
    have N4 : LamX.ExtN H H4 := N12.trans (LamX.ExtN.of (X3.trans X4))
    have T4 := T2.ext (X3.trans X4)
    have pl4 : ∃ x y z, H4 p = some (.lst [x, y, z]) := by
      obtain ⟨a, b, c, e, _⟩ := P4.at_
      exact ⟨_, _, _, e⟩
    have w4 : WP (butP H4 p) p k H4 := ⟨butP_ext, if_pos rfl, P4⟩
    refine ⟨butP H4 p, p, l, k, _, rfl, w4, by omega, SqL.of ((if_neg nlp).trans f4), (by show 0 < 6; decide), (by show 6 ≤ 1000; decide), fun i th H5 hth w5 => ?_⟩
    have sth : selfV th = true := by
      match i, hth with
      | 0, h => cases h; rfl
      | 1, h => cases h; rfl
      | 2, h => cases h; rfl
      | 3, h => cases h; rfl
      | 4, h => cases h; rfl
      | 5, h => cases h; rfl
      | n + 6, h => simp at h
    refine ⟨fun σ' H' => (∃ z : Str, σ' = [some (.ref p), some (.str name), some (.bl b), some th, some (.str z), none] ∧ 0 < z.length ∧ z.length ≤ 3 ∧ ∀ c ∈ z.cps.toList, kindS b c = true) ∧ H' = H5, ?_, ?_⟩
    · refine ⟨_, rfl, _, rfl, ?_⟩
      cases b with
      | true => exact iteT ⟨⟨"nnr", rfl, by decide, by decide, by decide +kernel⟩, rfl⟩
      | false => exact iteF ⟨⟨"nnn", rfl, by decide, by decide, by decide +kernel⟩, rfl⟩
    rintro σ' H' ⟨⟨z, rfl, z0, z3, zc⟩, rfl⟩
    refine ⟨_, rfl, _, rfl, ⟨_, rfl⟩, _, rfl, butP H4 p, p, _, 4, rfl, w5, by omega, by decide, by decide, fun r H6 r0 r1 w6 => ?_⟩
    refine ⟨r, rfl, by omega, by omega, fun D hD => ?_⟩
    have gD := ext_none w6.ext hD
    refine lc_range (n := r.toNat) (lo := 0) (fun j H' => ∃ cs : List Nat, cs.length = j ∧ (∀ c ∈ cs, c ∈ z.cps.toList) ∧ WP (upd (butP H4 p) D (.lst (cs.map fun c => V.str ⟨#[c]⟩))) p (k + 1 + 1 + j) H') ⟨[], rfl, fun _ z => (nomatch z), w6.new hD⟩ (fun j H' hj h => ?_) (fun H' h => ?_)
    · obtain ⟨cs, hc, hb, wi⟩ := h
      refine ⟨rfl, ?_⟩
      refine ⟨_, rfl, _, rfl, _, p, z, _, rfl, wi, by omega, z0, by omega, fun c H2 hc2 w2 => ?_⟩
      refine ⟨_, w2.ext _ _ upd_same, by rw [List.length_map]; exact Nat.lt_trans (by omega : cs.length < 10) (by decide), ?_⟩
      refine ⟨cs ++ [c], by rw [List.length_append]; exact congrArg Nat.succ hc, fun x hx => ?_, ?_⟩
      · rcases List.mem_append.mp hx with hx | hx
        · exact hb x hx
        · rw [List.mem_singleton.mp hx]
          exact hc2
      · rw [List.map_append]
        exact WP.over w2 gD
    · obtain ⟨cs, hc, hb, wi⟩ := h
      have xG : Ext (butP H4 p) (upd (butP H4 p) D (.lst (cs.map fun c => V.str ⟨#[c]⟩))) := ext_upd gD
      have fD : upd (butP H4 p) D (.lst (cs.map fun c => V.str ⟨#[c]⟩)) D = some (.lst (cs.map fun c => V.str ⟨#[c]⟩)) := upd_same
      generalize upd (butP H4 p) D (.lst (cs.map fun c => V.str ⟨#[c]⟩)) = G1 at wi xG fD
      have em : (cs.map fun c => (⟨#[c]⟩ : Str)).map V.str = cs.map fun c => V.str ⟨#[c]⟩ := by rw [List.map_map]; rfl
      refine ⟨"", D, cs.map fun c => ⟨#[c]⟩, rfl, rfl, .inl (by rw [em]; exact SqL.of (wi.ext _ _ fD)), ?_, ?_⟩
      · rw [sum_one]
        show cs.length + (cs.map _).length * 0 ≤ 16777216
        omega
      rw [join_cs]
      refine ⟨by show 3 ≤ sizeLine; decide, fun t2 ht2 => ?_⟩
      obtain ⟨G2, x2, f2, w2⟩ := wi.newG (.tup [.str name, th, .str ⟨cs.toArray⟩]) ht2
      have XG := xG.trans x2
      have cl : cs.length ≤ 3 := by omega
      refine q t2 th ⟨cs.toArray⟩ _ ((KeepB.ofN N4).trans (KeepB.ofW XG w2)) (Tabs.ofW T4 pl4 XG w2) (w2.mono (by omega)).pot (w2.ext _ _ f2) (by show cs.toArray.size ≤ 3; rw [List.size_toArray]; exact cl) (fun c hc' => zc c (hb c ?_)) sth
      simpa using hc'
end

end K25

namespace K25
open PySem PySem.Spec PyProof.Rows L2 L2.TP RZ
/-- it may stand for a work -/
def IA (G : Hp) (v : V) : Prop := ∃ wi : WI, wi.At G v
theorem ia_more {G G' : Hp} {acc : List V} {v : V} (A : ∀ u ∈ acc, IA G u) (x : Ext G G') (i : IA G' v) : ∀ u ∈ acc ++ [v], IA G' u := fun u hu => by
  rcases List.mem_append.mp hu with h | h
  · obtain ⟨wi, h⟩ := A u h
    exact ⟨wi, h.ext x⟩
  · rw [List.mem_singleton.mp h]
    exact i
theorem ia_ext {G G' : Hp} {acc : List V} (A : ∀ u ∈ acc, IA G u) (x : Ext G G') : ∀ u ∈ acc, IA G' u := fun u hu => by
  obtain ⟨wi, h⟩ := A u hu
  exact ⟨wi, h.ext x⟩
theorem ws_of {G : Hp} : ∀ {xs : List V}, (∀ v ∈ xs, IA G v) → ∃ ws : List WI, WsAt G xs ws
  | [], _ => ⟨[], trivial⟩
  | x :: xs, h => by
    obtain ⟨wi, hw⟩ := h x List.mem_cons_self
    obtain ⟨ws, hs⟩ := ws_of fun v hv => h v (List.mem_cons_of_mem _ hv)
    exact ⟨wi :: ws, hw, hs⟩
theorem wv_tup {G : Hp} {a : Addr} {xs : List V} (h : G a = some (.tup xs)) (A : ∀ v ∈ xs, IA G v) (l : xs.length ≤ 10) : ∃ wv : WV, wv.At G (.ref a) := by
  obtain ⟨ws, hs⟩ := ws_of A
  exact ⟨.tup ws, a, xs, rfl, h, hs, by rw [← hs.len]; exact l⟩
theorem wt_all : ∀ cs : List Nat, PyData.weightAll (cs.map fun c => PyData.str ⟨#[c]⟩) = 2 * cs.length
  | [] => rfl
  | c :: cs => by
    show 1 + 1 + PyData.weightAll (cs.map fun c => PyData.str ⟨#[c]⟩) = 2 * (cs.length + 1)
    rw [wt_all cs]
    omega
theorem dq_sgns {H : Hp} : ∀ cs : List Nat, DqAll H (cs.map fun c => V.str ⟨#[c]⟩) (cs.map fun c => PyData.str ⟨#[c]⟩)
  | [] => .nil
  | c :: cs => .cons (.str _) (dq_sgns cs)
theorem wS {x : Str} (h : x.length ≤ 1000) : (PyData.str x).weight ≤ 100000 := by
  show x.cps.size ≤ 100000
  have : x.cps.size ≤ 1000 := h
  omega
theorem ia_tri {G : Hp} {a : Addr} {v0 th v2 : V} {d0 d2 : PyData} (h : G a = some (.tup [v0, th, v2])) (h0 : Dq G v0 d0) (h2 : Dq G v2 d2) (w0 : d0.weight ≤ 100000) (w2 : d2.weight ≤ 100000) : IA G (.ref a) := ⟨.tri d0 d2, a, v0, th, v2, rfl, h, h0, h2, w0, w2⟩
section
variable {P : Program} {w : World} {K : PySem.W.Frag} {mg : Str → Option Value} {base : Heap}
/-- a drawn work -/
def TriOk (H : Hp) (v : V) : Prop := ∃ (a : Addr) (name : Str) (th : V) (ks : Str), v = .ref a ∧ H a = some (.tup [.str name, th, .str ks]) ∧ name.length ≤ 8 ∧ ks.length ≤ 3
def spBent : Sp := fun vs H Q _ => ∃ (G : Hp) (p a : Addr) (k : Nat) (xs : List V), vs = [.ref p, .ref a] ∧ WP G p k H ∧ k ≤ 50000 ∧ G a = some (.tup xs) ∧ 1 ≤ xs.length ∧ xs.length ≤ 3 ∧ (∀ v ∈ xs, TriOk G v) ∧
  ∀ (v : V) (wv : WV) (G' H' : Hp), Ext G G' → WP G' p (k + 3) H' → wv.At G' v → Q v H'
theorem ok__law_bent_works (T : Tx P K mg) : FnOk P w K mg base CX0 4 T.F__law_bent_works T.fd__law_bent_works ["_law_pot_here", "_law_works"] spBent := by
  refine T._law_bent_works_ok.ok sc__law_bent_works (fun vs H Q E h => ?_) (fun cdv A outer s H vs Q E hr h => ?_)
  · obtain ⟨G, p, a, k, xs, rfl, _⟩ := h
    rfl
  · obtain ⟨G, p, a, k, xs, rfl, wp, hk, ha, l1, l3, hx, q⟩ := h
    have nd := sc__law_bent_works.nd
    refine ⟨_, (pss_cons (ps_set (i := 2) nd rfl (Or.inl rfl) (pe_call (ok__law_take T) (hr.mono (by decide)) rfl T._law_take_mg T._law_take_ok.kp T.b__law_take .nil pass0 (pa_cons (pv 0) (pa_cons (pe_callB call_len_seq (by rfl) T.b_len (by decide +kernel) (pa_cons (pv 1) pa_nil)) pa_nil)))) (pss_cons (ps_asg (pe_ix ix_tup (pv 1) (pv 2) (fun _ _ => rfl)) (pg_tup rfl (pgs_cons (pg_name (i := 3) nd rfl (Or.inl rfl)) (pgs_cons (pg_name (i := 4) nd rfl (Or.inl rfl)) (pgs_cons (pg_name (i := 5) nd rfl (Or.inl rfl)) pgs_nil))))) (pss_cons (ps_set (i := 6) nd rfl (Or.inl rfl) (pe_lst (pa_cons (pe_tup (pa_cons (pv 3) (pa_cons (pv 4) pa_nil))) (pa_cons (pe_lst (pa_cons (pv 3) (pa_cons (pv 4) (pa_cons (pv 5) pa_nil)))) (pa_cons (pe_tup (pa_cons (pv 3) (pa_cons (pv 4) (pa_cons (pv 5) (pa_cons pe_str pa_nil))))) (pa_cons (pe_tup (pa_cons (pe_upper (pv 3)) (pa_cons (pv 4) (pa_cons (pv 5) pa_nil)))) pa_nil)))))) (pss_cons (ps_set (i := 6) nd rfl (Or.inl rfl) (pe_op op_cat (pv 6) (pe_lst (pa_cons (pe_tup (pa_cons (pv 3) (pa_cons (pv 4) (pa_cons (pe_op op_add_str (pv 5) pe_str) pa_nil)))) (pa_cons (pe_tup (pa_cons (pv 3) (pa_cons (pv 4) (pa_cons (pe_op op_add_str (pv 5) pe_str) pa_nil)))) (pa_cons (pe_tup (pa_cons (pv 3) (pa_cons (pv 4) (pa_cons (pe_op op_add_str (pv 5) pe_str) pa_nil)))) (pa_cons pe_non (pa_cons (pv 3) pa_nil)))))))) (pss_cons (ps_set (i := 6) nd rfl (Or.inl rfl) (pe_op op_cat (pv 6) (pe_lst (pa_cons (pe_tup (pa_cons (pv 3) (pa_cons (pv 4) (pa_cons (pe_callTy (call_list_s rfl) (by rfl) T.b_list (by decide +kernel) (pa_cons (pv 5) pa_nil)) pa_nil)))) (pa_cons (pe_tup (pa_cons (pv 3) (pa_cons (pv 4) (pa_cons pe_non pa_nil)))) (pa_cons (pe_tup (pa_cons (pe_op op_add_str (pv 3) pe_str) (pa_cons (pv 4) (pa_cons (pv 5) pa_nil)))) pa_nil)))))) (pss_cons (ps_set (i := 6) nd rfl (Or.inl rfl) (pe_op op_cat (pv 6) (pe_lst (pa_cons (pe_tup (pa_cons pe_str (pa_cons (pv 4) (pa_cons (pv 5) pa_nil)))) (pa_cons (pe_tup (pa_cons pe_int (pa_cons (pv 4) (pa_cons (pv 5) pa_nil)))) pa_nil))))) (pss_cons (ps_set (i := 7) nd rfl (Or.inl rfl) (pe_op op_catA (pe_op op_catA (pe_slice sl_tupA (pv 1) po_none (po_some (pv 2))) (pe_tup (pa_cons (pe_call (ok__law_of T) (hr.mono (by decide)) rfl T._law_of_mg T._law_of_ok.kp T.b__law_of .nil pass0 (pa_cons (pv 0) (pa_cons (pv 6) pa_nil))) pa_nil))) (pe_slice sl_tupA (pv 1) (po_some (pe_op op_add (pv 2) pe_int)) po_none))) (pss_one (ps_ret (pe_call (ok__law_of T) (hr.mono (by decide)) rfl T._law_of_mg T._law_of_ok.kp T.b__law_of .nil pass0 (pa_cons (pv 0) (pa_cons (pe_lst (pa_cons (pv 7) (pa_cons (pv 7) (pa_cons (pv 7) (pa_cons (pv 7) (pa_cons (pe_revT (pv 1)) (pa_cons (pe_op op_catA (pv 1) (pe_slice sl_tupA (pv 1) po_none (po_some pe_int))) (pa_cons (pe_callTy call_list_of (by rfl) T.b_list (by decide +kernel) (pa_cons (pv 1) pa_nil)) (pa_cons (pe_tup pa_nil) (pa_cons pe_non pa_nil)))))))))) pa_nil)))))))))))), ?_⟩
    have s24 : (1000 : Nat) ≤ sizeLine := by decide
    refine ⟨_, rfl, _, rfl, a, _, rfl, .inr (SqT.of (wp.ext _ _ ha)), G, p, k, (xs.length : Int), rfl, wp, by omega, by omega, by omega, fun r H1 r0 r1 w1 => ?_⟩
    obtain ⟨j, rfl⟩ : ∃ j : Nat, r = (j : Int) := ⟨r.toNat, by omega⟩
    have hj : j < xs.length := by omega
    have hje : xs[j]? = some xs[j] := List.getElem?_eq_getElem hj
    obtain ⟨ta, name, th, ks, ev, ft, nl, kl⟩ := hx xs[j] (List.getElem_mem hj)
    refine ⟨_, rfl, _, rfl, a, xs, (j : Int), _, rfl, rfl, SqT.of (w1.ext _ _ ha), atI_nat hje, ?_⟩
    refine ⟨ta, _, ev, SqT.of (w1.ext _ _ ft), rfl, _, _, rfl, _, _, rfl, _, _, rfl, rfl, ?_⟩
    have wn : (PyData.str name).weight ≤ 100000 := wS (by omega)
    have wk : (PyData.str ks).weight ≤ 100000 := wS (by omega)
    have A0 : ∀ u ∈ ([] : List V), IA G u := fun _ h => nomatch h
    -- the first four
    refine ⟨_, rfl, _, rfl, by show 2 ≤ sizeLine; decide, fun q1 hq1 => ?_⟩
    obtain ⟨G1, x1, f1, w2⟩ := w1.newG (.tup [.str name, th]) hq1
    have A1 := ia_more A0 x1 ⟨.tup 2, q1, _, rfl, f1, rfl, by decide, by decide⟩
    refine ⟨_, rfl, _, rfl, _, rfl, by show 3 ≤ sizeLine; decide, fun q2 hq2 => ?_⟩
    obtain ⟨G2, x2, f2, w3⟩ := w2.newG (.lst [.str name, th, .str ks]) hq2
    have A2 := ia_more A1 x2 ⟨.oth (.list []), rfl, .inl ⟨q2, _, rfl, f2, rfl⟩⟩
    refine ⟨_, rfl, _, rfl, _, rfl, by show 4 ≤ sizeLine; decide, fun q3 hq3 => ?_⟩
    obtain ⟨G3, x3, f3, w4⟩ := w3.newG (.tup [.str name, th, .str ks, .str ""]) hq3
    have A3 := ia_more A2 x3 ⟨.tup 4, q3, _, rfl, f3, rfl, by decide, by decide⟩
    refine ⟨_, rfl, ⟨_, rfl⟩, name, rfl, rfl, by omega, _, rfl, _, rfl, by show 3 ≤ sizeLine; decide, fun q4 hq4 => ?_⟩
    obtain ⟨G4, x4, f4, w5⟩ := w4.newG (.tup [.str (Txt.upper name), th, .str ks]) hq4
    have A4 := ia_more A3 x4 (ia_tri f4 (.str _) (.str _) (wS (by have := PyProof.Rows.len_upper name; omega)) wk)
    refine ⟨by show 4 ≤ sizeLine; decide, fun l5 hl5 => ?_⟩
    obtain ⟨G5, x5, f5, w6⟩ := w5.newG (.lst [.ref q1, .ref q2, .ref q3, .ref q4]) hl5
    have A5 := ia_ext A4 x5
    have XG := x1.trans (x2.trans (x3.trans (x4.trans x5)))
    replace ha := XG _ _ ha
    have hxA : ∀ v ∈ xs, IA G5 v := fun v hv => by
      obtain ⟨a', n', th', ks', rfl, f', nl', kl'⟩ := hx v hv
      exact ia_tri (XG _ _ f') (.str _) (.str _) (wS (by omega)) (wS (by omega))
    clear x1 x2 x3 x4 x5 f1 f2 f3 f4 w1 w2 w3 w4 w5 A0 A1 A2 A3 A4 hx ft
    -- five more
    refine ⟨_, rfl, _, rfl, _, rfl, _, rfl, ks, "n", rfl, rfl, Nat.le_trans (by show ks.length + 1 ≤ 1000; omega) s24, by show 3 ≤ sizeLine; decide, fun t1 ht1 => ?_⟩
    obtain ⟨G1, x1, f1, w1⟩ := w6.newG (.tup [.str name, th, .str (ks ++ "n")]) ht1
    have B0 : ∀ u ∈ ([] : List V), IA G5 u := fun _ h => nomatch h
    have B1 := ia_more B0 x1 (ia_tri f1 (.str _) (.str _) wn (wS (by rw [PySem.Str.length_append]; show ks.length + 1 ≤ 1000; omega)))
    refine ⟨_, rfl, _, rfl, _, rfl, ks, "nnn", rfl, rfl, Nat.le_trans (by show ks.length + 3 ≤ 1000; omega) s24, by show 3 ≤ sizeLine; decide, fun t2 ht2 => ?_⟩
    obtain ⟨G2, x2, f2, w2⟩ := w1.newG (.tup [.str name, th, .str (ks ++ "nnn")]) ht2
    have B2 := ia_more B1 x2 (ia_tri f2 (.str _) (.str _) wn (wS (by rw [PySem.Str.length_append]; show ks.length + 3 ≤ 1000; omega)))
    refine ⟨_, rfl, _, rfl, _, rfl, ks, "r", rfl, rfl, Nat.le_trans (by show ks.length + 1 ≤ 1000; omega) s24, by show 3 ≤ sizeLine; decide, fun t3 ht3 => ?_⟩
    obtain ⟨G3, x3, f3, w3⟩ := w2.newG (.tup [.str name, th, .str (ks ++ "r")]) ht3
    have B3 := ia_more B2 x3 (ia_tri f3 (.str _) (.str _) wn (wS (by rw [PySem.Str.length_append]; show ks.length + 1 ≤ 1000; omega)))
    have B4 := ia_more (v := .non) B3 Ext.rfl' ⟨.oth .none, rfl, .inr (.inl ⟨rfl, rfl⟩)⟩
    have B5 := ia_more (v := .str name) B4 Ext.rfl' ⟨.oth (.str name), rfl, .inr (.inr ⟨name, rfl, rfl⟩)⟩
    refine ⟨_, rfl, by show 5 ≤ sizeLine; decide, fun l6 hl6 => ?_⟩
    obtain ⟨G6, x6, f6, w7⟩ := w3.newG (.lst [.ref t1, .ref t2, .ref t3, .non, .str name]) hl6
    have x56 := x1.trans (x2.trans (x3.trans x6))
    refine ⟨l5, l6, _, _, rfl, rfl, w7.ext _ _ (x56 _ _ f5), w7.ext _ _ f6, by show 9 ≤ sizeLine; decide, fun l7 hl7 => ?_⟩
    obtain ⟨G7, x7, f7, w8⟩ := w7.newG (.lst ([.ref q1, .ref q2, .ref q3, .ref q4] ++ [.ref t1, .ref t2, .ref t3, .non, .str name])) hl7
    have A7 : ∀ v ∈ [V.ref q1, .ref q2, .ref q3, .ref q4] ++ [V.ref t1, .ref t2, .ref t3, .non, .str name], IA G7 v := fun v hv => by
      rcases List.mem_append.mp hv with h | h
      · exact ia_ext A5 (x56.trans x7) v h
      · exact ia_ext B5 (x6.trans x7) v h
    have L7 : ([V.ref q1, .ref q2, .ref q3, .ref q4] ++ [V.ref t1, .ref t2, .ref t3, .non, .str name]).length = 9 := rfl
    generalize [V.ref q1, .ref q2, .ref q3, .ref q4] ++ [V.ref t1, V.ref t2, V.ref t3, V.non, V.str name] = M7 at f7 w8 A7 L7 ⊢
    have X7 := x56.trans x7
    replace XG := XG.trans X7
    replace ha := X7 _ _ ha
    replace hxA := ia_ext hxA X7
    generalize upd _ l7 (.lst M7) = H7 at w8 ⊢
    clear x1 x2 x3 x6 x56 x7 X7 f1 f2 f3 f5 f6 w1 w2 w3 w6 w7 A5 B1 B2 B3 B4 B5
    -- three more
    refine ⟨_, rfl, _, rfl, _, rfl, _, rfl, ks, rfl, Nat.le_trans (show ks.cps.size ≤ 3 from kl) (by decide), fun l1 hl1 => ?_⟩
    obtain ⟨G1, x1, f1, w1⟩ := w8.newG (.lst (sgns ks)) hl1
    refine ⟨by show 3 ≤ sizeLine; decide, fun t1 ht1 => ?_⟩
    obtain ⟨G2, x2, f2, w2⟩ := w1.newG (.tup [.str name, th, .ref l1]) ht1
    have B0 : ∀ u ∈ ([] : List V), IA G1 u := fun _ h => nomatch h
    have kz : ks.cps.toList.length ≤ 3 := by rw [Array.length_toList]; exact kl
    have B1 := ia_more B0 x2 (ia_tri f2 (.str _) (.lst (x2 _ _ f1) (dq_sgns ks.cps.toList)) wn (by show PyData.weightAll _ ≤ 100000; rw [wt_all]; omega))
    refine ⟨_, rfl, _, rfl, by show 3 ≤ sizeLine; decide, fun t2 ht2 => ?_⟩
    obtain ⟨G3, x3, f3, w3⟩ := w2.newG (.tup [.str name, th, .non]) ht2
    have B2 := ia_more B1 x3 (ia_tri f3 (.str _) .non wn (by decide))
    refine ⟨_, rfl, name, "zzzzzzzz", rfl, rfl, Nat.le_trans (by show name.length + 8 ≤ 1000; omega) s24, _, rfl, _, rfl, by show 3 ≤ sizeLine; decide, fun t3 ht3 => ?_⟩
    obtain ⟨G4, x4, f4, w4⟩ := w3.newG (.tup [.str (name ++ "zzzzzzzz"), th, .str ks]) ht3
    have B3 := ia_more B2 x4 (ia_tri f4 (.str _) (.str _) (wS (by rw [PySem.Str.length_append]; show name.length + 8 ≤ 1000; omega)) wk)
    refine ⟨by show 3 ≤ sizeLine; decide, fun l6 hl6 => ?_⟩
    obtain ⟨G6, x6, f6, w7⟩ := w4.newG (.lst [.ref t1, .ref t2, .ref t3]) hl6
    have x76 := x1.trans (x2.trans (x3.trans (x4.trans x6)))
    refine ⟨l7, l6, _, _, rfl, rfl, w7.ext _ _ (x76 _ _ f7), w7.ext _ _ f6, by rw [L7]; show 12 ≤ sizeLine; decide, fun l8 hl8 => ?_⟩
    obtain ⟨G8, x8, f8, w9⟩ := w7.newG (.lst (M7 ++ [.ref t1, .ref t2, .ref t3])) hl8
    have A8 : ∀ v ∈ M7 ++ [V.ref t1, .ref t2, .ref t3], IA G8 v := fun v hv => by
      rcases List.mem_append.mp hv with h | h
      · exact ia_ext A7 (x76.trans x8) v h
      · exact ia_ext B3 (x6.trans x8) v h
    have L8 : (M7 ++ [V.ref t1, .ref t2, .ref t3]).length = 12 := by rw [List.length_append, L7]; rfl
    generalize M7 ++ [V.ref t1, .ref t2, .ref t3] = M8 at f8 w9 A8 L8 ⊢
    have X8 := x76.trans x8
    replace XG := XG.trans X8
    replace ha := X8 _ _ ha
    replace hxA := ia_ext hxA X8
    generalize upd _ l8 (.lst M8) = H8 at w9 ⊢
    clear x1 x2 x3 x4 x6 x76 x8 X8 f1 f2 f3 f4 f6 f7 w1 w2 w3 w4 w7 w8 A7 B1 B2 B3
    -- two more
    refine ⟨_, rfl, _, rfl, _, rfl, by show 3 ≤ sizeLine; decide, fun t1 ht1 => ?_⟩
    obtain ⟨G1, x1, f1, w1⟩ := w9.newG (.tup [.str "", th, .str ks]) ht1
    have B0 : ∀ u ∈ ([] : List V), IA G8 u := fun _ h => nomatch h
    have B1 := ia_more B0 x1 (ia_tri f1 (.str _) (.str _) (by decide) wk)
    refine ⟨_, rfl, _, rfl, by show 3 ≤ sizeLine; decide, fun t2 ht2 => ?_⟩
    obtain ⟨G2, x2, f2, w2⟩ := w1.newG (.tup [.int 0, th, .str ks]) ht2
    have B2 := ia_more B1 x2 (ia_tri f2 (.int 0) (.str _) (by decide) wk)
    refine ⟨by show 2 ≤ sizeLine; decide, fun l6 hl6 => ?_⟩
    obtain ⟨G6, x6, f6, w7⟩ := w2.newG (.lst [.ref t1, .ref t2]) hl6
    have x86 := x1.trans (x2.trans x6)
    refine ⟨l8, l6, _, _, rfl, rfl, w7.ext _ _ (x86 _ _ f8), w7.ext _ _ f6, by rw [L8]; show 14 ≤ sizeLine; decide, fun l9 hl9 => ?_⟩
    obtain ⟨G9, x9, f9, w10⟩ := w7.newG (.lst (M8 ++ [.ref t1, .ref t2])) hl9
    have A9 : ∀ v ∈ M8 ++ [V.ref t1, .ref t2], IA G9 v := fun v hv => by
      rcases List.mem_append.mp hv with h | h
      · exact ia_ext A8 (x86.trans x9) v h
      · exact ia_ext B2 (x6.trans x9) v h
    have L9 : (M8 ++ [V.ref t1, .ref t2]).length = 14 := by rw [List.length_append, L8]; rfl
    generalize M8 ++ [V.ref t1, .ref t2] = M9 at f9 w10 A9 L9 ⊢
    have X9 := x86.trans x9
    replace XG := XG.trans X9
    replace ha := X9 _ _ ha
    replace hxA := ia_ext hxA X9
    generalize upd _ l9 (.lst M9) = H9 at w10 ⊢
    clear x1 x2 x6 x86 x9 X9 f1 f2 f6 f8 w1 w2 w7 w9 A8 B1 B2
    -- bent
    refine ⟨_, rfl, _, rfl, (j : Int), rfl, slTo_w (m := j) w10 ha fun u1 G11 H11 x11 w11 f11 => ?_⟩
    refine ⟨_, rfl, _, rfl, G11, p, l9, _, M9, rfl, w11, by omega, SqL.of (x11 _ _ f9), by omega, by omega, fun i v H12 hv w12 => ?_⟩
    refine ⟨by show 1 ≤ sizeLine; decide, fun u2 hu2 => ?_⟩
    obtain ⟨G13, x13, f13, w13⟩ := w12.newG (.tup [v]) hu2
    have iv : IA G13 v := ia_ext A9 (x11.trans x13) v (List.mem_of_getElem? hv)
    refine cat_w w13 (x13 _ _ f11) f13 (by rw [List.length_take]; show min j xs.length + 1 ≤ 1000; omega) fun u3 G14 H14 x14 w14 f14 => ?_
    refine ⟨_, rfl, _, rfl, _, _, rfl, rfl, ((j + 1 : Nat) : Int), rfl, ?_⟩
    unfold tNoPart
    dsimp only
    have x914 := x11.trans (x13.trans x14)
    refine slFrom_w (m := j + 1) w14 (x914 _ _ ha) fun u4 G15 H15 x15 w15 f15 => ?_
    refine cat_w w15 (x15 _ _ f14) f15 (by rw [List.length_append, List.length_take, List.length_drop]; show min j xs.length + 1 + (xs.length - (j + 1)) ≤ 1000; omega) fun ub G16 H16 x16 w16 f16 => ?_
    have x1316 := x14.trans (x15.trans x16)
    have x916 := x914.trans (x15.trans x16)
    have hxB := ia_ext hxA x916
    have haB := x916 _ _ ha
    have AB : ∀ u ∈ xs.take j ++ [v] ++ xs.drop (j + 1), IA G16 u := fun u hu => by
      rcases List.mem_append.mp hu with h | h
      · rcases List.mem_append.mp h with h | h
        · exact hxB u (List.mem_of_mem_take h)
        · rw [List.mem_singleton.mp h]
          obtain ⟨wi, h⟩ := iv
          exact ⟨wi, h.ext x1316⟩
      · exact hxB u (List.mem_of_mem_drop h)
    have LB : (xs.take j ++ [v] ++ xs.drop (j + 1)).length ≤ 10 := by
      rw [List.length_append, List.length_append, List.length_take, List.length_drop]
      show min j xs.length + 1 + (xs.length - (j + 1)) ≤ 10
      omega
    obtain ⟨vb, hvb⟩ := wv_tup f16 AB LB
    replace XG := XG.trans x916
    clear x11 x13 x14 x15 x16 x914 x916 x1316 f9 f11 f13 f14 f15 w10 w11 w12 w13 w14 w15 A9 hxA ha iv
    -- what is told
    refine ⟨_, rfl, _, rfl, _, rfl, _, rfl, _, rfl, _, rfl, a, xs, rfl, SqT.of (w16.ext _ _ haB), fun u5 hu5 => ?_⟩
    obtain ⟨G17, x17, f17, w17⟩ := w16.newG (.tup xs.reverse) hu5
    refine ⟨_, rfl, _, rfl, 1, rfl, slTo_w (m := 1) w17 (x17 _ _ haB) fun u6 G18 H18 x18 w18 f18 => ?_⟩
    refine cat_w w18 (x18 _ _ (x17 _ _ haB)) f18 (by rw [List.length_take]; omega) fun u7 G19 H19 x19 w19 f19 => ?_
    have x1619 := x17.trans (x18.trans x19)
    refine ⟨_, rfl, a, xs, rfl, .inr (SqT.of (w19.ext _ _ (x1619 _ _ haB))), fun l10 hl10 => ?_⟩
    obtain ⟨G20, x20, f20, w20⟩ := w19.newG (.lst xs) hl10
    refine ⟨by show 0 ≤ sizeLine; decide, fun t11 ht11 => ?_⟩
    obtain ⟨G21, x21, f21, w21⟩ := w20.newG (.tup []) ht11
    refine ⟨by show 9 ≤ sizeLine; decide, fun l12 hl12 => ?_⟩
    obtain ⟨G22, x22, f22, w22⟩ := w21.newG (.lst [.ref ub, .ref ub, .ref ub, .ref ub, .ref u5, .ref u7, .ref l10, .ref t11, .non]) hl12
    have x1922 := x20.trans (x21.trans x22)
    have x1622 := x1619.trans x1922
    have x1722 := (x18.trans x19).trans x1922
    refine ⟨G22, p, l12, _, _, rfl, w22, by omega, SqL.of f22, (by show 0 < 9; decide), (by show 9 ≤ 1000; decide), fun i v' H23 hv' w23 => ?_⟩
    have hxC := ia_ext hxB x1622
    obtain ⟨wv, hwv⟩ : ∃ wv : WV, wv.At G22 v' := by
      have ub' : ∃ wv : WV, wv.At G22 (.ref ub) := ⟨vb, hvb.extN (LamX.ExtN.of x1622)⟩
      match i, hv' with
      | 0, h => cases h; exact ub'
      | 1, h => cases h; exact ub'
      | 2, h => cases h; exact ub'
      | 3, h => cases h; exact ub'
      | 4, h =>
        cases h
        exact wv_tup (x1722 _ _ f17) (fun v hv => hxC v (List.mem_reverse.mp hv)) (by rw [List.length_reverse]; omega)
      | 5, h =>
        cases h
        refine wv_tup (x1922 _ _ f19) (fun v hv => ?_) (by rw [List.length_append, List.length_take]; omega)
        rcases List.mem_append.mp hv with h | h
        · exact hxC v h
        · exact hxC v (List.mem_of_mem_take h)
      | 6, h =>
        cases h
        exact ⟨.oth (.list []), rfl, .inl ⟨l10, _, rfl, x22 _ _ (x21 _ _ f20), rfl⟩⟩
      | 7, h =>
        cases h
        exact wv_tup (x22 _ _ f21) (fun _ h => nomatch h) (Nat.zero_le _)
      | 8, h =>
        cases h
        exact ⟨.oth .none, rfl, .inr ⟨rfl, rfl⟩⟩
      | n + 9, h => simp at h
    exact q v' wv G22 H23 (XG.trans x1622) w23 hwv
end

end K25

namespace K25
open PySem PySem.Spec PyProof.Rows L2 L2.TP RZ
section
variable {P : Program} {w : World} {K : PySem.W.Frag} {mg : Str → Option Value} {base : Heap}
def spTold (CW CS : Addr) : Sp := fun vs H Q _ => ∃ (x : Addr) (v r : V) (dr : PyData) (L : Lore) (wv : WV), vs = [.ref x, v, r] ∧ WAt CW H x L ∧ wv.At H v ∧ Dq H r dr ∧
  (worksB (!L.rs.isEmpty) wv = false → ∀ t H', Ext H H' → H' t = some (.tup [.str "refused", v]) → Q (.ref t) H') ∧
  (worksB (!L.rs.isEmpty) wv = true → fromD 1 2 dr = false → ∀ t H', Ext H H' → H' t = some (.tup [.str "refused", r]) → Q (.ref t) H') ∧
  (worksB (!L.rs.isEmpty) wv = true → fromD 1 2 dr = true → ∀ t y dy H', Ext H H' → H' t = some (.tup [.str "told", .ref y]) → H' y = some (.ins CS dy (sf (.ref x) v r)) → Q (.ref t) H')
theorem ok__law_told (T : Tx P K mg) : FnOk P w K mg base CX0 9 T.F__law_told T.fd__law_told ["_law_world_here", "_law_works", "_law_room"] (spTold T.C_World T.C_Setup) := by
  refine T._law_told_ok.ok sc__law_told (fun vs H Q E h => ?_) (fun cdv A outer s H vs Q E hr h => ?_)
  · obtain ⟨x, v, r, dr, L, wv, rfl, _⟩ := h
    rfl
  · obtain ⟨x, v, r, dr, L, wv, rfl, hW, hv, hr', q1, q2, q3⟩ := h
    have nd := sc__law_told.nd
    refine ⟨_, (pss_cons (ps_asg (pe_tup (pa_cons pe_non (pa_cons pe_non pa_nil))) (pg_tup rfl (pgs_cons (pg_name (i := 3) nd rfl (Or.inl rfl)) (pgs_cons (pg_name (i := 4) nd rfl (Or.inl rfl)) pgs_nil)))) (pss_cons (ps_try_keep (i := 5) rfl rfl nd rfl rfl rfl ⟨rfl, by decide, .inl T.TapeError_mg⟩ takes0 (fun W pn xe tk _ => pss_one (ps_set (i := 3) nd rfl (Or.inl rfl) (pe_makeS T.Setup_mk (ok_Setup__init__ T) (hr.mono (by decide)) (by rfl) T.Setup_mg T.b_Setup___init__ (fun σ => passAt tk σ) (pa_cons (pv 0) (pa_cons (pv 1) (pa_cons (pv 2) pa_nil)))))) (fun a oe cls d pn hz hf => pss_one (ps_set (i := 4) nd rfl (Or.inl rfl) (pv 5)))) (pss_cons (ps_if (pt_cmpR op_isN (pv 4) pe_non (nomark _)) (pss_one (ps_ret (pe_tup (pa_cons pe_str (pa_cons (pv 3) pa_nil))))) pss_nil) (pss_cons (ps_if (PW.pt (pw_or (pt_not (pt_val (pe_callB call_isV (by rfl) T.b_isinstance (by decide +kernel) (pa_cons (pv 4) (pa_cons (pe_glob (v := .ref T.C_BadSetup) rfl T.BadSetup_mg rfl) pa_nil))))) (pw_or1 (pt_not (pt_val (pe_callB call_isV (by rfl) T.b_isinstance (by decide +kernel) (pa_cons (pv 4) (pa_cons (pe_bltn (by rfl) T.b_ValueError (by decide +kernel) (v := .ty "ValueError") rfl) pa_nil)))))))) (pss_one (ps_ret (pe_tup (pa_cons pe_str (pa_cons pe_non pa_nil))))) pss_nil) (pss_one (ps_ret (pe_tup (pa_cons pe_str (pa_cons (pe_xfV (pv 4)) pa_nil))))))))), ?_⟩
    refine ⟨by show 2 ≤ sizeLine; decide, fun t0 ht0 => ?_⟩
    have X0 : Ext H _ := ext_upd (o := .tup [V.non, .non]) ht0
    refine ⟨t0, _, rfl, SqT.of upd_same, rfl, _, _, rfl, _, _, rfl, rfl, ?_⟩
    generalize upd H t0 (.tup [V.non, .non]) = H0 at X0 ⊢
    refine ⟨_, rfl, _, rfl, _, rfl, ?_⟩
    intro y dy ny ndy ne
    have X1 : Ext H0 (upd (upd H0 dy (.own y)) y (.ins T.C_Setup dy [])) := fun b o hb => by
      have n1 : b ≠ y := fun z => by rw [z, ny] at hb; cases hb
      have n2 : b ≠ dy := fun z => by rw [z, ndy] at hb; cases hb
      rw [upd_ne n1, upd_ne n2]
      exact hb
    have X01 := X0.trans X1
    refine ⟨y, dy, x, v, r, dr, L, wv, rfl, upd_same, hW.ext X01, hv.extN (LamX.ExtN.of X01), hr'.ext X01, fun e H2 X2 dd hdd => ?_, fun e1 e2 H2 X2 dd hdd => ?_, fun e1 e2 H2 X2 f2 => ⟨rfl, ?_⟩⟩
    · refine ⟨true, T.TapeError_ex _ _ T.BadSetup_ev.sT, fun _ a na => ?_, fun z => nomatch z⟩
      refine ⟨_, rfl, fun _ => ?_⟩
      have xd := ext_upd (o := HO.xd [("value", v)]) hdd
      have xa := ext_upd (o := ExV (.ref T.C_BadSetup) (some dd) a) na
      have ea : upd (upd H2 dd (.xd [("value", v)])) a (ExV (.ref T.C_BadSetup) (some dd) a) a = some (ExV (.ref T.C_BadSetup) (some dd) a) := upd_same
      have ed := xa _ _ (show upd H2 dd (.xd [("value", v)]) dd = some (.xd [("value", v)]) from upd_same)
      have X4 := xd.trans xa
      generalize upd (upd H2 dd (.xd [("value", v)])) a (ExV (.ref T.C_BadSetup) (some dd) a) = H4 at ea ed X4 ⊢
      refine ⟨_, rfl, rfl, _, rfl, iteF ?_⟩
      refine ⟨_, rfl, a, T.C_BadSetup, dd, _, _, _, true, rfl, .own _, ea, ed, T.BadSetup_ev.ex, T.x_kBS, _, rfl, iteF ?_⟩
      refine ⟨_, rfl, a, T.C_BadSetup, dd, _, _, _, true, rfl, .ty _, ea, ed, T.BadSetup_ev.ex, T.BadSetup_ev.ve, _, rfl, iteF ?_⟩
      refine ⟨_, rfl, a, T.C_BadSetup, dd, _, v, rfl, ea, ed, T.BadSetup_ev.xf, T.BadSetup_ev.no, rfl, by show 2 ≤ sizeLine; decide, fun z hz => ?_⟩
      exact (q1 e) z _ ((X01.trans X2).trans (X4.trans (ext_upd hz))) upd_same
    · refine ⟨true, T.TapeError_ex _ _ T.BadSetup_ev.sT, fun _ a na => ?_, fun z => nomatch z⟩
      refine ⟨_, rfl, fun _ => ?_⟩
      have xd := ext_upd (o := HO.xd [("value", r)]) hdd
      have xa := ext_upd (o := ExV (.ref T.C_BadSetup) (some dd) a) na
      have ea : upd (upd H2 dd (.xd [("value", r)])) a (ExV (.ref T.C_BadSetup) (some dd) a) a = some (ExV (.ref T.C_BadSetup) (some dd) a) := upd_same
      have ed := xa _ _ (show upd H2 dd (.xd [("value", r)]) dd = some (.xd [("value", r)]) from upd_same)
      have X4 := xd.trans xa
      generalize upd (upd H2 dd (.xd [("value", r)])) a (ExV (.ref T.C_BadSetup) (some dd) a) = H4 at ea ed X4 ⊢
      refine ⟨_, rfl, rfl, _, rfl, iteF ?_⟩
      refine ⟨_, rfl, a, T.C_BadSetup, dd, _, _, _, true, rfl, .own _, ea, ed, T.BadSetup_ev.ex, T.x_kBS, _, rfl, iteF ?_⟩
      refine ⟨_, rfl, a, T.C_BadSetup, dd, _, _, _, true, rfl, .ty _, ea, ed, T.BadSetup_ev.ex, T.BadSetup_ev.ve, _, rfl, iteF ?_⟩
      refine ⟨_, rfl, a, T.C_BadSetup, dd, _, r, rfl, ea, ed, T.BadSetup_ev.xf, T.BadSetup_ev.no, rfl, by show 2 ≤ sizeLine; decide, fun z hz => ?_⟩
      exact (q2 e1 e2) z _ ((X01.trans X2).trans (X4.trans (ext_upd hz))) upd_same
    · have X3 : Ext H0 H2 := X2.made ny ndy
      refine ⟨_, rfl, rfl, _, rfl, iteT ?_⟩
      refine ⟨_, rfl, by show 2 ≤ sizeLine; decide, fun z hz => ?_⟩
      have X5 := ext_upd (o := .tup [.str "told", .ref y]) hz
      exact q3 e1 e2 z y dy _ (X0.trans (X3.trans X5)) upd_same (X5 _ _ f2)
end

end K25

namespace K25
open PySem PySem.Spec PyProof.Rows L2 L2.TP RZ
theorem op_neDK {X : Cx} {K : PySem.W.Frag} (h : X.K = K) (hu : X.A.units + 64 < cLine) : OpR X (compareOp .NotEq) (rNeD K) := by
  subst h
  exact op_neD hu
def rooms : List PyData := [.int 1, .int 2, .int 1, .int 2, .int 0, .int 3, .bool true, .none, .str "1", .tuple [.int 1]]
def sdR (d : PyData) : Bool := decide (d.depth ≤ 4) && decide (d.weight ≤ 60) && d.leavesShort 20 && d.showable
theorem sd_R {d : PyData} (h : sdR d = true) : Sd 4 60 d := by
  obtain ⟨h, h4⟩ := He.ba h
  obtain ⟨h, h3⟩ := He.ba h
  obtain ⟨h1, h2⟩ := He.ba h
  exact ⟨of_decide_eq_true h1, of_decide_eq_true h2, h3, h4⟩
theorem rooms_ok : ∀ d ∈ rooms, sdR d = true := by decide +kernel
theorem str_same {x : Str} : decide (V.str x = V.str x) = true := decide_eq_true rfl
def tup4 : List (List Str) := [["f"], ["f", "g"], ["a", "ab", "b"], ["do", "work"]]
theorem tup4_ok : ∀ nm ∈ tup4, (∀ x ∈ nm, x.length ≤ 8) ∧ 1 ≤ nm.length ∧ nm.length ≤ 3 := by decide +kernel
theorem rows_eq (L : Lore) : PyData.eqv (rowsD L.rs) (.tuple []) = L.rs.isEmpty := by
  cases e : L.rs with
  | nil => rfl
  | cons r rs => rfl
theorem rows_sh {L : Lore} (li : LoreIs L) : SeqAt.shaped (rowsD L.rs) = true := by
  refine shaped_pl (rows_pl li.sr) ?_
  have h : (loreD L).depth ≤ 4 := lore_depth
  have h2 : max 0 (max 0 (max (cellsD L.cs).depth (max (rowsD L.rs).depth (max (PyData.tuple (L.ls.map .str)).depth 0)))) + 1 ≤ 4 := h
  omega
theorem keep_tup {p : Addr} {H H' : Hp} {k : Nat} (kb : KeepB p H H') (hP : Pot H p k) {a : Addr} {xs : List V} (h : H a = some (.tup xs)) : H' a = some (.tup xs) := kb _ _ (fun z => by
  obtain ⟨_, _, _, e, _⟩ := hP.at_
  rw [z, e] at h
  cases h) h (fun _ z => by cases z)
theorem TriOk.keep {p : Addr} {H H' : Hp} {k : Nat} {v : V} (kb : KeepB p H H') (hP : Pot H p k) (h : TriOk H v) : TriOk H' v := by
  obtain ⟨a, name, th, ks, e, f, l⟩ := h
  exact ⟨a, name, th, ks, e, keep_tup kb hP f, l⟩
theorem TriOk.but {p : Addr} {H : Hp} {k : Nat} {v : V} (hP : Pot H p k) (h : TriOk H v) : TriOk (butP H p) v := by
  obtain ⟨a, name, th, ks, e, f, l⟩ := h
  exact ⟨a, name, th, ks, e, (if_neg (fun z => by
    obtain ⟨_, _, _, e', _⟩ := hP.at_
    rw [z, e'] at f
    cases f)).trans f, l⟩
theorem TriOk.ia {H : Hp} {v : V} (h : TriOk H v) : IA H v := by
  obtain ⟨a, name, th, ks, rfl, f, l1, l2⟩ := h
  exact ia_tri f (.str _) (.str _) (wS (by omega)) (wS (by omega))
theorem WV.At.self {K : PySem.W.Frag} {H : Hp} {v : V} {wv : WV} (h : wv.At H v) : SelfAt K H v := by
  cases wv with
  | tup ws =>
    obtain ⟨a, vs, rfl, ha, _⟩ := h
    exact .inr ⟨a, vs, rfl, .inl (SqT.of ha)⟩
  | oth d =>
    obtain ⟨_, ⟨a, vs, rfl, ha, _⟩ | ⟨rfl, _⟩⟩ := h
    · exact .inr ⟨a, vs, rfl, .inr (SqL.of ha)⟩
    · exact .inl rfl
section
variable {P : Program} {w : World} {K : PySem.W.Frag} {mg : Str → Option Value} {base : Heap}
def spRight (TS : List (Addr × Str)) : Sp := fun vs H Q _ => ∃ (p : Addr) (k : Nat), vs = [.ref p] ∧ Pot H p k ∧ k ≤ 20000 ∧ LamX.Tabs TS H ∧ SmH H ∧ ∀ H', KeepB p H H' → LamX.Tabs TS H' → Pot H' p (k + 150) → Q (.bl true) H'
theorem ok__law_right (T : Tx P K mg) {TS : List (Addr × Str)} {tP tQ : Addr} (TB : LamX.TabB base mg (tbOf K T.F_World___init__).1 tP) (hmem : (tP, qw) ∈ TS) (huni : ∀ p ∈ TS, p.1 = tP → p.2 = qw)
    (TB2 : LamX.TabB base mg (tbOf K T.F__law_work_triple).1 tQ) (hmem2 : (tQ, qt) ∈ TS) (huni2 : ∀ p ∈ TS, p.1 = tQ → p.2 = qt) :
    FnG P w K mg base CX0 15 T.F__law_right T.fd__law_right ["_law_pot_here"] (spRight TS) := by
  refine okG T._law_right_ok sc__law_right (fun vs H Q E h => ?_) (fun cdv A outer s H vs Q E gA hr h => ?_)
  · obtain ⟨p, k, rfl, _⟩ := h
    rfl
  · obtain ⟨p, k, rfl, hP, hk, hT, hM, q⟩ := h
    have nd := sc__law_right.nd
    refine ⟨_, (pss_cons (ps_set (i := 1) nd rfl (Or.inr rfl) (pe_call (ok__law_lore T) (hr.mono (by decide)) rfl T._law_lore_mg T._law_lore_ok.kp T.b__law_lore .nil pass0 (pa_cons (pv 0) (pa_cons (pe_lst (pa_cons pe_int (pa_cons pe_int (pa_cons pe_int pa_nil)))) (pa_cons (pe_tup (pa_cons pe_int (pa_cons pe_int pa_nil))) pa_nil))))) (pss_cons (ps_set (i := 2) nd rfl (Or.inl rfl) (pe_call (ok__law_of T) (hr.mono (by decide)) rfl T._law_of_mg T._law_of_ok.kp T.b__law_of .nil pass0 (pa_cons (pv 0) (pa_cons (pe_lst (pa_cons (pe_tup (pa_cons pe_str pa_nil)) (pa_cons (pe_tup (pa_cons pe_str (pa_cons pe_str pa_nil))) (pa_cons (pe_tup (pa_cons pe_str (pa_cons pe_str (pa_cons pe_str pa_nil)))) (pa_cons (pe_tup (pa_cons pe_str (pa_cons pe_str pa_nil))) pa_nil))))) pa_nil)))) (pss_cons (ps_set (i := 3) nd rfl (Or.inl rfl) (pe_callTy call_tuple_of (by rfl) T.b_tuple (by decide +kernel) (pa_cons (pe_lc (own := [("_law_name", 7)]) (g := gName 7) (by rfl) nd (pi_tup (pv 2)) (blkOk_by (own := [("_law_name", 7)]) (N := N__law_right) (sc := defScope s__law_right) (by decide +kernel)) (fun _ _ _ _ _ => (pg_name (i := 7) nd rfl (Or.inl rfl))) (fun _ _ _ _ _ => pts_nil) (fun _ _ _ _ _ => (pe_call (ok__law_work_triple T TB2 hmem2 huni2) (hr.mono (by decide)) rfl T._law_work_triple_mg T._law_work_triple_ok.kp T.b__law_work_triple .nil pass0 (pa_cons (pv 0) (pa_cons (pv 7) (pa_cons (pe_cmpR (op_neDK (K := K) rfl hr.units) (pe_ix (ix_tupK (K := K) rfl) (pv 1) pe_int (fun _ _ => rfl)) (pe_tup pa_nil) (nomark _)) pa_nil)))))) pa_nil))) (Evl.pss_cut (ps_if (pt_cmpR op_eq (pe_call (ok__law_take T) (hr.mono (by decide)) rfl T._law_take_mg T._law_take_ok.kp T.b__law_take .nil pass0 (pa_cons (pv 0) (pa_cons pe_int pa_nil))) pe_int (nomark _)) (pss_one (ps_set (i := 3) nd rfl (Or.inl rfl) (pe_call (ok__law_bent_works T) (hr.mono (by decide)) rfl T._law_bent_works_mg T._law_bent_works_ok.kp T.b__law_bent_works .nil pass0 (pa_cons (pv 0) (pa_cons (pv 3) pa_nil))))) pss_nil) (pss_cons (ps_par (i := 4) (j := 5) (by rfl) nd rfl rfl (by decide) rfl rfl (pa_cons (pe_call (ok__law_of T) (hr.mono (by decide)) rfl T._law_of_mg T._law_of_ok.kp T.b__law_of .nil pass0 (pa_cons (pv 0) (pa_cons (pe_lst (pa_cons pe_int (pa_cons pe_int (pa_cons pe_int (pa_cons pe_int (pa_cons pe_int (pa_cons pe_int (pa_cons pe_bl (pa_cons pe_non (pa_cons pe_str (pa_cons (pe_tup (pa_cons pe_int pa_nil)) pa_nil))))))))))) pa_nil))) (pa_cons (pe_call (ok__law_world T TB hmem huni) (hr.mono (by decide)) rfl T._law_world_mg T._law_world_ok.kp T.b__law_world .nil pass0 (pa_cons (pv 1) pa_nil)) pa_nil)) (by rfl)) (pss_cons (ps_set (i := 6) nd rfl (Or.inl rfl) (pe_call (ok__law_told T) (hr.mono (by decide)) rfl T._law_told_mg T._law_told_ok.kp T.b__law_told .nil pass0 (pa_cons (pv 5) (pa_cons (pv 3) (pa_cons (pv 4) pa_nil))))) (pss_cons (ps_if (pt_not (pt_val (pe_call (ok__law_are_works T) (hr.mono (by decide)) rfl T._law_are_works_mg T._law_are_works_ok.kp T.b__law_are_works .nil pass0 (pa_cons (pv 3) (pa_cons (pe_cmpR (op_neDK (K := K) rfl hr.units) (pe_ix (ix_tupK (K := K) rfl) (pv 1) pe_int (fun _ _ => rfl)) (pe_tup pa_nil) (nomark _)) pa_nil))))) (pss_one (ps_ret (pe_and (pe_cmpR op_eq (pe_ix ix_tup (pv 6) pe_int (fun _ _ => rfl)) pe_str (nomark _)) (pe_one (pe_cmpR (op_eqS hr.units) (pe_ix ix_tup (pv 6) pe_int (fun _ _ => rfl)) (pv 3) (nomark _)))))) pss_nil) (pss_cons (ps_if (pt_not (pt_val (pe_call (ok__law_is_from T) (hr.mono (by decide)) rfl T._law_is_from_mg T._law_is_from_ok.kp T.b__law_is_from .nil pass0 (pa_cons (pv 4) (pa_cons pe_int (pa_cons pe_int pa_nil)))))) (pss_one (ps_ret (pe_and (pe_cmpR op_eq (pe_ix ix_tup (pv 6) pe_int (fun _ _ => rfl)) pe_str (nomark _)) (pe_one (pe_cmpR op_eq (pe_callB (call_reprQ gA hr) (by rfl) T.b_repr (by decide +kernel) (pa_cons (pe_ix ix_tup (pv 6) pe_int (fun _ _ => rfl)) pa_nil)) (pe_callB (call_reprQ gA hr) (by rfl) T.b_repr (by decide +kernel) (pa_cons (pv 4) pa_nil)) (nomark _)))))) pss_nil) (pss_cons (ps_if (PW.pt (pw_or (pt_cmpR op_ne (pe_ix ix_tup (pv 6) pe_int (fun _ _ => rfl)) pe_str (nomark _)) (pw_or (pt_cmpR (op_ownNe T.World___eq___sl T.x_wne T.x_wob (ok_World___eq__ T) (hr.mono (by decide)) T.b_World___eq__ pass0) (pe_prop (pe_ix ix_tup (pv 6) pe_int (fun _ _ => rfl)) T.Setup_cl T.Setup_world_pr (ok_Setup_world T) (hr.mono (by decide)) T.b_Setup_world .nil pass0 rfl) (pv 5) (nomark _)) (pw_or1 (pt_cmpR (op_neS hr.units) (pe_prop (pe_ix ix_tup (pv 6) pe_int (fun _ _ => rfl)) T.Setup_cl T.Setup_works_pr (ok_Setup_works T) (hr.mono (by decide)) T.b_Setup_works .nil pass0 rfl) (pv 3) (nomark _)))))) (pss_one (ps_ret pe_bl)) pss_nil) (pss_one (ps_ret (pe_cmpR op_eq (pe_callB (call_reprQ gA hr) (by rfl) T.b_repr (by decide +kernel) (pa_cons (pe_prop (pe_ix ix_tup (pv 6) pe_int (fun _ _ => rfl)) T.Setup_cl T.Setup_places_pr (ok_Setup_places T) (hr.mono (by decide)) T.b_Setup_places .nil pass0 rfl) pa_nil)) (pe_callB (call_reprQ gA hr) (by rfl) T.b_repr (by decide +kernel) (pa_cons (pv 4) pa_nil)) (nomark _))))))))))))), ?_⟩
    have w0 : WP (butP H p) p k H := ⟨butP_ext, butP_eq, hP⟩
    have pl0 : ∃ x y z, H p = some (.lst [x, y, z]) := by
      obtain ⟨a, b, c, e, _⟩ := hP.at_
      exact ⟨_, _, _, e⟩
    -- the lore
    refine ⟨_, rfl, by show 3 ≤ sizeLine; decide, fun l1 hl1 => ?_⟩
    obtain ⟨G1, x1, f1, w1⟩ := w0.newG (.lst [.int 2, .int 3, .int 4]) hl1
    refine ⟨by show 2 ≤ sizeLine; decide, fun t1 ht1 => ?_⟩
    obtain ⟨G2, x2, f2, w2⟩ := w1.newG (.tup [.int 1, .int 1]) ht1
    refine ⟨G2, p, l1, t1, k, [2, 3, 4], 1, 1, rfl, w2, by omega, SqL.of (x2 _ _ f1), by decide, by decide, by decide, SqT.of f2, by decide, by decide, by decide, by decide, fun L t G3 H3 lok x3 w3 d3 => ?_⟩
    have li := lore_is (by decide) (by decide) lok
    have XG3 := x1.trans (x2.trans x3)
    clear f1 f2 x1 x2 x3 w1 w2 hl1 ht1 lok
    -- the names
    refine ⟨_, rfl, by show 1 ≤ sizeLine; decide, fun b1 hb1 => ?_⟩
    obtain ⟨G6, x6, f6, w6⟩ := w3.newG (.tup [.str "f"]) hb1
    refine ⟨by show 2 ≤ sizeLine; decide, fun b2 hb2 => ?_⟩
    obtain ⟨G7, x7, f7, w7⟩ := w6.newG (.tup [.str "f", .str "g"]) hb2
    refine ⟨by show 3 ≤ sizeLine; decide, fun b3 hb3 => ?_⟩
    obtain ⟨G8, x8, f8, w8⟩ := w7.newG (.tup [.str "a", .str "ab", .str "b"]) hb3
    refine ⟨by show 2 ≤ sizeLine; decide, fun b4 hb4 => ?_⟩
    obtain ⟨G9, x9, f9, w9⟩ := w8.newG (.tup [.str "do", .str "work"]) hb4
    refine ⟨by show 4 ≤ sizeLine; decide, fun b5 hb5 => ?_⟩
    obtain ⟨G10, x10, f10, w10⟩ := w9.newG (.lst [.ref b1, .ref b2, .ref b3, .ref b4]) hb5
    refine ⟨G10, p, b5, _, _, rfl, w10, by omega, SqL.of f10, (by show 0 < 4; decide), (by show 4 ≤ 1000; decide), fun i1 v H11 hv11 w11 => ?_⟩
    obtain ⟨nb, nm, rfl, hnm, fn⟩ : ∃ nb nm, v = .ref nb ∧ nm ∈ tup4 ∧ G10 nb = some (.tup (nm.map V.str)) := by
      match i1, hv11 with
      | 0, h => cases h; exact ⟨_, ["f"], rfl, by simp [tup4], (x7.trans (x8.trans (x9.trans x10))) _ _ f6⟩
      | 1, h => cases h; exact ⟨_, ["f", "g"], rfl, by simp [tup4], (x8.trans (x9.trans x10)) _ _ f7⟩
      | 2, h => cases h; exact ⟨_, ["a", "ab", "b"], rfl, by simp [tup4], (x9.trans x10) _ _ f8⟩
      | 3, h => cases h; exact ⟨_, ["do", "work"], rfl, by simp [tup4], x10 _ _ f9⟩
      | n + 4, h => simp at h
    obtain ⟨n8, n1, n3⟩ := tup4_ok nm hnm
    have XG := XG3.trans (x6.trans (x7.trans (x8.trans (x9.trans x10))))
    have d10 : Dq G10 (.ref t) (loreD L) := d3.ext (x6.trans (x7.trans (x8.trans (x9.trans x10))))
    have nG : ∀ {H' : Hp}, KeepB p H11 H' → LamX.ExtN G10 H' := fun kb b o e nt => kb b o (fun z => by rw [z, w11.no] at e; cases e) (w11.ext _ _ e) nt
    have fn11 := w11.ext _ _ fn
    have k11 : KeepB p H H11 := KeepB.ofW XG w11
    have T11 : LamX.Tabs TS H11 := Tabs.ofW hT pl0 XG w11
    have P11 : Pot H11 p (k + 61) := w11.pot
    have M11 : SmH H11 := by
      obtain ⟨o, eo⟩ := hM
      obtain ⟨_, _, _, ep⟩ := pl0
      exact ⟨o, k11 _ _ (fun z => by rw [z, ep] at eo; cases eo) eo (fun _ z => by cases z)⟩
    clear f6 f7 f8 f9 f10 hv11 w6 w7 w8 w9 w10 w11 w3 w0 x6 x7 x8 x9 x10 hb1 hb2 hb3 hb4 hb5 fn d3 XG3 XG hM hT hP pl0
    have rp := rows_pl li.sr
    have rsh := rows_sh li
    -- the works
    refine ⟨_, rfl, nb, rfl, ⟨_, SqT.of fn11⟩, fun D hD => ?_⟩
    have XD := ext_upd (o := .lst []) hD
    refine lc_tup (K := K) (a := nb) (xs := nm.map V.str) (fun i H' => ∃ vs : List V, H' D = some (.lst vs) ∧ vs.length = i ∧ (∀ v ∈ vs, TriOk H' v) ∧ KeepB p H11 H' ∧ LamX.Tabs TS H' ∧ Pot H' p (k + 61 + 5 * i)) ⟨[], upd_same, rfl, (fun _ h => nomatch h), KeepB.of XD, T11.ext XD, P11.extN (LamX.ExtN.of XD)⟩ (fun i H' _ ⟨_, _, _, _, kb, _⟩ => SqT.of (keep_tup kb P11 fn11)) (fun i y H' hy h => ?_) (fun H12 h => ?_)
    · obtain ⟨vs, fD, lv, tv, kb, T', P'⟩ := h
      rw [List.getElem?_map] at hy
      obtain ⟨name, hn, rfl⟩ := Option.map_eq_some_iff.mp hy
      have il : i < nm.length := (List.getElem?_eq_some_iff.mp hn).1
      obtain ⟨v3, v4, v5, ft, dc, dr, dl⟩ := lore_at (d10.extN (nG kb))
      refine ⟨rfl, ?_⟩
      refine ⟨_, rfl, _, rfl, _, rfl, t, _, 3, _, rfl, rfl, SqT.of ft, rfl, by show 0 ≤ sizeLine; decide, fun t0 ht0 => ?_⟩
      have X0 := ext_upd (o := .tup []) ht0
      have f0 : upd H' t0 (.tup []) t0 = some (.tup []) := upd_same
      generalize upd H' t0 (.tup []) = H0 at X0 f0 ⊢
      refine ⟨rowsD L.rs, .tuple [], (dr.ext X0).dp (pl_noL _ rp), .tup (SqT.of f0) .nil, rsh, rfl, ?_⟩
      rw [rows_eq]
      have P0 := P'.extN (LamX.ExtN.of X0)
      refine ⟨p, _, name, _, rfl, P0, by omega, T'.ext X0, fun t2 th ks H2 k2 T2 P2 f2 kl kc sth => ?_⟩
      have kb2 : KeepB p H' H2 := (KeepB.of X0).trans k2
      have Dp : D ≠ p := fun z => by
        obtain ⟨_, _, _, e, _⟩ := P11.at_
        rw [z, e] at hD
        cases hD
      have fD2 := kb2 _ _ Dp fD (fun _ z => by cases z)
      refine ⟨vs, fD2, Nat.lt_of_lt_of_le (by omega : vs.length < 10) (by decide), ?_⟩
      have up : KeepB p H2 (upd H2 D (.lst (vs ++ [.ref t2]))) ∨ True := .inr trivial
      have tupK : ∀ {a : Addr} {xs : List V}, H2 a = some (.tup xs) → upd H2 D (.lst (vs ++ [.ref t2])) a = some (.tup xs) := fun {a xs} e => by
        rw [upd_ne (fun z => by rw [z, fD2] at e; cases e)]
        exact e
      refine ⟨vs ++ [.ref t2], upd_same, by rw [List.length_append, lv]; rfl, fun v hv => ?_, fun b o nb' e nt => ?_, tabs_put T2 fD2, ?_⟩
      · rcases List.mem_append.mp hv with h | h
        · obtain ⟨a', n', th', ks', rfl, f', l'⟩ := (tv v h).keep kb2 P'
          exact ⟨a', n', th', ks', rfl, tupK f', l'⟩
        · rw [List.mem_singleton.mp h]
          exact ⟨t2, name, th, ks, rfl, tupK f2, n8 name (List.mem_of_getElem? hn), kl⟩
      · rw [upd_ne (ne_of_none e hD)]
        exact kb2 _ _ nb' (kb _ _ nb' e nt) nt
      · obtain ⟨a1, a2, a3, e, r1, r2, r3, r4, r5⟩ := P2.at_
        exact ⟨a1, a2, a3, by rw [upd_ne (Ne.symm Dp)]; exact e, r1, r2, r3, r4, by omega⟩
    · obtain ⟨vs, fD, lv, tv, kb, T', P'⟩ := h
      rw [List.length_map] at lv P'
      refine ⟨D, vs, rfl, .inl ⟨SqL.of fD, fun tw htw => ?_⟩⟩
      have X13 := ext_upd (o := .tup vs) htw
      have f13 : upd H12 tw (.tup vs) tw = some (.tup vs) := upd_same
      generalize upd H12 tw (.tup vs) = H13 at X13 f13 ⊢
      have kb13 : KeepB p H11 H13 := kb.trans (KeepB.of X13)
      have P13 : Pot H13 p (k + 61 + 5 * nm.length) := P'.extN (LamX.ExtN.of X13)
      have T13 := T'.ext X13
      have tv13 : ∀ v ∈ vs, TriOk H13 v := fun v hv => (tv v hv).keep (KeepB.of X13) P'
      clear T' P' tv fD htw X13 kb hD XD
      refine ⟨fun σ' H' => ∃ (v : V) (wv : WV), σ' = [some (.ref p), some (.ref t), some (.ref nb), some v, none, none, none, none] ∧ wv.At (butP H' p) v ∧ KeepB p H11 H' ∧ LamX.Tabs TS H' ∧ Pot H' p (k + 80), ?_, ?_⟩
      · have w13 : WP (butP H13 p) p _ H13 := ⟨butP_ext, butP_eq, P13⟩
        have pl13 : ∃ x y z, H13 p = some (.lst [x, y, z]) := by
          obtain ⟨a, b, c, e, _⟩ := P13.at_
          exact ⟨_, _, _, e⟩
        refine ⟨_, rfl, butP H13 p, p, _, 2, rfl, w13, by omega, by omega, by omega, fun r H14 _ _ w14 => ⟨rfl, _, rfl, ?_⟩⟩
        have fG : butP H13 p tw = some (.tup vs) := (if_neg (fun z => by
          obtain ⟨_, _, _, e⟩ := pl13
          rw [z, e] at f13
          cases f13)).trans f13
        have tG : ∀ v ∈ vs, TriOk (butP H13 p) v := fun v hv => (tv13 v hv).but P13
        refine ite2 (fun _ => ?_) (fun _ => ?_)
        · refine ⟨_, rfl, _, rfl, butP H13 p, p, tw, _, vs, rfl, w14, by omega, fG, by omega, by omega, tG, fun v wv G15 H15 x15 w15 hw => ?_⟩
          exact ⟨v, wv, rfl, hw.extN (LamX.ExtN.of w15.all.2), kb13.trans (KeepB.ofW x15 w15), Tabs.ofW T13 pl13 x15 w15, (w15.mono (by omega)).pot⟩
        · obtain ⟨wv, hw⟩ := wv_tup fG (fun v hv => (tG v hv).ia) (by omega)
          exact ⟨_, wv, rfl, hw.extN (LamX.ExtN.of w14.all.2), kb13.trans (KeepB.ofW Ext.rfl' w14), Tabs.ofW T13 pl13 Ext.rfl' w14, (w14.mono (by omega)).pot⟩
      rintro σ' H16 ⟨v, wv, rfl, hw, kb16, T16, P16⟩
      clear kb13 P13 T13 tv13 f13
      have w16 : WP (butP H16 p) p (k + 80) H16 := ⟨butP_ext, butP_eq, P16⟩
      have pl16 : ∃ x y z, H16 p = some (.lst [x, y, z]) := by
        obtain ⟨a, b, c, e, _⟩ := P16.at_
        exact ⟨_, _, _, e⟩
      refine ⟨_, rfl, by show 1 ≤ sizeLine; decide, fun t1 ht1 => ?_⟩
      obtain ⟨G17, x17, f17, w17⟩ := w16.newG (.tup [.int 1]) ht1
      refine ⟨by show 10 ≤ sizeLine; decide, fun l1 hl1 => ?_⟩
      obtain ⟨G18, x18, f18, w18⟩ := w17.newG (.lst [.int 1, .int 2, .int 1, .int 2, .int 0, .int 3, .bl true, .non, .str "1", .ref t1]) hl1
      refine ⟨G18, p, l1, _, _, rfl, w18, by omega, SqL.of f18, (by show 0 < 10; decide), (by show 10 ≤ 1000; decide), fun i rv H19 hrv w19 => ?_⟩
      obtain ⟨dr, hdr, drv⟩ : ∃ dr ∈ rooms, Dq G18 rv dr := by
        match i, hrv with
        | 0, h => cases h; exact ⟨.int 1, by simp [rooms], .int 1⟩
        | 1, h => cases h; exact ⟨.int 2, by simp [rooms], .int 2⟩
        | 2, h => cases h; exact ⟨.int 1, by simp [rooms], .int 1⟩
        | 3, h => cases h; exact ⟨.int 2, by simp [rooms], .int 2⟩
        | 4, h => cases h; exact ⟨.int 0, by simp [rooms], .int 0⟩
        | 5, h => cases h; exact ⟨.int 3, by simp [rooms], .int 3⟩
        | 6, h => cases h; exact ⟨.bool true, by simp [rooms], .bl true⟩
        | 7, h => cases h; exact ⟨.none, by simp [rooms], .non⟩
        | 8, h => cases h; exact ⟨.str "1", by simp [rooms], .str "1"⟩
        | 9, h => cases h; exact ⟨.tuple [.int 1], by simp [rooms], .tup (x18 _ _ f17) (.cons (.int 1) .nil)⟩
        | n + 10, h => simp at h
      have sdr := sd_R (rooms_ok dr hdr)
      have XG := x17.trans x18
      have k19 : KeepB p H16 H19 := KeepB.ofW XG w19
      have kk := kb16.trans k19
      have T19 : LamX.Tabs TS H19 := Tabs.ofW T16 pl16 XG w19
      have hw19 : wv.At H19 v := (hw.extN (LamX.ExtN.of XG)).extN (LamX.ExtN.of w19.ext)
      refine ⟨_, rfl, t, L, rfl, d10.extN (nG kk), li, T19, fun x H20 N20 T20 W20 => ?_⟩
      have kk20 := kk.trans (KeepB.ofN N20)
      have hw20 := hw19.extN N20
      have dr20 := (drv.ext w19.ext).extN N20
      have M20 : SmH H20 := by
        obtain ⟨o, eo⟩ := M11
        obtain ⟨_, _, _, ep, _⟩ := P11.at_
        exact ⟨o, kk20 _ _ (fun z => by rw [z, ep] at eo; cases eo) eo (fun _ z => by cases z)⟩
      have P20 : Pot H20 p (k + 81) := w19.pot.extN N20
      have fin : ∀ {H' : Hp}, Ext H20 H' → Q (.bl true) H' := fun {H'} X => by
        obtain ⟨a1, a2, a3, e, r1, r2, r3, r4, r5⟩ := (P20.extN (LamX.ExtN.of X)).at_
        exact q H' (k11.trans (kk20.trans (KeepB.of X))) (T20.ext X) ⟨a1, a2, a3, e, r1, r2, r3, r4, by omega⟩
      obtain ⟨v3, v4, v5, ft, dc, drw, dl⟩ := lore_at (d10.extN (nG kk20))
      clear w16 w17 w18 w19 T16 T19 kb16 P16 hw hw19 k19 kk drv pl16 q
      refine ⟨_, _, rfl, _, rfl, _, rfl, _, rfl, x, v, rv, dr, L, wv, rfl, W20, hw20, dr20, fun e1 t2 H21 X21 f21 => ?_, fun e1 e2 t2 H21 X21 f21 => ?_, fun e1 e2 t2 y dy H21 X21 f21 fy => ?_⟩
      · refine ⟨_, rfl, _, rfl, t, _, 3, _, rfl, rfl, SqT.of (X21 _ _ ft), rfl, by show 0 ≤ sizeLine; decide, fun t0 ht0 => ?_⟩
        have X0 := ext_upd (o := .tup []) ht0
        have f0 : upd H21 t0 (.tup []) t0 = some (.tup []) := upd_same
        generalize upd H21 t0 (.tup []) = H22 at X0 f0 ⊢
        have X22 := X21.trans X0
        refine ⟨rowsD L.rs, .tuple [], (drw.ext X22).dp (pl_noL _ rp), .tup (SqT.of f0) .nil, rsh, rfl, ?_⟩
        rw [rows_eq]
        refine ⟨v, _, wv, rfl, hw20.extN (LamX.ExtN.of X22), fun H23 X23 => ⟨_, rfl, ?_⟩⟩
        rw [e1]
        have f23 := X23 _ _ (X0 _ _ f21)
        have X := X22.trans X23
        refine iteT ⟨_, rfl, t2, _, 0, _, rfl, rfl, SqT.of f23, rfl, rfl, _, rfl, ?_⟩
        rw [str_same]
        exact iteT ⟨_, rfl, t2, _, 1, _, rfl, rfl, SqT.of f23, rfl, _, rfl, rfl, (hw20.extN (LamX.ExtN.of X)).self, fin X⟩
      · refine ⟨_, rfl, _, rfl, t, _, 3, _, rfl, rfl, SqT.of (X21 _ _ ft), rfl, by show 0 ≤ sizeLine; decide, fun t0 ht0 => ?_⟩
        have X0 := ext_upd (o := .tup []) ht0
        have f0 : upd H21 t0 (.tup []) t0 = some (.tup []) := upd_same
        generalize upd H21 t0 (.tup []) = H22 at X0 f0 ⊢
        have X22 := X21.trans X0
        refine ⟨rowsD L.rs, .tuple [], (drw.ext X22).dp (pl_noL _ rp), .tup (SqT.of f0) .nil, rsh, rfl, ?_⟩
        rw [rows_eq]
        refine ⟨v, _, wv, rfl, hw20.extN (LamX.ExtN.of X22), fun H23 X23 => ⟨_, rfl, ?_⟩⟩
        rw [e1]
        have f23 := X23 _ _ (X0 _ _ f21)
        have X := X22.trans X23
        refine iteF ⟨_, rfl, rv, dr, 1, 2, rfl, dr20.ext X, _, rfl, ?_⟩
        rw [e2]
        refine iteT ⟨_, rfl, t2, _, 0, _, rfl, rfl, SqT.of f23, rfl, rfl, _, rfl, ?_⟩
        rw [str_same]
        refine iteT ⟨_, rfl, t2, _, 1, _, rfl, rfl, SqT.of f23, rfl, rv, dr, rfl, M20.ext X, dr20.ext X, sdr.shw, sdr.d40, sdr.len, _, rfl, rv, dr, rfl, M20.ext X, dr20.ext X, sdr.shw, sdr.d40, sdr.len, rfl, ?_⟩
        rw [str_same]
        exact fin X
      · refine ⟨_, rfl, _, rfl, t, _, 3, _, rfl, rfl, SqT.of (X21 _ _ ft), rfl, by show 0 ≤ sizeLine; decide, fun t0 ht0 => ?_⟩
        have X0 := ext_upd (o := .tup []) ht0
        have f0 : upd H21 t0 (.tup []) t0 = some (.tup []) := upd_same
        generalize upd H21 t0 (.tup []) = H22 at X0 f0 ⊢
        have X22 := X21.trans X0
        refine ⟨rowsD L.rs, .tuple [], (drw.ext X22).dp (pl_noL _ rp), .tup (SqT.of f0) .nil, rsh, rfl, ?_⟩
        rw [rows_eq]
        refine ⟨v, _, wv, rfl, hw20.extN (LamX.ExtN.of X22), fun H23 X23 => ⟨_, rfl, ?_⟩⟩
        rw [e1]
        have f23 := X23 _ _ (X0 _ _ f21)
        have X := X22.trans X23
        refine iteF ⟨_, rfl, rv, dr, 1, 2, rfl, dr20.ext X, _, rfl, ?_⟩
        rw [e2]
        refine iteF ⟨_, rfl, t2, _, 0, _, rfl, rfl, SqT.of f23, rfl, rfl, _, rfl, ?_⟩
        rw [str_same]
        have W23 := W20.ext X
        obtain ⟨dx, w3, w4, w5, hx, hh⟩ := id W23
        have fy23 := X23 _ _ (X0 _ _ fy)
        refine iteF ⟨_, rfl, t2, _, 1, _, rfl, rfl, SqT.of f23, rfl, y, dy, _, rfl, fy23, y, dy, _, _, rfl, fy23, sf_world _ _ _, _, rfl, x, dx, _, rfl, hx, .own hx, x, L, _, rfl, W23, li, .inl ⟨x, L, rfl, W23, li, fun H24 X24 => ⟨_, rfl, _, rfl, ?_⟩⟩⟩
        rw [SeqAt.eqv_refl (loreD L) (lay_pl _ (lore_pl li))]
        have XX := X.trans X24
        have fy24 := X24 _ _ fy23
        have f24 := X24 _ _ f23
        obtain ⟨av, xv, rfl, sv⟩ : ∃ (a : Addr) (xs : List V), v = .ref a ∧ SqT K H24 a xs := by
          cases wv with
          | tup ws =>
            obtain ⟨a, vs, rfl, ha, _⟩ := hw20.extN (LamX.ExtN.of XX)
            exact ⟨a, vs, rfl, SqT.of ha⟩
          | oth d => cases e1
        refine iteF ⟨_, rfl, t2, _, 1, _, rfl, rfl, SqT.of f24, rfl, y, dy, _, rfl, fy24, y, dy, _, _, rfl, fy24, sf_works _ _ _, _, rfl, rfl, ⟨av, xv, rfl, sv⟩, _, rfl, iteF ?_⟩
        refine ⟨_, rfl, t2, _, 1, _, rfl, rfl, SqT.of f24, rfl, y, dy, _, rfl, fy24, y, dy, _, _, rfl, fy24, sf_room _ _ _, rv, dr, rfl, M20.ext XX, dr20.ext XX, sdr.shw, sdr.d40, sdr.len, _, rfl, rv, dr, rfl, M20.ext XX, dr20.ext XX, sdr.shw, sdr.d40, sdr.len, rfl, ?_⟩
        rw [str_same]
        exact fin XX
end

end K25

namespace K25
open PySem PySem.Spec PyProof.Rows L2 L2.TP RZ
section
variable {P : Program} {w : World} {K : PySem.W.Frag} {mg : Str → Option Value} {base : Heap}
def spLaw (K : PySem.W.Frag) (TS : List (Addr × Str)) : Sp := fun vs H Q _ => ∃ (a : Addr) (ns : List Int), vs = [.ref a] ∧ SqL K H a (ns.map V.int) ∧ ns.length ≤ 10000 ∧ LamX.Tabs TS H ∧ SmH H ∧ ∀ H', Q (.bl true) H'
theorem ok_law (T : Tx P K mg) {TS : List (Addr × Str)} (OR : FnG P w K mg base CX0 15 T.F__law_right T.fd__law_right ["_law_pot_here"] (spRight TS)) :
    FnG P w K mg base CX0 16 T.F_law T.fd_law ["_law_script"] (spLaw K TS) := by
  refine okG T.law_ok sc_law (fun vs H Q E h => ?_) (fun cdv A outer s H vs Q E gA hr h => ?_)
  · obtain ⟨a, ns, rfl, _⟩ := h
    rfl
  · obtain ⟨a, ns, rfl, hS, hl, hT, hM, k⟩ := h
    have nd := sc_law.nd
    refine ⟨_, (pss_cons (ps_for PassesOwn.never rfl (pi_range1 (by rfl) T.b_range (pa_cons (pe_callB (call_max2 rfl) (by rfl) T.b_max (by decide +kernel) (pa_cons pe_int (pa_cons (pe_callB (call_min2 rfl) (by rfl) T.b_min (by decide +kernel) (pa_cons pe_int (pa_cons (pe_callB call_len_seq (by rfl) T.b_len (by decide +kernel) (pa_cons (pv 0) pa_nil)) pa_nil))) pa_nil))) pa_nil)) (pg_name (i := 1) nd rfl (Or.inl rfl)) (pss_cons (ps_set (i := 2) nd rfl (Or.inr rfl) (pe_call (ok__law_pot T) (hr.mono (by decide)) rfl T._law_pot_mg T._law_pot_ok.kp T.b__law_pot .nil pass0 (pa_cons (pv 0) (pa_cons (pv 1) pa_nil)))) (pss_one (ps_if (pt_not (pt_val (pe_callB (cr_all rfl) (by rfl) T.b_all (by decide +kernel) (pa_cons (pe_lc (own := [("_law_turn", 3)]) (g := gName 3) (by rfl) nd (pi_range1 (by rfl) T.b_range (pa_cons pe_int pa_nil)) (blkOk_by (own := [("_law_turn", 3)]) (N := N_law) (sc := defScope s_law) (by decide +kernel)) (fun _ _ _ _ _ => (pg_name (i := 3) nd rfl (Or.inl rfl))) (fun _ _ _ _ _ => pts_nil) (fun _ _ _ _ _ => (pe_callG OR gA (hr.mono (by decide)) rfl T._law_right_mg T._law_right_ok.kp T.b__law_right .nil pass0 (pa_cons (pv 2) pa_nil)))) pa_nil)))) (pss_one (ps_ret pe_bl)) pss_nil)))) (pss_one (ps_ret pe_bl))), ?_⟩
    refine ⟨_, rfl, a, _, rfl, .inl hS, _, _, rfl, _, _, rfl, ?_⟩
    obtain ⟨j, hj, j0, j3⟩ : ∃ j : Int, (if (if ((ns.map V.int).length : Int) < 3 then ((ns.map V.int).length : Int) else 3) > 1 then (if ((ns.map V.int).length : Int) < 3 then ((ns.map V.int).length : Int) else 3) else 1) = j ∧ 0 ≤ j ∧ j ≤ 3 := by
      refine ⟨_, rfl, ?_, ?_⟩ <;> (repeat' split) <;> omega
    refine ⟨j, by rw [← hj], by omega, by omega, ?_⟩
    refine for_range (n := j.toNat) (lo := 0) (fun i σ H' => ∃ (v1 v2 : Option V), σ = [some (.ref a), v1, v2, none] ∧ LamX.ExtN H H' ∧ LamX.Tabs TS H') ⟨_, _, rfl, fun _ _ e _ => e, hT⟩ ?_ ?_
    · rintro i σ H' hi ⟨v1, v2, rfl, x1, T1⟩
      refine ⟨_, rfl, _, rfl, a, ns, 0 + i, rfl, sq_keep hS (fun o e nt => x1 _ _ e nt), by omega, by omega, fun p x y hp x0 y0 y1 => ?_⟩
      have xp := ext_upd (o := HO.lst [.int x, .int y, .int 0]) hp
      have P1 : Pot (upd H' p (.lst [.int x, .int y, .int 0])) p 0 := ⟨x, y, 0, upd_same, x0, y0, y1, by decide, by decide⟩
      replace T1 := T1.ext xp
      have M1 := (hM.extN x1).ext xp
      generalize upd H' p (.lst [.int x, .int y, .int 0]) = H1 at xp P1 T1 M1 ⊢
      refine ⟨6, rfl, by decide, by decide, fun D hD => ?_⟩
      have nb : ∀ {b o}, H1 b = some o → b ≠ D := fun e => ne_of_none e hD
      have pD : p ≠ D := by
        obtain ⟨_, _, _, e, _⟩ := P1.at_
        exact nb e
      have Pu : ∀ {H2 : Hp} {k : Nat} {o : HO}, Pot H2 p k → Pot (upd H2 D o) p k := fun h => by
        obtain ⟨a1, a2, a3, e, r⟩ := h.at_
        exact ⟨a1, a2, a3, by rw [upd_ne pD]; exact e, r⟩
      refine lc_range (n := 6) (lo := 0) (fun j H'' => H'' D = some (.lst (List.replicate j (.bl true))) ∧ KeepB p H1 H'' ∧ Pot H'' p (150 * j) ∧ LamX.Tabs TS H'' ∧ SmH H'')
        ⟨upd_same, KeepB.of (ext_upd hD), Pu P1, T1.ext (ext_upd hD), M1.ext (ext_upd hD)⟩ (fun j H'' hj h => ?_) (fun H'' h => ?_)
      · obtain ⟨hD2, kb, P2, T2, M2⟩ := h
        refine ⟨rfl, ?_⟩
        refine ⟨_, rfl, p, _, rfl, P2, by omega, T2, M2, fun H4 k4 T4 P4 => ?_⟩
        have kD : H4 D = some (.lst (List.replicate j (.bl true))) := k4 _ _ (Ne.symm pD) hD2 (fun _ z => by cases z)
        refine ⟨_, kD, by rw [List.length_replicate]; exact Nat.lt_trans hj (by decide), ?_⟩
        refine ⟨by rw [upd_same, List.replicate_succ'], fun b o nbp e nt => ?_, Pu (by rw [Nat.mul_succ]; exact P4), tabs_put T4 kD, ?_⟩
        · rw [upd_ne (nb e)]
          exact k4 _ _ nbp (kb _ _ nbp e nt) nt
        · refine sm_put ?_ kD
          obtain ⟨oS, eS⟩ := M2
          obtain ⟨_, _, _, eP, _⟩ := P2.at_
          exact ⟨oS, k4 _ _ (fun z => by rw [z, eP] at eS; cases eS) eS (fun _ z => by cases z)⟩
      · obtain ⟨hD2, kb, P2, T2, M2⟩ := h
        refine ⟨D, List.replicate 6 true, rfl, SqL.of hD2, _, rfl, ?_⟩
        refine (if_neg (show ¬ (!(List.replicate 6 true).all id) = true by decide)).mpr ?_
        exact ⟨_, _, rfl, fun b o e nt => kb _ _ (fun z => by rw [z] at e; rw [x1 _ _ e nt] at hp; cases hp) (xp _ _ (x1 _ _ e nt)) nt, T2⟩
    · rintro σ H' ⟨v1, v2, rfl, x1, T1⟩
      exact k _
end

def tsOf (K : PySem.W.Frag) {P : Program} {mg : Str → Option Value} (T : Tx P K mg) : List (Addr × Str) := [((tbOf K T.F_World___init__).2, qw), ((tbOf K T.F__law_work_triple).2, qt)]
theorem ts_lam {K : PySem.W.Frag} {P : Program} {mg : Str → Option Value} (T : Tx P K mg) {p : Addr × Str} (hp : p ∈ tsOf K T) : ∃ a ∈ lams, p.1 = (tbOf K (a K)).2 := by
  rcases List.mem_cons.mp hp with rfl | hp
  · exact ⟨_, List.mem_cons_self, by rw [T.at_World___init__]⟩
  · rw [List.mem_singleton.mp hp]
    exact ⟨_, List.mem_cons_of_mem _ List.mem_cons_self, by rw [T.at__law_work_triple]⟩
theorem ts_ne {K : PySem.W.Frag} {P : Program} {mg : Str → Option Value} (T : Tx P K mg) : (tbOf K T.F__law_work_triple).2 ≠ (tbOf K T.F_World___init__).2 := by
  rw [T.at__law_work_triple, T.at_World___init__]
  exact T.x_lamne
theorem ok_all {P : Program} {w : World} {K : PySem.W.Frag} {mg : Str → Option Value} {base : Heap} (T : Tx P K mg) (TB : ∀ a ∈ lams, LamX.TabB base mg (tbOf K (a K)).1 (tbOf K (a K)).2) :
    FnG P w K mg base CX0 16 T.F_law T.fd_law ["_law_script"] (spLaw K (tsOf K T)) := by
  refine ok_law T (ok__law_right T (tP := (tbOf K T.F_World___init__).2) (tQ := (tbOf K T.F__law_work_triple).2) ?_ ?_ ?_ ?_ ?_ ?_)
  · rw [T.at_World___init__]
    exact TB _ List.mem_cons_self
  · exact List.mem_cons_self
  · intro p hp e
    rcases List.mem_cons.mp hp with rfl | hp
    · rfl
    · rw [List.mem_singleton.mp hp] at e
      exact absurd e (ts_ne T)
  · rw [T.at__law_work_triple]
    exact TB _ (List.mem_cons_of_mem _ List.mem_cons_self)
  · exact List.mem_cons_of_mem _ List.mem_cons_self
  · intro p hp e
    rcases List.mem_cons.mp hp with rfl | hp
    · exact absurd e.symm (ts_ne T)
    · rw [List.mem_singleton.mp hp]
end K25

namespace K25
open PySem PySem.Spec PyProof.Rows L2 L2.TP
theorem walk2 {l : PySem.W.OpenLaw} {n : Nat} {q : Program} {loose : List Str} {XP : (Str → Option Value) → Heap → Prop} {d : DefRec}
    (hn : l.most = some n) (hn2 : n ≤ 10000) (hdf : d.params.defaults = []) (hr : Room 16 callerA) (hdn : d.name = "law") (hi : importsNone q = true) (hF : l.prog.main.file = FILE) (hP : (l.prog.main.scope.names.lookup ("super" : Str)).isSome = false) :
    PySem.W.WalkO q loose XP (hookZ chk lams fnl).says l.row.toRowW d [] (fun f vs => PySem.call f vs) := by
  refine walkLE (k := 16) (CX := CX0) (x := "_law_script") hn (Nat.le_trans hn2 (by decide)) hdf hr hi (fun w mg fa h Y tab G hmg => ?_) (fun _ _ _ _ z => z)
  obtain ⟨K, KX, c, tb⟩ := Y
  obtain ⟨T⟩ := tx_of (P := l.prog) KX G hF hP c
  rw [hdn] at hmg
  have e := T.law_mg
  rw [hmg] at e
  injection e with e
  injection e with e
  subst e
  refine ⟨K, KX, T.mods, T.fd_law, lams.map fun a => tbOf K (a K), spLaw K (tsOf K T), fun p hp => ?_, fun p hp => ?_, fun p hp => ?_, fun s u => ?_, fun H oS a ns hl ht hs hS => ⟨a, ns, rfl, hS, Nat.le_trans hl hn2, ?_, ⟨oS, hs⟩, fun _ => rfl⟩, fun base _ _ TB => ok_all T fun a ha => TB _ (List.mem_map_of_mem ha)⟩
  · obtain ⟨a, ha, rfl⟩ := List.mem_map.mp hp
    exact (tb a ha).tab
  · obtain ⟨a, ha, rfl⟩ := List.mem_map.mp hp
    exact (tb a ha).notK
  · obtain ⟨a, ha, rfl⟩ := List.mem_map.mp hp
    exact PySem.W.codeHd_of_K KX (tb a ha).code
  · obtain ⟨_, _, _, _, _, _, _, _, _, e, _⟩ := T.law_ok.ex
    rw [e]
    exact .of_eq rfl
  · intro p hp
    obtain ⟨a, ha, e⟩ := ts_lam T hp
    exact LamX.TabS.nil (by rw [e]; exact ht _ (List.mem_map_of_mem ha))
end K25

set_option maxHeartbeats 0
namespace K25
open PySem PySem.W PyProof.Rows L2.TP
abbrev R : OpenRow := OpenLaw.row PySem.Challenge.rw_tapedonce_k25_setups_refused
abbrev qv : Program := view R.prog [53]
def names : List PySem.Str := (["_wall", "__name__", "TapeError", "BadWorld", "BadSetup", "LETTERS", "MOST_LETTERS", "is_integer", "is_from", "is_name", "is_tuple", "is_rising", "are_names", "LEAST_SIZE", "MOST_SIZE", "LEAST_MOST", "GREATEST_MOST", "are_items", "MOST_CELLS", "MOST_ROWS", "MOST_WORKS", "MOST_KINDS", "LEAST_ROOM", "MOST_ROOM", "NUMBER_KIND", "ROW_KIND", "PAIR", "TRIPLE", "is_worth", "are_named"] : List Str) ++ (["World", "are_kinds", "are_works", "Setup", "_law_pot", "_law_take", "_law_of", "_law_is_name", "_law_are_rising", "_law_items", "_law_some", "_law_lore", "_law_world", "_law_is_from", "_law_are_works", "_law_work_triple", "_law_bent_works", "_law_told", "_law_right"] : List Str)
theorem run (w : World) : HandSHeadRun.RunEq R qv (hookZ chk lams fnl) (obTZ chk lams fnl) 14000 names w := by
  intro os
  kernel_rfl
end K25

open PySem PySem.W PySem.Calls PyProof.Rows in
set_option maxRecDepth 100000 in
set_option maxHeartbeats 0 in
theorem PySem.Challenge.cw_tapedonce_k25_setups_refused_holds : PySem.Challenge.rw_tapedonce_k25_setups_refused.Holds := by
  w_on; o_law
  refine HandSHeadRun.head_any (r := OpenLaw.row PySem.Challenge.rw_tapedonce_k25_setups_refused) (q := K25.qv) (H := L2.TP.hookZ K25.chk K25.lams K25.fnl) (ob := L2.TP.obTZ K25.chk K25.lams K25.fnl) (M := 14000) (loose := K25.names) (d := HandSHeadRun.topDef (OpenLaw.row PySem.Challenge.rw_tapedonce_k25_setups_refused).prog 53) (kwd := []) L2.TP.obTZ_eq
    (by kernel_rfl) (fun s => by kernel_rfl) K25.run (by kernel_rfl) (by kernel_rfl) (by kernel_rfl) (by rfl) (by first | assumption | decide +kernel) (by decide +kernel) ⟨rfl, rfl, rfl, rfl, rfl, by decide +kernel⟩ ?hw ?hc
  case hw => w_witness2
  case hc => exact K25.walk2 (l := PySem.Challenge.rw_tapedonce_k25_setups_refused) (n := 63) rfl (by decide) (by kernel_rfl) ⟨rfl, by decide, by decide⟩ (by kernel_rfl) (by kernel_rfl) rfl rfl

