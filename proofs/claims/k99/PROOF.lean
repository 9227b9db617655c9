import PyProof.Rows.All
import Wide.All
import OpenK.AllK
import Wide.FinOn
import HandS.ForMost
import HandS.ForExc
import HandS.EndBits
import HandS.OwnEq
import HandS.IsInst
import HandS.Property
import HandS.ExcInit
import HandS.ExcField
import KE.KExcSuper
import KE.KOpsOwn
import HandS.Defaults
import HandS.ExcIs
import PyProof.ReprLen
import OpenK.KMeth
import OpenK.KOps
import KE.KStar
import HandS.ExcOwn
import HandS.More
import HandS.Lambda
import HandS.EndTab
import KE.KNestM
import HandS.SetFor
import HandS.MakeKwOnly
import HandS.Walk
import HandS.Head0
import HandS.Head1
import HandS.Head2
import HandS.HeadEnd
import HandS.HeadHook1
import HandS.HeadHook2
import HandS.Evl
import PySem.Challenge.RW_tapedonce_k99_errors_made_with_any_value
set_option Elab.async false
set_option linter.all false
set_option maxRecDepth 100000
set_option maxHeartbeats 4000000
/-! Layer A: promises of defs that are called where no text of a container is being made (so that repr may be used in them). -/
namespace L2.TP
open PySem PySem.Spec PyProof.Rows

/-- the promise of a def, where nothing shows itself -/
structure FnG (P : Program) (w : World) (K : PySem.W.Frag) (mg : Str → Option Value) (base : Heap) (CX : CXT) (k : Nat)
    (f : Addr) (fd : FuncData) (ps : List Str) (sp : Sp) : Prop where
  len : ∀ vs H Q E, sp vs H Q E → vs.length = ps.length
  run : ∀ (A : Around) (outer : List Env) (s : Shared) (H : Hp) (args : Args) (us : List Value) (vs : List V) (Q : VK) (E : XK),
    A.guards = some [] → Room k A → Env0 P w K mg base A outer s H → BindsTo s fd args (ps.zip us) → Vals vs us → sp vs H Q E →
    codeAny (model P w) A (.call (.ref f) args) (CR CX outer P w H s Q E) s

section
variable {P : Program} {w : World} {K : PySem.W.Frag} {mg : Str → Option Value} {base : Heap} {CX : CXT}
theorem FnG.of {k : Nat} {f : Addr} {fd : FuncData} {ps : List Str} {sp : Sp} (F : FnOk P w K mg base CX k f fd ps sp) : FnG P w K mg base CX k f fd ps sp :=
  ⟨F.len, fun A outer s H args us vs Q E _ hr => F.run A outer s H args us vs Q E hr⟩
theorem FnG.mono {j k : Nat} {f : Addr} {fd : FuncData} {ps : List Str} {sp : Sp} (F : FnG P w K mg base CX j f fd ps sp) (h : j ≤ k) : FnG P w K mg base CX k f fd ps sp :=
  ⟨F.len, fun A outer s H args us vs Q E hg hr => F.run A outer s H args us vs Q E hg (hr.mono h)⟩

/-- a def by its body, the body's around shows nothing -/
theorem fnG_of {k : Nat} {f : Addr} {name qual : Str} {params : Arguments} {body : List Stmt} {scope : Scope} {dV kV doc pm cdv ct oc : Value} {an od : Option Addr}
    {osl : Array (Option Value)} {N ps : List Str} {sp : Sp}
    (lk : K.lookup f = some ⟨oc, od, .func (PySem.W.fnOf name qual params body scope dV kV doc pm an cdv ct), osl⟩)
    (hcd : PySem.W.codeIn K cdv qual = true) (S : FnScope N ps scope) (len : ∀ vs H Q E, sp vs H Q E → vs.length = ps.length)
    (hbody : ∀ (A : Around) (outer : List Env) (s : Shared) (H : Hp) (vs : List V) (Q : VK) (E : XK), A.guards = some [] →
      Room k (A.deeper (envOfC qual scope s.heap.objs.size f cdv)) → sp vs H Q E →
      ∃ t, PSs (cxOf CX P w K mg base N qual scope f cdv A outer s H E) body t ∧ t { nx := fun _ H' => Q .non H', rt := Q } (start N vs) H) :
    FnG P w K mg base CX (k + 1) f (PySem.W.fnOf name qual params body scope dV kV doc pm an cdv ct) ps sp := by
  refine ⟨len, fun A outer s H args us vs Q E gA hr e0 hb r hsp => ?_⟩
  have sameLen := len _ _ _ _ hsp
  have inK : K.In s.heap := e0.mod.kin.keeps fun b o e => (e0.bs b o e).1
  have noLim : s.heap.NoLimit := e0.mod.nolimit.keeps fun b o e => (e0.bs b o e).1
  have kinds : ∀ y ∈ ps.zip us, scope.names.lookup y.1 = some .local ∨
      (scope.names.lookup y.1 = some .cell ∧ ((cellsFrom (s.heap.objs.size + 1) scope.names []).lookup y.1).isSome = true) := by
    rintro ⟨n, v⟩ hy
    rcases S.par n (List.of_mem_zip hy).1 with z | z
    · exact .inl z
    · exact .inr ⟨z, PySem.W.cellsFrom_some _ _ _ (.inl z)⟩
  refine codeAny_call_function hr.depth (inK _ _ lk) rfl S.co S.gen rfl (PySem.W.codeRec_of inK hcd) (hb _ _ _ _ ?_)
  refine wpAny_newFunctionEnv_cells S.kind kinds fun env he s1 x => ?_
  subst he
  refine ⟨noLim.keeps x.toInCall.keep, codeAny_func ?_⟩
  obtain ⟨t, ht, hq⟩ := hbody A outer s H vs Q E gA (hr.deeper _) hsp
  have I := inv_start (CX := CX) (E := E) S hr.hd e0 sameLen r x
  refine wpAny_mono (ht.run [] s1 (start N vs) H _ I hq) (fun fl s' hs => ?_) fun e s' hs => hs
  cases fl with
  | ret u =>
    obtain ⟨v, σ', H', J, rv, q⟩ := hs
    exact ⟨v, H', J.os, J.bare, J.base, J.hok, rv, q⟩
  | next =>
    obtain ⟨σ', H', J, q⟩ := hs
    exact ⟨.non, H', J.os, J.bare, J.base, J.hok, rfl, q⟩
  | brk =>
    obtain ⟨_, _, _, q⟩ := hs
    exact q.elim
  | cont =>
    obtain ⟨_, _, _, q⟩ := hs
    exact q.elim
end

section
variable {X : Cx} {CX : CXT} {k : Nat} {f : Addr} {fd : FuncData} {ps : List Str} {sp : Sp} {dvs : List V} {ds : List Value} {E : XK} {x : Str} {p pos : Pos} {e : Expr} {es : List Expr} {t : TA}
theorem run_fnG {pins : List (Addr × Obj)} {σ : St} {H : Hp} {s : Shared} {Q : VK} {us : List Value} {vs : List V}
    (F : FnG X.prog X.w X.K X.mg X.base CX k f fd ps sp) (gA : X.A.guards = some []) (hr : Room k X.A) (hb : Binds X.K fd ps ds) (hd : Vals dvs ds) (hx : Passes CX X E)
    (I : Inv X pins σ H s) (r : Vals vs us) (h : sp (vs ++ dvs) H Q E) : wpAny (model X.prog X.w) X.A (call (.ref f) us) (EP X pins σ Q) X.xe s := by
  have both : Vals (vs ++ dvs) (us ++ ds) := r.append hd
  have sz : (us ++ ds).length = ps.length := both.length.symm.trans (F.len _ _ _ _ h)
  refine wpAny_call (codeAny_mono (F.run X.A X.stack s H ⟨us, []⟩ (us ++ ds) (vs ++ dvs) Q E gA hr I.env0 (hb s us I.kIn sz) both h) fun r s' hq => ?_)
  cases r with
  | error e => exact hx pins σ H s e s' I hq
  | ok fl =>
    cases fl with
    | ret u => exact I.after hq
    | next => exact hq.elim
    | brk => exact hq.elim
    | cont => exact hq.elim
theorem pe_callG (F : FnG X.prog X.w X.K X.mg X.base CX k f fd ps sp) (gA : X.A.guards = some []) (hr : Room k X.A) (hg : Gl X x) (hm : X.mg x = some (.ref f))
    (hk : PySem.W.keepIn X.K (.ref f) = true) (hb : Binds X.K fd ps ds) (hd : Vals dvs ds) (hx : Passes CX X E)
    (ha : PA X (e :: es) t) (hdb : (x == ("__debug__" : Str)) = false := by decide)
    (he : starEach (e :: es) X.env = (false, eval e X.env) :: starEach es X.env := by rfl) (hpl : (backTo pos (starEach es X.env)).any (·.1) = false := by rfl) :
    PE X (.Call (.Name x p) (e :: es) [] pos) (tCall sp dvs E t) := by
  refine ⟨fun pins s σ H Q I h => wpAny_Call_Name_kw (ld_glob I hg hm ?_ hdb)⟩
  refine PySem.W.callWith_K (h₀ := X.base) I.ok.mod.kin hk (thn (ha.run pos pins s σ H _ I h) fun us s1 hh => ?_) he hpl
  obtain ⟨vs, H1, I1, r, q⟩ := hh
  exact ⟨I1.kIn, run_fnG F gA hr hb hd hx I1 r q⟩
end

/-! ### the def as it stands, and its promise -/
section
variable {P : Program} {w : World} {K : PySem.W.Frag} {mg : Str → Option Value} {base : Heap}
theorem okG {x qual : Str} {st : Stmt} {f : Addr} {fd : FuncData} {N ps : List Str} {k : Nat} {sp : Sp} (F : Fun K x qual st f fd) (S : FnScope N ps (defScope st))
    (len : ∀ vs H Q E, sp vs H Q E → vs.length = ps.length)
    (hbody : ∀ (cdv : Value) (A : Around) (outer : List Env) (s : Shared) (H : Hp) (vs : List V) (Q : VK) (E : XK), A.guards = some [] →
      Room k (A.deeper (envOfC qual (defScope st) s.heap.objs.size f cdv)) → sp vs H Q E →
      ∃ t, PSs (cxOf CX0 P w K mg base N qual (defScope st) f cdv A outer s H E).nox (defBody st) t ∧ t { nx := fun _ H' => Q .non H', rt := Q } (start N vs) H) :
    FnG P w K mg base CX0 (k + 1) f fd ps sp := by
  obtain ⟨oc, od, kV, doc, pm, an, cdv, ct, osl, rfl, lk, hcd⟩ := F.ex
  refine fnG_of lk hcd S len fun A outer s H vs Q E gA hr hsp => ?_
  obtain ⟨t, h, q⟩ := hbody cdv A outer s H vs Q E gA hr hsp
  exact ⟨t, h.nox, q⟩
end

/-! ### the law's own call -/
theorem law_callG {P : Program} {w : World} {K : PySem.W.Frag} {mg mb : Str → Option Value} {CX : CXT} {k : Nat} {fa a : Addr} {fd : FuncData} {x : Str} {sp : Sp} {s1 : Shared} {vs : List Value} {ns : List Int}
    (KX : K.In s1.heap) (hns : s1.heap.Ns mainGlobals mg) (hb : s1.heap.Ns builtinsNs mb) (hbb : ∀ x : Str, x ≠ "__name__" → mb x = bootBuiltins x) (hlim : s1.heap.NoLimit) (hg : s1.gens = #[])
    (ha : s1.heap.get? a = some { cls := .type "list", data := .seq vs.toArray }) (hi : IntsAre vs ns) (hl : ns.length ≤ sizeLine) (hr : Room k callerA)
    (F : ∀ base : Heap, K.In base → base.Ns mainGlobals mg → FnG P w K mg base CX k fa fd [x] sp) (hbind : ∀ (s : Shared) (u : Value), BindsTo s fd ⟨[u], []⟩ [(x, u)])
    (hsp : ∀ H : Hp, Only H → SqL K H a (ns.map V.int) → sp [.ref a] H (fun v _ => v = .bl true) fun _ _ _ => False)
    (hCX : ∀ H e s', CX [] H s1 (fun _ _ _ => False) e s' → False) :
    codeAny (model P w) callerA (.call (.ref fa) ⟨[.ref a], []⟩) (fun r s' => r = .ok (.ret (.bool true)) ∧ OldK s1.heap s'.heap ∧ s'.os = s1.os ∧ AllBare s'.gens) s1 := by
  have rv := vals_ints hi
  have lenV := hi.length
  have core : ∀ H : Hp, Only H → SqL K H a (ns.map V.int) → HOk P w H s1.heap → (∀ b, H b ≠ none → b = a) → (H a ≠ none → K.lookup a = none) →
      codeAny (model P w) callerA (.call (.ref fa) ⟨[.ref a], []⟩) (fun r s' => r = .ok (.ret (.bool true)) ∧ OldK s1.heap s'.heap ∧ s'.os = s1.os ∧ AllBare s'.gens) s1 := by
    intro H hO hS hok hA hK
    have notA : ∀ {b : Addr} {o : Obj} {es : Array DictEntry} {ep : Nat}, s1.heap.get? b = some o → o.data = .dict es ep → H b = none := by
      intro b o es ep e d
      cases q : H b with
      | none => rfl
      | some u =>
        have e' : b = a := hA b (by rw [q]; simp)
        subst e'
        rw [ha] at e
        cases e
        cases d
    have nsK : ∀ {b : Addr} {m : Str → Option Value}, s1.heap.Ns b m → (hidT s1.heap H).Ns b m := by
      rintro b m ⟨o, es, ep, e, d, r⟩
      exact ⟨o, es, ep, hidT_get e (notA e d), d, r⟩
    have hKb : K.In (hidT s1.heap H) := by
      intro b o e
      refine hidT_get (KX b o e) ?_
      cases q : H b with
      | none => rfl
      | some u =>
        have e' : b = a := hA b (by rw [q]; simp)
        subst e'
        rw [hK (by rw [q]; simp)] at e
        cases e
    have hM : Mod K mg (hidT s1.heap H) := ⟨hKb, nsK hns, ⟨mb, nsK hb, hbb⟩, let ⟨mc, h1, h2⟩ := hlim; ⟨mc, nsK h1, h2⟩⟩
    have e0 : Env0 P w K mg (hidT s1.heap H) callerA [] s1 H :=
      ⟨rfl, hM, fun b o e => of_hidT e, Nat.le_of_eq (hidT_size _ _), trivial, fun b hb => absurd (show b ∈ ([] : List Addr) from hb) (by simp), hok, .of_eq hg⟩
    refine codeAny_mono ((F _ hKb (nsK hns)).run callerA [] s1 H ⟨[.ref a], []⟩ [.ref a] [.ref a] _ _ rfl hr e0 (hbind s1 (.ref a)) (.cons rfl .nil) (hsp H hO hS)) fun r s' h => ?_
    cases r with
    | error e => exact (hCX H e s' h).elim
    | ok fl =>
      cases fl with
      | next => exact h.elim
      | brk => exact h.elim
      | cont => exact h.elim
      | ret u =>
        obtain ⟨v, H', os, bare, un, hok', r', q⟩ := h
        have q' : v = .bl true := q
        subst q'
        obtain rfl : u = Value.bool true := r'
        refine ⟨rfl, OldK.of_keep fun b o e => ?_, os, bare⟩
        cases q : H b with
        | none => exact un.keep b o e q (fun z => absurd (show b ∈ ([] : List Addr) from z) (by simp)) (by simp)
        | some u =>
          rcases hO b with z | ⟨ob, xs, z⟩
          · rw [q] at z
            cases z
          · have z2 := un.frzs b ob _ z
            obtain ⟨e1, _⟩ := hok b _ z
            obtain ⟨e2, _⟩ := hok' b _ z2
            rw [e] at e1
            cases e1
            exact e2
  cases hk : K.lookup a with
  | some o =>
    have e := KX a o hk
    rw [ha] at e
    cases e
    exact core (fun _ => none) (fun _ => .inl rfl) (.inr ⟨_, vs.toArray, _, hk, rfl, rfl, rfl, by rw [List.size_toArray, lenV]; exact hl, by simpa using rv⟩)
      (fun b u z => by cases (show (none : Option HO) = some u from z)) (fun b z => absurd rfl z) fun z => absurd rfl z
  | none =>
    refine core (fun b => if b = a then some (.frz { cls := .type "list", data := .seq vs.toArray } (.lst (ns.map V.int))) else none) (fun b => ?_)
      (.inl (.inr ⟨{ cls := .type "list", data := .seq vs.toArray }, if_pos rfl⟩)) (fun b u z => ?_) (fun b z => ?_) fun _ => hk
    · by_cases hb : b = a
      · exact .inr ⟨_, _, if_pos hb⟩
      · exact .inl (if_neg hb)
    · by_cases hb : b = a
      · cases (if_pos hb).symm.trans z
        subst hb
        exact ⟨ha, by rw [List.length_map]; exact hl, vs, _, rv, ha⟩
      · cases (if_neg hb).symm.trans z
    · by_cases hb : b = a
      · exact hb
      · exact absurd (if_neg hb) z

/-- the goal that the head leaves, from the law's promise -/
theorem walkG {l : PySem.W.OpenLaw} {n k : Nat} {q : Program} {loose : List Str} {XP : (Str → Option Value) → Heap → Prop} {YP : World → Heap → Prop} {d : DefRec} {K : Params → PySem.W.Frag} {CX : CXT} {sp : PySem.W.Frag → Sp} {x : Str}
    (hn : l.most = some n) (hn2 : n ≤ sizeLine) (hdf : d.params.defaults = []) (hr : Room k callerA)
    (hY : ∀ (w : World) (h : Heap), YP w h → (K w.params).In h)
    (F : ∀ (w : World) (mg : Str → Option Value) (fa : Addr) (h : Heap), (K w.params).In h → h.Ns mainGlobals mg → mg d.name = some (.ref fa) →
      ∃ fd : FuncData, (∀ (s : Shared) (u : Value), BindsTo s fd ⟨[u], []⟩ [(x, u)]) ∧
        ∀ base : Heap, (K w.params).In base → base.Ns mainGlobals mg → FnG l.prog w (K w.params) mg base CX k fa fd [x] (sp (K w.params)))
    (hsp : ∀ (K : PySem.W.Frag) (H : Hp) (a : Addr) (ns : List Int), ns.length ≤ n → (∀ z ∈ ns, Builtin.Int.intBits z ≤ 1048576) → Only H → SqL K H a (ns.map V.int) → sp K [.ref a] H (fun v _ => v = .bl true) fun _ _ _ => False)
    (hCX : ∀ (H : Hp) (s : Shared) (e : Value) (s' : Shared), CX [] H s (fun _ _ _ => False) e s' → False) :
    PySem.W.WalkO q loose XP YP l.row.toRowW d [] (fun f vs => PySem.call f vs) := by
  refine Att.attach_callB hn hdf fun w s0 s1 mg mb fa o pm cd doc a vs ns G Y ho hd hcd hmg hobj hints hlen hbits hg => ?_
  have KX := hY w _ Y
  obtain ⟨fd, hb, hF⟩ := F w mg fa _ KX G.T.g hmg
  exact law_callG KX G.T.g G.T.b G.T.builtins G.T.nolimit hg hobj hints (Nat.le_trans hlen hn2) hr hF hb (fun H hO hS => hsp _ H a ns hlen hbits hO hS) fun H e s' => hCX H s1 e s'
end L2.TP

/-! Layer B: repr of data (no dicts within), data kept while the heap grows. -/
namespace L2.TP
open PySem PySem.Spec PyProof.Rows

section
variable {K : PySem.W.Frag} {H H' : Hp}
mutual
theorem Dp.ext (e : Ext H H') : ∀ (d : PyData) (v : V), Dp K H v d → Dp K H' v d
  | .none, _, h => by cases h; exact .non
  | .bool b, _, h => by cases h; exact .bl b
  | .int i, _, h => by cases h; exact .int i
  | .str x, _, h => by cases h; exact .str x
  | .list ds, _, h => by
    cases h with
    | lst hs ha => exact .lst (SqL.ext hs e) (DpAll.ext e ds _ ha)
  | .tuple ds, _, h => by
    cases h with
    | tup hs ha => exact .tup (SqT.ext hs e) (DpAll.ext e ds _ ha)
  | .dict _, _, h => by cases h
theorem DpAll.ext (e : Ext H H') : ∀ (ds : List PyData) (vs : List V), DpAll K H vs ds → DpAll K H' vs ds
  | [], _, h => by cases h; exact .nil
  | d :: ds, _, h => by
    cases h with
    | cons h1 h2 => exact .cons (Dp.ext e d _ h1) (DpAll.ext e ds _ h2)
end
mutual
theorem Dp.noDict : ∀ (d : PyData) (v : V), Dp K H v d → d.hasDict = false
  | .none, _, _ => rfl
  | .bool _, _, _ => rfl
  | .int _, _, _ => rfl
  | .str _, _, _ => rfl
  | .list ds, _, h => by
    cases h with
    | lst _ ha => exact DpAll.noDict ds _ ha
  | .tuple ds, _, h => by
    cases h with
    | tup _ ha => exact DpAll.noDict ds _ ha
  | .dict _, _, h => by cases h
theorem DpAll.noDict : ∀ (ds : List PyData) (vs : List V), DpAll K H vs ds → PyData.hasDictAll ds = false
  | [], _, _ => rfl
  | d :: ds, _, h => by
    cases h with
    | cons h1 h2 =>
      show (d.hasDict || PyData.hasDictAll ds) = false
      rw [Dp.noDict d _ h1, DpAll.noDict ds _ h2]
      rfl
end
end

/-- repr(x): x stands for the data d -/
def rRepr (K : PySem.W.Frag) : List V → Hp → VK → Prop := fun xs H Q => ∃ v d, xs = [v] ∧ Dp K H v d ∧ d.showable = true ∧ d.depth ≤ 40 ∧ d.shown.length ≤ sizeLine ∧ Q (.str d.shown) H
section
variable {X : Cx}
theorem call_repr (gA : X.A.guards = some []) {k : Nat} (hr : Room k X.A) : CallR X (.builtin "repr") (rRepr X.K) := by
  intro pins s σ H xs us Q I r h
  obtain ⟨v, d, rfl, hd, sh, dep, sz, q⟩ := h
  obtain ⟨u, rfl, ru⟩ := vals1 r
  have room : X.A.units + (d.depth + 1) < cLine := by
    have := hr.un
    omega
  cases hd with
  | non =>
    cases ru
    exact PySem.P.repr_of_none ⟨.str _, H, I.tok _, ⟨_, rfl⟩, q⟩
  | bl b =>
    cases ru
    exact PySem.P.repr_of_bool ⟨.str _, H, I.tok _, ⟨_, rfl⟩, q⟩
  | int i =>
    obtain ⟨t, rfl⟩ := ru
    exact PySem.P.repr_of_int (of_decide_eq_true sh) ⟨.str _, H, I.tok _, ⟨_, rfl⟩, q⟩
  | str x =>
    obtain ⟨t, rfl⟩ := ru
    exact PySem.P.repr_of_str ⟨.str _, H, I.tok _, ⟨_, rfl⟩, q⟩ sz
  | lst hs ha =>
    cases ru
    obtain ⟨as, rd⟩ := Dp.reads I _ _ _ (Dp.lst hs ha) rfl
    exact repr_of_reads' rd sh (PyData.noDict_hsm (Dp.noDict _ _ (Dp.lst hs ha))) gA room (fun _ _ e => e) (fun h' u tk hk => ⟨.str _, H, I.kept hk, ⟨_, rfl⟩, q⟩) sz
  | tup hs ha =>
    cases ru
    obtain ⟨as, rd⟩ := Dp.reads I _ _ _ (Dp.tup hs ha) rfl
    exact repr_of_reads' rd sh (PyData.noDict_hsm (Dp.noDict _ _ (Dp.tup hs ha))) gA room (fun _ _ e => e) (fun h' u tk hk => ⟨.str _, H, I.kept hk, ⟨_, rfl⟩, q⟩) sz
end
end L2.TP

/-! Layer C: own errors whose __init__ says super().__init__(a) and then keeps its arguments under their names. -/
namespace PySem.TPX
open PySem.W PySem.Calls PyProof.Rows PySem.HandSPX

/-- super().__init__(a) -/
def supS (a : Str) (q1 q2 q3 q4 q5 q6 : Pos) : Stmt := .Expr (.Call (.Attribute (.Call (.Name "super" q1) [] [] q2) "__init__" q3) [.Name a q4] [] q5) q6
/-- self.f = f -/
def keepS (f : Str) (r1 r2 r3 r4 : Pos) : Stmt := .Assign [.Attribute (.Name "self" r1) f r2] (.Name f r3) r4
/-- the names of such an __init__ -/
structure IniS (fs : List Str) (scope : Scope) : Prop where
  kind : scope.kind = .function
  co : scope.isCoroutine = false
  gen : scope.isGenerator = false
  nocell : ∀ x ∈ scope.names, x.2 ≠ .cell
  sup : scope.names.lookup ("super" : Str) = some .globalImplicit
  cls : scope.names.lookup ("__class__" : Str) = some .free
  slf : scope.names.lookup ("self" : Str) = some .local
  fld : ∀ f ∈ fs, scope.names.lookup f = some .local
  dbg : ∀ f ∈ fs, (f == ("__debug__" : Str)) = false
  nself : ∀ f ∈ fs, f ≠ ("self" : Str)

/-- what the written part says of the error's class at C and of its __init__ at fI -/
structure ErrK (prog : Program) (K : Frag) (fs : List Str) (C fI : Addr) (fd : FuncData) : Prop where
  cls : ∃ nm q N bs bm sn sub ab col dd k0 k1 k2 k3 k5, K.lookup C = some (excClassObj nm q C N bs bm true sn sub ab col dd k0 k1 k2 k3 k5 "ValueError.__new__") ∧ refsVE bm = true
  sa : findIn K (.ref C) "__setattr__" = some (some (.builtin "object.__setattr__"))
  iC : findIn K (.ref C) "__init__" = some (some (.ref fI))
  tI : typeIn K (.ref fI) = some (.type "function")
  sup : ks_superIn K C C "__init__" = some (some (.builtin "ValueError.__init__"))
  sB : subIn K (.ref C) (.type "ValueError") = some true
  mC : mroIn K C (.ref C) = some true
  nS : nsIn K mainGlobals "super" = some none
  tp : nsIn K cStatics "thirdparty.any" = some none
  top : (prog.main.scope.names.lookup ("super" : Str)).isSome = false
  nof : ∀ f ∈ fs, findIn K (.ref C) f = some none
  fn : ∃ (oc : Value) (od : Option Addr) (osl : Array (Option Value)) (qual : Str) (params : Arguments) (body : List Stmt) (scope : Scope) (dV kV doc pm : Value) (an : Option Addr) (cda : Addr) (ct : Value) (cc : Addr),
    fd = ksFn "__init__" qual params body scope dV kV doc pm an (.ref cda) ct cc ∧ K.lookup fI = some ⟨oc, od, .func fd, osl⟩ ∧ codeIn K (.ref cda) qual = true ∧
    (∃ ccl cdd vs ccs file tf, K.lookup cda = some ⟨ccl, cdd, .fields vs, ccs⟩ ∧ vs[2]? = some (.str file tf) ∧ ((prog.main.file : Str) == file) = true) ∧
    (∃ cl cld csl, K.lookup cc = some ⟨cl, cld, .cell (some (.ref C)), csl⟩) ∧
    (∃ ar : Arg, (params.posonlyargs ++ params.args).head? = some ar ∧ ar.arg = "self") ∧ IniS fs scope ∧
    ((∃ f q1 q2 q3 q4 q5 q6 r1 r2 r3 r4, (q3.endLine == q5.line) = true ∧ fs = [f] ∧ body = [supS f q1 q2 q3 q4 q5 q6, keepS f r1 r2 r3 r4]) ∨
     (∃ f g q1 q2 q3 q4 q5 q6 r1 r2 r3 r4 p1 p2 p3 p4, (q3.endLine == q5.line) = true ∧ fs = [f, g] ∧ f ≠ g ∧ body = [supS f q1 q2 q3 q4 q5 q6, keepS f r1 r2 r3 r4, keepS g p1 p2 p3 p4]))

section
variable {prog : Program} {w : World} {A : Around} {E : Value → Shared → Prop} {R : Result → Shared → Prop} {s : Shared} {K : Frag} {mg mb : Str → Option Value} {C fI : Addr} {fs : List Str} {fd : FuncData}

/-- what __init__ leaves of a fresh exception at x -/
structure IniEnd (fs : List Str) (vs : List Value) (h h' : Heap) (x C dx : Addr) : Prop where
  keep : ∀ b o, b ≠ x → h.get? b = some o → h'.get? b = some o
  obj : ∃ t1 : Addr, h'.get? x = some { cls := .ref C, dict := some dx, data := .fields #[.ref t1, .none, .none, .none, .bool false, .none] }
  dbig : h.objs.size ≤ dx
  dne : dx ≠ x
  ns : ∃ mA, h'.Ns1 dx mA ∧ ∀ y, mA y = (fs.zip vs).lookup y
theorem look1 (f y : Str) (v : Value) : (if y = f then some v else none) = [(f, v)].lookup y := by
  by_cases h : y = f
  · subst h
    simp [List.lookup]
  · have q : (y == f) = false := by simpa using h
    simp [List.lookup, q, h]
theorem look2 {f g : Str} (hfg : f ≠ g) (y : Str) (v u : Value) : (if y = g then some u else if y = f then some v else none) = [(f, v), (g, u)].lookup y := by
  by_cases h : y = f
  · subst h
    have q : ¬ y = g := hfg
    simp [List.lookup, q]
  · have q : (y == f) = false := by simpa using h
    by_cases h2 : y = g
    · subst h2
      simp [List.lookup, q]
    · have q2 : (y == g) = false := by simpa using h2
      simp [List.lookup, q, q2, h, h2]

theorem clsIn_err {nm q : Str} {N : Addr} {bs bm : List Value} {sn : List Str} {sub : List Value} {ab : Bool} {col : Option Bool} {dd : Option Addr} {k0 k1 k2 k3 k5 : Option Value}
    (hC : K.lookup C = some (excClassObj nm q C N bs bm true sn sub ab col dd k0 k1 k2 k3 k5 "ValueError.__new__")) :
    clsIn K C = some { name := nm, bases := bs, mro := .ref C :: bm, ns := N, qualname := q, hasDict := true, slotNames := sn, subclasses := sub, abstract := ab, collection := col, hasDel := false } := by
  unfold clsIn
  rw [hC]

/-- super().__init__(a), in the body of such an __init__, at its beginning -/
theorem sup_run (T : ErrK prog K fs C fI fd) {x t0 : Addr} {v : Value} {f : Str} {q1 q2 q3 q4 q5 q6 : Pos} {body : List Stmt} {qual : Str} {params : Arguments} {scope : Scope} {dV kV doc pm : Value} {an : Option Addr} {cda cc : Addr} {ct : Value}
    {oc : Value} {od : Option Addr} {osl : Array (Option Value)} {L : Addr} {m : Str → Option Value} {Q : Flow → Shared → Prop}
    (efd : fd = ksFn "__init__" qual params body scope dV kV doc pm an (.ref cda) ct cc) (lf : K.lookup fI = some ⟨oc, od, .func fd, osl⟩)
    (hcode : ∃ ccl cdd vs ccs file tf, K.lookup cda = some ⟨ccl, cdd, .fields vs, ccs⟩ ∧ vs[2]? = some (.str file tf) ∧ ((prog.main.file : Str) == file) = true)
    (hcell : ∃ cl cld csl, K.lookup cc = some ⟨cl, cld, .cell (some (.ref C)), csl⟩)
    (hpos : (q3.endLine == q5.line) = true) (hpar : ∃ ar : Arg, (params.posonlyargs ++ params.args).head? = some ar ∧ ar.arg = "self") (S : IniS fs scope) (hf : f ∈ fs)
    (X : K.In s.heap) (hgl : s.heap.Ns mainGlobals mg) (hbl : s.heap.Ns builtinsNs mb) (hbb : ∀ x : Str, x ≠ "__name__" → mb x = bootBuiltins x)
    (hns : s.heap.Ns L m) (ms : m "self" = some (.ref x)) (mf : m f = some v) (hx : s.heap.get? x = some (excO C t0))
    (hq : ∀ h' tk t1, (∀ b o, b ≠ x → s.heap.get? b = some o → h'.get? b = some o) → h'.get? x = some (excO C t1) → Q .next { s with heap := h', toks := tk }) :
    wpAt (model prog w) A (.func body (ksEnv qual scope L fI (.ref cda) cc)) (exec (supS f q1 q2 q3 q4 q5 q6) (ksEnv qual scope L fI (.ref cda) cc)) Q E s := by
  obtain ⟨nm, q, N, bs, bm, sn, sub, ab, col, dd, k0, k1, k2, k3, k5, hC, hbm⟩ := T.cls
  obtain ⟨ccl, cdd, vs, ccs, file, tf, lc, hvs, hfile⟩ := hcode
  obtain ⟨cl, cld, csl, lcell⟩ := hcell
  obtain ⟨ar, hhead, har⟩ := hpar
  have hcl := clsIn_err hC
  have hC1 := X _ _ hC
  have hInst : InstAt s.heap x (excO C t0) C none := ⟨hx, rfl, rfl, trivial⟩
  refine ks_wpAt_Expr_any ?_ (by show (scope.kind == ScopeKind.module && _) = false; rw [S.kind]; rfl) rfl
  refine ks_wpAt_MethodCall (pl := (do return (← importBound (.Call (.Name "super" q1) [] [] q2) (ksEnv qual scope L fI (.ref cda) cc)).getD true)) ?_ (by
    show (do
      let ov ← attributeBase (.Call (.Name "super" q1) [] [] q2) "__init__" (ksEnv qual scope L fI (.ref cda) cc) (eval (.Call (.Name "super" q1) [] [] q2) (ksEnv qual scope L fI (.ref cda) cc))
      standAt q3.atName
      methodCall (.Call (.Name "super" q1) [] [] q2) "__init__" q3 q5 (ksEnv qual scope L fI (.ref cda) cc) ov 1 (backTo q5 (starEach [.Name f q4] (ksEnv qual scope L fI (.ref cda) cc))) []) = _
    unfold methodCall methodCallPos
    rw [hpos]
    rfl)
  obtain ⟨hh, g, d, tk, os⟩ := s
  refine ks_wpAt_super_base (env := ksEnv qual scope L fI (.ref cda) cc) S.sup S.cls (by decide) rfl (X _ _ lf) rfl (by rw [efd]; exact hhead) rfl (X _ _ lc) rfl hvs hfile T.top ?_
  refine ks_loadName_global S.kind S.sup (loadGlobal_builtin (env := ksEnv qual scope L fI (.ref cda) cc) hgl (mg_none_of X hgl T.nS) hbl ((hbb _ (by decide +kernel)).trans (by decide +kernel)) ⟨rfl, ?_⟩)
  refine wpAny_loadName_free S.kind S.cls rfl ⟨_, X _ _ lcell, rfl⟩ ?_
  refine wpAny_loadName_local S.kind (by rw [har]; exact S.slf) hns (by rw [har]; exact ms) ?_
  refine ks_wpAny_isType_cls hC1 rfl ⟨rfl, ?_⟩
  refine ks_wpAny_call_super hC1 rfl hx rfl (fun c z => nomatch z) (looks_mroIn X T.mC) (fun h1 e1 k1 => ?_)
  have X1 := X.keeps k1
  have hx1 := k1 _ _ hx
  have hI1 : InstAt h1 x (excO C t0) C none := ⟨hx1, rfl, rfl, trivial⟩
  have sup : alongIn K "__init__" ((((Value.ref C :: bm).dropWhile (· != .ref C)).drop 1)) = some (some (.builtin "ValueError.__init__")) := by
    have z := T.sup
    unfold ks_superIn at z
    rw [hcl, Option.bind_some] at z
    exact z
  refine kxs_getMethod kxs_ValueError e1 (looks_opaque X1 T.tp) (l₀ := Value.ref C :: bm) (fun A Q E s k q => wpAny_bind ((looks_clsIn X1 hcl) A _ E s k (wpAny_pure q))) rfl X1 sup (hI1.type.andThen (looks_subIn X1 T.sB)) (ks_ne X1 hI1 hcl) (by decide) ?_
  have k2 : ∀ b o, h1.get? b = some o → (h1.push (kxs_mw "ValueError.__init__" x)).get? b = some o := fun b o e => Heap.get?_push_of_some _ e
  have hu : (h1.push (kxs_mw "ValueError.__init__" x)).get? h1.objs.size = some (kxs_mw "ValueError.__init__" x) := Heap.get?_push_at rfl rfl
  have hst : starEach [Expr.Name f q4] (ksEnv qual scope L fI (.ref cda) cc) = (false, eval (.Name f q4) (ksEnv qual scope L fI (.ref cda) cc)) :: starEach [] (ksEnv qual scope L fI (.ref cda) cc) := rfl
  rw [hst]
  refine kxs_callWith (i := "ValueError.__init__") (x := x) rfl (evalArgs_plain (spliced_cons ?_))
  have hns2 := (hns.keeps k1).keeps k2
  refine wpAny_Name (wpAny_loadName_local S.kind (S.fld f hf) hns2 mf ?_) (S.dbg f hf)
  refine spliced_nil ⟨hu, ?_⟩
  refine wpAny_call (codeAny_of_tree ?_)
  show wpAny _ A.in1 (callAny (.ref h1.objs.size) ⟨[v], []⟩) _ _ _
  simp only [callAny]
  refine wpAny_bind (wpAny_load hu ?_)
  simp only [kxs_mw, show (Value.type "method-wrapper" == Value.type "method" || Value.type "method-wrapper" == Value.type "builtin_function_or_method" || Value.type "method-wrapper" == Value.type "method-wrapper") = true by decide, if_true]
  refine KFB.if_so (by decide) ?_
  refine wpAny_bind (check_bound_init F.excBase_ValueError.toExcCallFacts (k2 _ _ (k1 _ _ hC1)) (k2 _ _ hx1) rfl ?_)
  refine wpAny_bind (wpAny_pure (wpAny_pure ?_))
  refine ⟨plainId_quiet F.excBase_ValueError.init.plain _, codeAny_builtin F.excBase_ValueError.initEntry ?_⟩
  refine exc_init_tree (cls := .ref C) (t0 := t0) (dv := none) (c2 := .none) (c3 := .none) (b4 := .bool false) (k2 _ _ hx1) (by show 1 ≤ sizeLine; rw [sizeLine_eq]; decide) (fun h' kk e' t' => ?_)
  exact hq h' _ _ (fun b o hb e => kk b o hb (k2 _ _ (k1 _ _ e))) e'

/-- self.f = f, the first one -/
theorem keep_new (T : ErrK prog K fs C fI fd) {x t0 : Addr} {v : Value} {f : Str} {r1 r2 r3 r4 : Pos} {qual : Str} {scope : Scope} {cda cc L : Addr} {m : Str → Option Value} {Q : Flow → Shared → Prop}
    (S : IniS fs scope) (hf : f ∈ fs) (X : K.In s.heap) (hns : s.heap.Ns L m) (ms : m "self" = some (.ref x)) (mf : m f = some v) (hx : s.heap.get? x = some (excO C t0))
    (hq : ∀ h' tk dx, (∀ b o, b ≠ x → s.heap.get? b = some o → h'.get? b = some o) → s.heap.objs.size ≤ dx → dx ≠ x →
      h'.get? x = some { cls := .ref C, dict := some dx, data := .fields #[.ref t0, .none, .none, .none, .bool false, .none] } →
      h'.Ns1 dx (fun y => if y = f then some v else none) → Q .next { s with heap := h', toks := tk }) :
    wpAny (model prog w) A (exec (keepS f r1 r2 r3 r4) (ksEnv qual scope L fI (.ref cda) cc)) Q E s := by
  obtain ⟨nm, q, N, bs, bm, sn, sub, ab, col, dd, k0, k1, k2, k3, k5, hC, hbm⟩ := T.cls
  have hcl := clsIn_err hC
  refine plainObj_wpAny_Assign_Attribute ?_
  refine wpAny_Name (wpAny_loadName_local S.kind (S.fld f hf) hns mf ?_) (S.dbg f hf)
  refine wpAny_Name (wpAny_loadName_local S.kind S.slf hns ms ?_) (by decide)
  obtain ⟨hh, g, d, tk, os⟩ := s
  refine set_plain X (ox := excO C t0) (od := none) ⟨hx, rfl, rfl, trivial⟩ T.sa ?_
  exact exc_osa X hx hcl (show refsVE (.ref C :: bm) = true from hbm) rfl (T.nof f hf) (fun h3 tk3 dx k3 dn dne hx3 hn3 => hq h3 tk3 dx k3 dn dne hx3 hn3)

/-- self.g = g, a further one -/
theorem keep_old (T : ErrK prog K fs C fI fd) {x t0 dx : Addr} {v : Value} {f : Str} {r1 r2 r3 r4 : Pos} {qual : Str} {scope : Scope} {cda cc L : Addr} {m m0 : Str → Option Value} {nl : List Str} {Q : Flow → Shared → Prop}
    (S : IniS fs scope) (hf : f ∈ fs) (X : K.In s.heap) (hns : s.heap.Ns L m) (ms : m "self" = some (.ref x)) (mf : m f = some v)
    (hx : s.heap.get? x = some { cls := .ref C, dict := some dx, data := .fields #[.ref t0, .none, .none, .none, .bool false, .none] }) (hn : s.heap.Ns1 dx m0) (hw : Within m0 nl) (hz : nl.length ≤ 1000)
    (hq : ∀ h' tk, (∀ b o, b ≠ dx → s.heap.get? b = some o → h'.get? b = some o) → h'.Ns1 dx (fun y => if y = f then some v else m0 y) → Q .next { s with heap := h', toks := tk }) :
    wpAny (model prog w) A (exec (keepS f r1 r2 r3 r4) (ksEnv qual scope L fI (.ref cda) cc)) Q E s := by
  obtain ⟨nm, q, N, bs, bm, sn, sub, ab, col, dd, k0, k1, k2, k3, k5, hC, hbm⟩ := T.cls
  have hcl := clsIn_err hC
  refine plainObj_wpAny_Assign_Attribute ?_
  refine wpAny_Name (wpAny_loadName_local S.kind (S.fld f hf) hns mf ?_) (S.dbg f hf)
  refine wpAny_Name (wpAny_loadName_local S.kind S.slf hns ms ?_) (by decide)
  obtain ⟨oD, esD, epD, hoD, hdD, _⟩ := hn.count hw
  obtain ⟨hh, g, d, tk, os⟩ := s
  refine set_plain X (od := some oD) ⟨hx, rfl, rfl, hoD⟩ T.sa ?_
  exact OEX.osa_old X hx hn hw hz hcl (show refsVE (.ref C :: bm) = true from hbm) rfl (T.nof f hf) (fun h3 tk3 k3 hn3 => hq h3 tk3 k3 hn3)

/-- the whole of __init__ -/
theorem err_init (T : ErrK prog K fs C fI fd) {x t0 : Addr} {vs : List Value} {args : Args} (hl : vs.length = fs.length) (X : K.In s.heap) (hlim : s.heap.NoLimit)
    (hgl : s.heap.Ns mainGlobals mg) (hbl : s.heap.Ns builtinsNs mb) (hbb : ∀ x : Str, x ≠ "__name__" → mb x = bootBuiltins x)
    (hx : s.heap.get? x = some (excO C t0)) (hnx : K.lookup x = none) (hroom : A.depth < recursionLimit)
    (hbind : BindsTo s fd args (("self", .ref x) :: fs.zip vs))
    (hq : ∀ h' tk dx, IniEnd fs vs s.heap h' x C dx → R (.ok (.ret .none)) { s with heap := h', toks := tk }) :
    codeAny (model prog w) A (.call (.ref fI) args) R s := by
  obtain ⟨oc, od, osl, qual, params, body, scope, dV, kV, doc, pm, an, cda, ct, cc, efd, lf, hcd, hcode, hcell, hpar, S, hshape⟩ := T.fn
  have butx : ∀ {h h' : Heap}, K.In h → (∀ b o, b ≠ x → h.get? b = some o → h'.get? b = some o) → K.In h' := fun {h h'} Y k a o e =>
    k a o (fun z => by rw [z, hnx] at e; cases e) (Y a o e)
  have hloc : ∀ y ∈ (("self", .ref x) :: fs.zip vs : List (Str × Value)), scope.names.lookup y.1 = some .local := fun y hy => by
    rcases List.mem_cons.mp hy with z | z
    · rw [z]
      exact S.slf
    · exact S.fld _ (List.of_mem_zip z).1
  subst efd
  refine ks_codeAny_call_defAt (body := body) (binds := ("self", .ref x) :: fs.zip vs) hroom (X _ _ lf) rfl hlim (codeRec_of X hcd) rfl hbind S.nocell hloc (fun h1 hns hk1 => ?_) S.co S.gen S.kind
  have X1 := X.keeps hk1
  have hx1 := hk1 _ _ hx
  have hL : ∀ {h' : Heap}, (∀ b o, b ≠ x → h1.get? b = some o → h'.get? b = some o) → ∀ {m}, h1.Ns s.heap.objs.size m → h'.Ns s.heap.objs.size m := fun {h'} k {m} ⟨o, es, ep, e, r⟩ =>
    ⟨o, es, ep, k _ _ (Nat.ne_of_gt (Heap.lt_size hx)) e, r⟩
  rcases hshape with ⟨f, q1, q2, q3, q4, q5, q6, r1, r2, r3, r4, hpos, rfl, rfl⟩ | ⟨f, g, q1, q2, q3, q4, q5, q6, r1, r2, r3, r4, p1, p2, p3, p4, hpos, rfl, hfg, rfl⟩
  · obtain ⟨v, rfl⟩ : ∃ v, vs = [v] := by
      cases vs with
      | nil => cases hl
      | cons v r =>
        cases r with
        | nil => exact ⟨v, rfl⟩
        | cons _ _ => cases hl
    have nf : (("self" : Str) == f) = false := by simpa using (S.nself f (by simp)).symm
    have ms : ([("self", .ref x), (f, v)] : List (Str × Value)).reverse.lookup ("self" : Str) = some (Value.ref x) := by simp [List.lookup, nf]
    have mf : ([("self", .ref x), (f, v)] : List (Str × Value)).reverse.lookup f = some v := by simp [List.lookup]
    refine ks_wpAt_execs_cons (sup_run T rfl lf hcode hcell hpos hpar S (by simp) X1 (hgl.keeps hk1) (hbl.keeps hk1) hbb hns ms mf hx1 (fun h2 tk2 t2 k2 hx2 => ?_))
    refine ks_wpAt_execs_cons (wpAt_of_wpAny (keep_new T S (by simp) (butx X1 k2) (hL k2 hns) ms mf hx2 (fun h3 tk3 dx k3 dn dne hx3 hn3 => ?_)))
    refine wpAt_of_wpAny (wpAny_execs_nil ?_)
    have z : s.heap.objs.size ≤ dx := Nat.le_of_lt (Nat.lt_of_lt_of_le (hL k2 hns).lt dn)
    exact hq h3 tk3 dx ⟨fun b o hb e => k3 b o hb (k2 b o hb (hk1 b o e)), ⟨_, hx3⟩, z, dne, _, hn3, fun y => look1 f y v⟩
  · obtain ⟨v, u, rfl⟩ : ∃ v u, vs = [v, u] := by
      cases vs with
      | nil => cases hl
      | cons v r =>
        cases r with
        | nil => cases hl
        | cons u r =>
          cases r with
          | nil => exact ⟨v, u, rfl⟩
          | cons _ _ => cases hl
    have nf : (("self" : Str) == f) = false := by simpa using (S.nself f (by simp)).symm
    have ng : (("self" : Str) == g) = false := by simpa using (S.nself g (by simp)).symm
    have fg : (f == g) = false := by simpa using hfg
    have ms : ([("self", .ref x), (f, v), (g, u)] : List (Str × Value)).reverse.lookup ("self" : Str) = some (Value.ref x) := by simp [List.lookup, nf, ng]
    have mf : ([("self", .ref x), (f, v), (g, u)] : List (Str × Value)).reverse.lookup f = some v := by simp [List.lookup, fg]
    have mu : ([("self", .ref x), (f, v), (g, u)] : List (Str × Value)).reverse.lookup g = some u := by simp [List.lookup]
    refine ks_wpAt_execs_cons (sup_run T rfl lf hcode hcell hpos hpar S (by simp) X1 (hgl.keeps hk1) (hbl.keeps hk1) hbb hns ms mf hx1 (fun h2 tk2 t2 k2 hx2 => ?_))
    refine ks_wpAt_execs_cons (wpAt_of_wpAny (keep_new T S (by simp) (butx X1 k2) (hL k2 hns) ms mf hx2 (fun h3 tk3 dx k3 dn dne hx3 hn3 => ?_)))
    have X3 : K.In h3 := butx (butx X1 k2) k3
    have hns3 : h3.Ns s.heap.objs.size _ := hL (fun b o hb e => k3 b o hb (k2 b o hb e)) hns
    refine ks_wpAt_execs_cons (wpAt_of_wpAny (keep_old T S (by simp) X3 hns3 ms mu hx3 hn3 (Within.cons f v Within.nil) (by show 1 ≤ 1000; decide) (fun h4 tk4 k4 hn4 => ?_)))
    refine wpAt_of_wpAny (wpAny_execs_nil ?_)
    have zz : s.heap.objs.size < h2.objs.size := (hL k2 hns).lt
    have z : s.heap.objs.size ≤ dx := Nat.le_of_lt (Nat.lt_of_lt_of_le zz dn)
    have nd : ∀ b o, h2.get? b = some o → b ≠ dx := fun b o e z => absurd (Nat.lt_of_lt_of_le (Heap.lt_size e) dn) (by rw [z]; exact Nat.lt_irrefl _)
    refine hq h4 tk4 dx ⟨fun b o hb e => k4 b o (nd b o (k2 b o hb (hk1 b o e))) (k3 b o hb (k2 b o hb (hk1 b o e))), ⟨_, k4 _ _ (Ne.symm dne) hx3⟩, z, dne, _, hn4, fun y => look2 hfg y v u⟩
end
end PySem.TPX

namespace PySem.TPX
open PySem.W PySem.Calls PyProof.Rows PySem.HandSPX
/-- a made error -/
structure ErrMade (fs : List Str) (vs : List Value) (h h' : Heap) (e C d : Addr) : Prop where
  keep : ∀ b o, h.get? b = some o → h'.get? b = some o
  new : h.objs.size ≤ e
  obj : ∃ oe ws, h'.get? e = some oe ∧ oe.cls = .ref C ∧ oe.dict = some d ∧ oe.data = .fields ws ∧ ws[1]? = some .none ∧ ws[2]? = some .none ∧ 4 < ws.size
  dbig : h.objs.size ≤ d
  dne : d ≠ e
  ns : ∃ mA, h'.Ns1 d mA ∧ ∀ y, mA y = (fs.zip vs).lookup y
section
variable {prog : Program} {w : World} {A : Around} {R : Result → Shared → Prop} {s : Shared} {K : Frag} {mg mb : Str → Option Value} {C fI : Addr} {fs : List Str} {fd : FuncData}
theorem err_made (T : ErrK prog K fs C fI fd) {us vs : List Value} (hl : vs.length = fs.length) (hul : us.length ≤ sizeLine) (X : K.In s.heap) (hlim : s.heap.NoLimit)
    (hgl : s.heap.Ns mainGlobals mg) (hbl : s.heap.Ns builtinsNs mb) (hbb : ∀ x : Str, x ≠ "__name__" → mb x = bootBuiltins x) (hroom : A.depth + 1 < recursionLimit)
    (hbind : ∀ (s : Shared) (x : Addr), K.In s.heap → BindsTo s fd ⟨.ref x :: us, []⟩ (("self", .ref x) :: fs.zip vs))
    (hq : ∀ h' tk e d, ErrMade fs vs s.heap h' e C d → R (.ok (.ret (.ref e))) { s with heap := h', toks := tk }) :
    codeAny (model prog w) A (.call (.ref C) ⟨us, []⟩) R s := by
  obtain ⟨nm, q, N, bs, bm, sn, sub, ab, col, dd, k0, k1, k2, k3, k5, hC, hbm⟩ := T.cls
  obtain ⟨hp, g, dr, tk, os⟩ := s
  have k : ∀ b o, hp.get? b = some o → ((hp.push (kdv_tup us)).push (excO C hp.objs.size)).get? b = some o := fun b o e => Heap.get?_push_of_some _ (Heap.get?_push_of_some _ e)
  have hget : ((hp.push (kdv_tup us)).push (excO C hp.objs.size)).get? (hp.objs.size + 1) = some (excO C hp.objs.size) := by heap_get
  have hnx : K.lookup (hp.objs.size + 1) = none := by
    cases e : K.lookup (hp.objs.size + 1) with
    | none => rfl
    | some o => exact absurd (Nat.lt_of_succ_lt (Heap.lt_size (X _ _ e))) (Nat.lt_irrefl _)
  refine call_own F.excBase_ValueError (fun Z => refsVE_contains Z bm hbm) (X _ _ hC) (looks_findIn X T.iC) (fun self => bind_fn X self T.tI) hul ?_
  refine err_init (s := ⟨(hp.push (kdv_tup us)).push (excO C hp.objs.size), g, dr, tk, os⟩) T hl (X.keeps k) (hlim.keeps k) (hgl.keeps k) (hbl.keeps k) hbb hget hnx ?_ (hbind _ _ (X.keeps k)) fun h' tk' dx I => ?_
  · show A.depth + 1 < recursionLimit
    exact hroom
  · obtain ⟨k', ⟨t1, hx⟩, dn, dne, hns⟩ := I
    have old : ∀ b o, hp.get? b = some o → h'.get? b = some o := fun b o e => k' b o (Nat.ne_of_lt (Nat.lt_succ_of_lt (Heap.lt_size e))) (k b o e)
    have z : hp.objs.size + 1 + 1 ≤ dx := by
      have q := dn
      simp only [Heap.size_push] at q
      exact q
    exact ⟨rfl, hq h' tk' (hp.objs.size + 1) dx ⟨old, Nat.le_succ _, ⟨_, _, hx, rfl, rfl, rfl, rfl, rfl, by show 4 < 6; decide⟩, Nat.le_trans (Nat.le_trans (Nat.le_succ _) (Nat.le_succ _)) z, dne, hns⟩⟩
end
end PySem.TPX

namespace L2.TP
open PySem PySem.Spec PyProof.Rows
theorem relO_zip : ∀ {fs : List Str} {vs : List V} {us : List Value}, Vals vs us → ∀ f, RelO ((fs.zip vs).lookup f) ((fs.zip us).lookup f)
  | [], _, _, _, _ => by simp [RelO]
  | _ :: _, _, _, .nil, _ => by simp [RelO]
  | g :: fs, _, _, .cons r t, f => by
    show RelO (List.lookup f ((g, _) :: fs.zip _)) (List.lookup f ((g, _) :: fs.zip _))
    by_cases h : f = g
    · subst h
      simp only [List.lookup, beq_self_eq_true]
      exact r
    · have q : (f == g) = false := by simpa using h
      simp only [List.lookup, q]
      exact relO_zip t f
/-- what the text says of an error x with the fields fs, whose __init__ takes the defaults dvs where they are left out -/
structure Err (prog : Program) (K : PySem.W.Frag) (mg : Str → Option Value) (x : Str) (fs : List Str) (C : Addr) : Prop where
  ex : ∃ (fI : Addr) (fd : FuncData), PySem.TPX.ErrK prog K fs C fI fd ∧ Binds K fd ("self" :: fs) []
  gC : mg x = some (.ref C)
  kC : PySem.W.keepIn K (.ref C) = true
  bE : PySem.W.subIn K (.ref C) (.type "BaseException") = some true
  tC : PySem.W.typeIn K (.ref C) = some (.type "type")
section
variable {X : Cx} {C : Addr} {x : Str} {fs : List Str}
/-- x(e, ..), an own error -/
def tMkE (C : Addr) (fs : List Str) (ta : TA) : St → Hp → XK → Prop := fun σ H Q => ta σ H fun vs H1 => vs.length = fs.length ∧ ∀ d, H1 d = none → Q (.ref C) (some d) (upd H1 d (.xd (fs.zip vs)))
theorem pmk_err {e : Expr} {es : List Expr} {ta : TA} {p pos : Pos} {k : Nat} (T : Err X.prog X.K X.mg x fs C) (hfs : fs.length ≤ 1000) (hr : Room k X.A) (ha : PA X (e :: es) ta) (hg : Gl X x := by rfl)
    (hdb : (x == ("__debug__" : Str)) = false := by decide)
    (he : starEach (e :: es) X.env = (false, eval e X.env) :: starEach es X.env := by rfl) (hpl : (backTo pos (starEach es X.env)).any (·.1) = false := by rfl) :
    PMk X (.Call (.Name x p) (e :: es) [] pos) (tMkE C fs ta) := by
  intro pins s σ H Q I h
  obtain ⟨fI, fd, TE, hbind⟩ := T.ex
  refine wpAny_Call_Name_kw (ld_glob I hg T.gC ?_ hdb)
  refine PySem.W.callWith_K (h₀ := X.base) I.ok.mod.kin T.kC (thn (ha.run pos pins s σ H _ I h) fun us s1 hh => ?_) he hpl
  obtain ⟨vs, H1, I1, r1, hl, q1⟩ := hh
  refine ⟨I1.kIn, ?_⟩
  show wpAny _ _ (call (.ref C) us) _ _ _
  have hlim := I1.nolimit
  obtain ⟨mb, hmb, hbb⟩ := I1.mod.blt
  have hul : us.length = fs.length := r1.length.symm.trans hl
  have hgl := I1.mod.glob.keeps I1.bk
  have hbl := hmb.keeps I1.bk
  have kin := I1.kIn
  obtain ⟨hp, g, dr, tk, os⟩ := s1
  refine wpAny_call (PySem.TPX.err_made (us := us) (vs := us) TE hul (by rw [hul]; exact Nat.le_trans hfs (by decide)) kin hlim hgl hbl hbb (by have := hr.dp; omega) (fun s' x' kk => ?_) fun h' tk' e d M => ?_)
  · have z := hbind s' (.ref x' :: us) kk (by simp [hul])
    rw [List.append_nil] at z
    exact z
  show MkP X pins σ Q (.ref e) ⟨h', g, dr, tk', os⟩
  obtain ⟨oe, fv, hoe, hc, hd, hdat, h1, _, _⟩ := M.obj
  obtain ⟨mA, hns, hmA⟩ := M.ns
  obtain ⟨G', g1, g2⟩ := restrict h' fun b => decide (b ≠ e)
  have gk : ∀ b, b ≠ e → G'.get? b = h'.get? b := fun b hb => g1 b (decide_eq_true hb)
  have ge : G'.get? e = none := g2 e (by simp)
  have old : ∀ b o, hp.get? b = some o → G'.get? b = some o := fun b o q => (gk b (Nat.ne_of_lt (Nat.lt_of_lt_of_le (Heap.lt_size q) M.new))).trans (M.keep b o q)
  have ob : ObjOk X.prog X.w (upd H1 d (.xd (fs.zip vs))) G' d (.xd (fs.zip vs)) :=
    ⟨mA, hns.at (fun o q => (gk d M.dne).trans q), fun f => by rw [hmA f]; exact relO_zip r1 f⟩
  have J : Inv X pins σ (upd H1 d (.xd (fs.zip vs))) ⟨G', g, dr, tk', os⟩ := I1.laid (t' := tk') old M.dbig ob
  refine ⟨e, oe, fv, ⟨G', g, dr, tk', os⟩, _, .ref C, some d, rfl, J, fun b o q => ?_, ge, hoe, ⟨hc, hd⟩, hdat, h1, ?_, rfl, I1.bare, raises_own T.bE T.tC, q1 d (I1.hok.fresh M.dbig)⟩
  · by_cases hb : b = e
    · have q' : G'.get? b = some o := q
      rw [hb, ge] at q'
      cases q'
    · exact (gk b hb).symm.trans q
  · rw [upd_ne (Ne.symm M.dne)]
    exact I1.hok.fresh M.new
/-- raise x(e, ..) -/
theorem ps_raiseE {e : Expr} {es : List Expr} {ta : TA} {W : WX} {p pos pos2 : Pos} {k : Nat} (hc : X.calm = true) (tk : Takes X W) (T : Err X.prog X.K X.mg x fs C) (hfs : fs.length ≤ 1000) (hr : Room k X.A) (ha : PA X (e :: es) ta)
    (hg : Gl X x := by rfl) (hdb : (x == ("__debug__" : Str)) = false := by decide)
    (he : starEach (e :: es) X.env = (false, eval e X.env) :: starEach es X.env := by rfl) (hpl : (backTo pos (starEach es X.env)).any (·.1) = false := by rfl) :
    PS X (.Raise (some (.Call (.Name x p) (e :: es) [] pos)) none pos2) (fun _ σ H => tMkE C fs ta σ H fun cls d H' => W cls d σ H') := ps_raise hc tk (pmk_err T hfs hr ha hg hdb he hpl)
end
end L2.TP

/-! Layer D: signs and comparisons whose defs are own methods; an own instance on the left, an own instance or an int on the right, or an int on the left. -/
namespace PySem.TPX
open PySem.W PySem.Calls PyProof.Rows
section
variable {prog : Program} {w : World} {M : Model} {A : Around} {E : Value → Shared → Prop} {s : Shared} {K : Frag} {y C dy f : Addr} {i : Int} {t : Tok}
theorem dec_add : Meets (Builtin.«int.__add__» ⟨[.int i t, .ref y], []⟩) (fun _ R s => s.heap.get? y = some (instObj C dy) ∧ R (.ok (.ret Value.notImplemented)) s) :=
  .of_wp fun prog w A R s h => by obtain ⟨hp, g, d, tk, os⟩ := s; obtain ⟨hl, h⟩ := h; wp_walk using wpAny_loadPart' hl; exact ⟨_, rfl, h⟩
theorem dec_sub : Meets (Builtin.«int.__sub__» ⟨[.int i t, .ref y], []⟩) (fun _ R s => s.heap.get? y = some (instObj C dy) ∧ R (.ok (.ret Value.notImplemented)) s) :=
  .of_wp fun prog w A R s h => by obtain ⟨hp, g, d, tk, os⟩ := s; obtain ⟨hl, h⟩ := h; wp_walk using wpAny_loadPart' hl; exact ⟨_, rfl, h⟩
theorem dec_mul : Meets (Builtin.«int.__mul__» ⟨[.int i t, .ref y], []⟩) (fun _ R s => s.heap.get? y = some (instObj C dy) ∧ R (.ok (.ret Value.notImplemented)) s) :=
  .of_wp fun prog w A R s h => by obtain ⟨hp, g, d, tk, os⟩ := s; obtain ⟨hl, h⟩ := h; wp_walk using wpAny_loadPart' hl; exact ⟨_, rfl, h⟩
theorem dec_floordiv : Meets (Builtin.«int.__floordiv__» ⟨[.int i t, .ref y], []⟩) (fun _ R s => s.heap.get? y = some (instObj C dy) ∧ R (.ok (.ret Value.notImplemented)) s) :=
  .of_wp fun prog w A R s h => by obtain ⟨hp, g, d, tk, os⟩ := s; obtain ⟨hl, h⟩ := h; wp_walk using wpAny_loadPart' hl; exact ⟨_, rfl, h⟩
theorem dec_eq : Meets (Builtin.«int.__eq__» ⟨[.int i t, .ref y], []⟩) (fun _ R s => s.heap.get? y = some (instObj C dy) ∧ R (.ok (.ret Value.notImplemented)) s) :=
  .of_wp fun prog w A R s h => by obtain ⟨hp, g, d, tk, os⟩ := s; obtain ⟨hl, h⟩ := h; wp_walk using wpAny_loadPart' hl; exact ⟨_, rfl, h⟩
theorem dec_ne : Meets (Builtin.«int.__ne__» ⟨[.int i t, .ref y], []⟩) (fun _ R s => s.heap.get? y = some (instObj C dy) ∧ R (.ok (.ret Value.notImplemented)) s) :=
  .of_wp fun prog w A R s h => by obtain ⟨hp, g, d, tk, os⟩ := s; obtain ⟨hl, h⟩ := h; wp_walk using wpAny_loadPart' hl; exact ⟨_, rfl, h⟩
theorem dec_lt : Meets (Builtin.«int.__lt__» ⟨[.int i t, .ref y], []⟩) (fun _ R s => s.heap.get? y = some (instObj C dy) ∧ R (.ok (.ret Value.notImplemented)) s) :=
  .of_wp fun prog w A R s h => by obtain ⟨hp, g, d, tk, os⟩ := s; obtain ⟨hl, h⟩ := h; wp_walk using wpAny_loadPart' hl; exact ⟨_, rfl, h⟩
theorem dec_le : Meets (Builtin.«int.__le__» ⟨[.int i t, .ref y], []⟩) (fun _ R s => s.heap.get? y = some (instObj C dy) ∧ R (.ok (.ret Value.notImplemented)) s) :=
  .of_wp fun prog w A R s h => by obtain ⟨hp, g, d, tk, os⟩ := s; obtain ⟨hl, h⟩ := h; wp_walk using wpAny_loadPart' hl; exact ⟨_, rfl, h⟩
theorem dec_gt : Meets (Builtin.«int.__gt__» ⟨[.int i t, .ref y], []⟩) (fun _ R s => s.heap.get? y = some (instObj C dy) ∧ R (.ok (.ret Value.notImplemented)) s) :=
  .of_wp fun prog w A R s h => by obtain ⟨hp, g, d, tk, os⟩ := s; obtain ⟨hl, h⟩ := h; wp_walk using wpAny_loadPart' hl; exact ⟨_, rfl, h⟩
theorem dec_ge : Meets (Builtin.«int.__ge__» ⟨[.int i t, .ref y], []⟩) (fun _ R s => s.heap.get? y = some (instObj C dy) ∧ R (.ok (.ret Value.notImplemented)) s) :=
  .of_wp fun prog w A R s h => by obtain ⟨hp, g, d, tk, os⟩ := s; obtain ⟨hl, h⟩ := h; wp_walk using wpAny_loadPart' hl; exact ⟨_, rfl, h⟩

/-- the left one, an int, declines -/
structure Dec (y C dy : Addr) (name : Str) (id : String) (B : Builtin) : Prop where
  slot : Slot "int" name id
  entry : entryFor table id = some B
  args : ∀ a b : Value, argsOk id ⟨[a, b], []⟩
  meets : ∀ (i : Int) (t : Tok), Meets (B ⟨[.int i t, .ref y], []⟩) (fun _ R s => s.heap.get? y = some (instObj C dy) ∧ R (.ok (.ret Value.notImplemented)) s)

/-- i op y: y's reflected def is called -/
theorem bin_refl {op : Operator} {id : String} {B : Builtin} {cd : ClassData} {rest : List Value} {Q : Value → Shared → Prop} (D : Dec y C dy (PySem.dunder op.info.2) id B) (X : K.In s.heap) (hy : s.heap.get? y = some (instObj C dy)) {od : Option Obj} (I : InstAt s.heap y (instObj C dy) C od)
    (hcd : clsIn K C = some cd) (hm : cd.mro = .ref C :: rest) (hfT : fillsNumberSlot (.type "int") op.info.2 = pure true) (hs0 : findIn K (.ref C) (PySem.dunder op.info.2) = some (some (.ref f0)))
    (hs : findIn K (.ref C) (dunderR op.info.2) = some (some (.ref f))) (hf : isFn K (.ref f) = true) (hsub : subIn K (.ref C) (.type "int") = some false)
    (h : wpAny (model prog w) A (call (.ref f) [.ref y, .int i t]) (W.CmpBack Q) E s) : wpAny (model prog w) A (binaryOp op (.int i t) (.ref y)) Q E s := by
  rcases hi : op.info with ⟨sym, nm⟩
  rw [hi] at D hs0 hs hfT
  dsimp only at D hs0 hs hfT
  have two := ksp_try X I hs hf h
  have one : wpAny (model prog w) A (tryMethod (.int i t) (PySem.dunder nm) (.ref y)) (fun r s' => r = none ∧ s' = s) E s :=
    wpAny_tryMethod_declines (typeIs_int s i t) D.slot (call_meets D.slot (typeIs_int s i t) D.entry (D.args _ _) (D.meets i t) ⟨hy, rfl, rfl, rfl⟩)
  obtain ⟨hh, g, d, tt, os⟩ := s
  have L1 : Looks (model prog w) hh (typeOf (.ref y)) (.ref C) := I.type
  have L2 : Looks (model prog w) hh (typeOf (.int i t)) (.type "int") := Looks.of_pure rfl
  have L3 : Looks (model prog w) hh (fillsNumberSlot (.ref C) nm) true := fills_K X hcd hm hs0
  have L4 : Looks (model prog w) hh (fillsNumberSlot (.type "int") nm) true := Looks.of_pure hfT
  have L5 : Looks (model prog w) hh (isSubtype (.ref C) (.type "int")) false := looks_subIn X hsub
  have L7 : Looks (model prog w) hh (numberSlotInPython (.type "int") nm) false := Looks.of_pure rfl
  have hne : (Value.type "int" == Value.ref C) = false := rfl
  simp only [binaryOp, hi]
  refine wpAny_holding (wpAny_bind ?_)
  unfold binaryOp1
  refine wpAny_bind (L2.at (wpAny_bind (L1.at (wpAny_bind (L4.at ?_)))))
  simp only [hne, Bool.false_eq_true, if_false]
  ksp_lk
  refine wpAny_mono one (fun r s' hr' => ?_) fun _ _ e => e
  obtain ⟨rfl, rfl⟩ := hr'
  ksp_lk
  refine wpAny_mono two (fun r s' hr' => ?_) fun _ _ e => e
  obtain ⟨v, rfl, hq⟩ := hr'
  ksp_lk
  exact hq

/-- i cmp y: y's reflected def is called -/
theorem cmp_refl {op : CmpOp} {id : String} {B : Builtin} {Q : Value → Shared → Prop} (D : Dec y C dy (cmpInfo op).2.1 id B) (hu : A.units < cLine) (X : K.In s.heap) (hy : s.heap.get? y = some (instObj C dy)) {od : Option Obj} (I : InstAt s.heap y (instObj C dy) C od)
    (hs : findIn K (.ref C) (cmpInfo op).2.2 = some (some (.ref f))) (hf : isFn K (.ref f) = true) (hsub : subIn K (.ref C) (.type "int") = some false)
    (h : wpAny (model prog w) A (call (.ref f) [.ref y, .int i t]) (W.CmpBack Q) E s) : wpAny (model prog w) A (richCompare op (.int i t) (.ref y)) Q E s := by
  have two : wpAny (model prog w) A (tryCompare (.ref y) (cmpInfo op).2.2 (.int i t)) (fun r s' => ∃ v, r = some v ∧ Q v s') E s := by
    unfold tryCompare
    refine wpAny_bind (ifBound_K X I hs hf (wpAny_mono h (fun v s' hv => ?_) fun _ _ e => e))
    cases v <;> first | exact hv.elim | exact wpAny_pure ⟨_, rfl, hv⟩
  have one : wpAny (model prog w) A (tryCompare (.int i t) (cmpInfo op).2.1 (.ref y)) (fun r s' => r = none ∧ s' = s) E s := by
    unfold tryCompare
    refine wpAny_bind (wpAny_callSpecialIfBound?_slot (typeIs_int s i t) D.slot (call_meets (Q := fun v s' => v = .notImplemented ∧ s' = s) D.slot (typeIs_int s i t) D.entry (D.args _ _) (D.meets i t) ⟨hy, rfl, rfl⟩ |> fun z => wpAny_mono z (fun v s' hv => ?_) fun _ _ e => e))
    obtain ⟨rfl, rfl⟩ := hv
    exact wpAny_pure ⟨rfl, rfl⟩
  have hone : oneThing? op (.int i t) (.ref y) = none := rfl
  unfold richCompare
  simp only [hone]
  refine wpAny_holding (wpAny_bind (wpAny_cRoomFor hu ?_))
  have L2 : Looks (model prog w) s.heap (typeOf (.int i t)) (.type "int") := Looks.of_pure rfl
  refine wpAny_bind (L2.here (wpAny_bind (I.type.here ?_)))
  rw [if_pos (show (Value.type "int" != Value.ref C) = true from rfl)]
  refine wpAny_bind ((looks_subIn X hsub).here ?_)
  simp only [Bool.false_eq_true, if_false, Bool.not_false, if_true]
  refine wpAny_bind (wpAny_mono one (fun r s' hr' => ?_) fun _ _ e => e)
  obtain ⟨rfl, rfl⟩ := hr'
  refine wpAny_bind (wpAny_mono two (fun r s' hr' => ?_) fun _ _ e => e)
  obtain ⟨v, rfl, hq⟩ := hr'
  exact wpAny_pure hq
end
end PySem.TPX

/-! Layer E: the same over the hand layer. -/
namespace L2.TP
open PySem PySem.Spec PyProof.Rows

/-- the def at f that a slot of the class at C calls -/
structure SlotF (K : PySem.W.Frag) (C : Addr) (name : Str) (f : Addr) : Prop where
  at_ : PySem.W.findIn K (.ref C) name = some (some (.ref f))
  fn : PySem.W.isFn K (.ref f) = true
/-- what a class says so that its signs beside ints are its own -/
structure NumC (K : PySem.W.Frag) (C : Addr) : Prop where
  slf : PySem.W.selfFirst K C = true
  sub1 : PySem.W.subIn K (.type "int") (.ref C) = some false
  sub2 : PySem.W.subIn K (.ref C) (.type "int") = some false

theorem backV {P : Value → Shared → Prop} {z : V} {v : Value} {s' : Shared} (r : RelV z v) (h : P v s') : PySem.W.CmpBack P v s' := by
  cases z with
  | non => cases r; exact h
  | bl b => cases r; exact h
  | int i => obtain ⟨t, rfl⟩ := r; exact h
  | str x => obtain ⟨t, rfl⟩ := r; exact h
  | byt b => obtain ⟨t, rfl⟩ := r; exact h
  | flt b => obtain ⟨t, rfl⟩ := r; exact h
  | ref a => cases r; exact h
  | ty n => cases r; exact h
theorem notFirst_int {K : PySem.W.Frag} {C : Addr} (N : NumC K C) : PySem.W.notFirst K C (.type "int") = true := by
  unfold PySem.W.notFirst
  rw [N.sub1]
  simp
theorem notFirst_self {K : PySem.W.Frag} {C : Addr} : PySem.W.notFirst K C (.ref C) = true := by
  unfold PySem.W.notFirst
  simp

section
variable {X : Cx} {CX : CXT} {k : Nat} {C f fr : Addr} {fd fdr : FuncData} {sp spr : Sp} {p1 p2 q1 q2 : Str} {E : XK} {pins : List (Addr × Obj)} {σ : St} {H : Hp} {s : Shared}

/-- x op y, at least one of them an instance of the class at C, the other one such or an int -/
def rOwnB (C : Addr) (sp spr : Sp) (E : XK) : R2 := fun x y H Q =>
  (∃ a dx fs, x = .ref a ∧ H a = some (.ins C dx fs) ∧ ((∃ b dy gs, y = .ref b ∧ H b = some (.ins C dy gs)) ∨ ∃ i, y = .int i) ∧ sp [x, y] H Q E) ∨
  (∃ i b dy gs, x = .int i ∧ y = .ref b ∧ H b = some (.ins C dy gs) ∧ spr [y, x] H Q E)

theorem inst_of (I : Inv X pins σ H s) {a dx : Addr} {fs : List (Str × V)} (e : H a = some (.ins C dx fs)) : ∃ od, PySem.W.InstAt s.heap a (PySem.W.instObj C dx) C (some od) := by
  obtain ⟨mA, O, _⟩ := ins_get I.hok e
  obtain ⟨od, J, _⟩ := O.look
  exact ⟨od, J⟩
theorem obj_of (I : Inv X pins σ H s) {a dx : Addr} {fs : List (Str × V)} (e : H a = some (.ins C dx fs)) : s.heap.get? a = some (PySem.W.instObj C dx) := by
  obtain ⟨od, J⟩ := inst_of I e
  exact J.at_

theorem op_ownB {op : Operator} {id : String} {B : Builtin} {fo ro : Option Value} (N : NumC X.K C) (S : SlotF X.K C (PySem.dunder op.info.2) f) (R : SlotF X.K C (dunderR op.info.2) fr)
    (t1 : PySem.W.findIn X.K (.type "int") (PySem.dunder op.info.2) = some fo) (t2 : PySem.W.findIn X.K (.type "int") (dunderR op.info.2) = some ro) (hfT : fillsNumberSlot (.type "int") op.info.2 = pure true)
    (D : ∀ y dy, PySem.TPX.Dec y C dy (PySem.dunder op.info.2) id B)
    (F : FnOk X.prog X.w X.K X.mg X.base CX k f fd [p1, p2] sp) (FR : FnOk X.prog X.w X.K X.mg X.base CX k fr fdr [q1, q2] spr)
    (hr : Room k X.A) (hb : Binds X.K fd [p1, p2] []) (hbr : Binds X.K fdr [q1, q2] []) (hx : Passes CX X E) : OpR X (binaryOp op) (rOwnB C sp spr E) := by
  intro pins s σ H x y v u Q I rx ry h
  obtain ⟨m, Fm⟩ := I.fr
  have K0 := I.ok.mod.kin
  rcases h with ⟨a, dx, fs, rfl, ea, hy, hs⟩ | ⟨i, b, dy, gs, rfl, rfl, eb, hs⟩
  · cases rx
    obtain ⟨od, J⟩ := inst_of I ea
    have run : wpAny (model X.prog X.w) X.A (call (.ref f) [.ref a, u]) (PySem.W.CmpBack (EP X pins σ Q)) X.xe s :=
      thn (run_fn (dvs := []) (ds := []) (vs := [.ref a, y]) F hr hb .nil hx I (.cons rfl (.cons ry .nil)) (by rw [List.append_nil]; exact hs)) fun z s' hz => by
        obtain ⟨zv, H', I', rz, q⟩ := hz
        exact backV rz ⟨zv, H', I', rz, q⟩
    rcases hy with ⟨b, dy, gs, rfl, eb⟩ | ⟨i, rfl⟩
    · cases ry
      obtain ⟨od2, J2⟩ := inst_of I eb
      exact PySem.W.binop_K Fm K0 J J2.type N.slf S.at_ S.fn run
    · obtain ⟨t, rfl⟩ := ry
      exact PySem.W.ksp_binT (T := "int") Fm K0 J rfl N.slf S.at_ S.fn R.at_ (.inr ⟨_, rfl⟩) t1 t2 N.sub1 run
  · cases ry
    obtain ⟨t, rfl⟩ := rx
    obtain ⟨od, J⟩ := inst_of I eb
    obtain ⟨cd, rest, hcd, hm⟩ := PySem.W.ksp_first N.slf
    refine PySem.TPX.bin_refl (D b dy) I.kIn (obj_of I eb) J hcd hm hfT S.at_ R.at_ R.fn N.sub2 ?_
    exact thn (run_fn (dvs := []) (ds := []) (vs := [.ref b, .int i]) FR hr hbr .nil hx I (.cons rfl (.cons ⟨t, rfl⟩ .nil)) (by rw [List.append_nil]; exact hs)) fun z s' hz => by
      obtain ⟨zv, H', I', rz, q⟩ := hz
      exact backV rz ⟨zv, H', I', rz, q⟩

theorem op_ownC {op : CmpOp} {id : String} {B : Builtin} (hop : ∀ a b, compareOp op a b = richCompare op a b) (N : NumC X.K C) (S : SlotF X.K C (cmpInfo op).2.1 f) (R : SlotF X.K C (cmpInfo op).2.2 fr)
    (D : ∀ y dy, PySem.TPX.Dec y C dy (cmpInfo op).2.1 id B)
    (F : FnOk X.prog X.w X.K X.mg X.base CX k f fd [p1, p2] sp) (FR : FnOk X.prog X.w X.K X.mg X.base CX k fr fdr [q1, q2] spr)
    (hr : Room k X.A) (hb : Binds X.K fd [p1, p2] []) (hbr : Binds X.K fdr [q1, q2] []) (hx : Passes CX X E) : OpR X (compareOp op) (rOwnB C sp spr E) := by
  intro pins s σ H x y v u Q I rx ry h
  obtain ⟨m, Fm⟩ := I.fr
  have K0 := I.ok.mod.kin
  rw [hop]
  rcases h with ⟨a, dx, fs, rfl, ea, hy, hs⟩ | ⟨i, b, dy, gs, rfl, rfl, eb, hs⟩
  · cases rx
    obtain ⟨od, J⟩ := inst_of I ea
    have run : wpAny (model X.prog X.w) X.A (call (.ref f) [.ref a, u]) (PySem.W.CmpBack (EP X pins σ Q)) X.xe s :=
      thn (run_fn (dvs := []) (ds := []) (vs := [.ref a, y]) F hr hb .nil hx I (.cons rfl (.cons ry .nil)) (by rw [List.append_nil]; exact hs)) fun z s' hz => by
        obtain ⟨zv, H', I', rz, q⟩ := hz
        exact backV rz ⟨zv, H', I', rz, q⟩
    rcases hy with ⟨b, dy, gs, rfl, eb⟩ | ⟨i, rfl⟩
    · cases ry
      obtain ⟨od2, J2⟩ := inst_of I eb
      exact PySem.W.cmp_K hr.units0 Fm K0 J J2.type notFirst_self S.at_ S.fn run
    · obtain ⟨t, rfl⟩ := ry
      exact PySem.W.cmp_K hr.units0 Fm K0 J (PySem.W.Looks.of_pure rfl) (notFirst_int N) S.at_ S.fn run
  · cases ry
    obtain ⟨t, rfl⟩ := rx
    obtain ⟨od, J⟩ := inst_of I eb
    refine PySem.TPX.cmp_refl (D b dy) hr.units0 I.kIn (obj_of I eb) J R.at_ R.fn N.sub2 ?_
    exact thn (run_fn (dvs := []) (ds := []) (vs := [.ref b, .int i]) FR hr hbr .nil hx I (.cons rfl (.cons ⟨t, rfl⟩ .nil)) (by rw [List.append_nil]; exact hs)) fun z s' hz => by
      obtain ⟨zv, H', I', rz, q⟩ := hz
      exact backV rz ⟨zv, H', I', rz, q⟩

/-- - x -/
def rOwnN (C : Addr) (sp : Sp) (E : XK) : V → Hp → VK → Prop := fun x H Q => ∃ a dx fs, x = .ref a ∧ H a = some (.ins C dx fs) ∧ sp [x] H Q E
theorem un_ownN (S : SlotF X.K C "__neg__" f) (F : FnOk X.prog X.w X.K X.mg X.base CX k f fd [p1] sp) (hr : Room k X.A) (hb : Binds X.K fd [p1] []) (hx : Passes CX X E) : UnR X (unaryOp .USub) (rOwnN C sp E) := by
  intro pins s σ H x v Q I rx h
  obtain ⟨a, dx, fs, rfl, ea, hs⟩ := h
  cases rx
  obtain ⟨m, Fm⟩ := I.fr
  obtain ⟨od, J⟩ := inst_of I ea
  exact PySem.W.ksp_neg Fm I.ok.mod.kin J S.at_ S.fn (run_fn (dvs := []) (ds := []) (vs := [.ref a]) F hr hb .nil hx I (.cons rfl .nil) (by rw [List.append_nil]; exact hs))

/-! ### what an int declines -/
theorem Dadd (y C dy : Addr) : PySem.TPX.Dec y C dy (PySem.dunder Operator.Add.info.2) "int.__add__" Builtin.«int.__add__» := ⟨F.slot_int_add, F.entry_int_add, F.args_int_add_2, fun _ _ => PySem.TPX.dec_add⟩
theorem Dsub (y C dy : Addr) : PySem.TPX.Dec y C dy (PySem.dunder Operator.Sub.info.2) "int.__sub__" Builtin.«int.__sub__» := ⟨F.slot_int_sub, F.entry_int_sub, F.args_int_sub_2, fun _ _ => PySem.TPX.dec_sub⟩
theorem Dmul (y C dy : Addr) : PySem.TPX.Dec y C dy (PySem.dunder Operator.Mult.info.2) "int.__mul__" Builtin.«int.__mul__» := ⟨F.slot_int_mul, F.entry_int_mul, F.args_int_mul_2, fun _ _ => PySem.TPX.dec_mul⟩
theorem Dfdiv (y C dy : Addr) : PySem.TPX.Dec y C dy (PySem.dunder Operator.FloorDiv.info.2) "int.__floordiv__" Builtin.«int.__floordiv__» := ⟨F.slot_int_floordiv, F.entry_int_floordiv, F.args_int_floordiv_2, fun _ _ => PySem.TPX.dec_floordiv⟩
theorem Deq (y C dy : Addr) : PySem.TPX.Dec y C dy (cmpInfo .Eq).2.1 "int.__eq__" Builtin.«int.__eq__» := ⟨F.slot_int_eq, F.entry_int_eq, F.args_int_eq_2, fun _ _ => PySem.TPX.dec_eq⟩
theorem Dne (y C dy : Addr) : PySem.TPX.Dec y C dy (cmpInfo .NotEq).2.1 "int.__ne__" Builtin.«int.__ne__» := ⟨F.slot_int_ne, F.entry_int_ne, F.args_int_ne_2, fun _ _ => PySem.TPX.dec_ne⟩
theorem Dlt (y C dy : Addr) : PySem.TPX.Dec y C dy (cmpInfo .Lt).2.1 "int.__lt__" Builtin.«int.__lt__» := ⟨F.slot_int_lt, F.entry_int_lt, F.args_int_lt_2, fun _ _ => PySem.TPX.dec_lt⟩
theorem Dle (y C dy : Addr) : PySem.TPX.Dec y C dy (cmpInfo .LtE).2.1 "int.__le__" Builtin.«int.__le__» := ⟨F.slot_int_le, F.entry_int_le, F.args_int_le_2, fun _ _ => PySem.TPX.dec_le⟩
theorem Dgt (y C dy : Addr) : PySem.TPX.Dec y C dy (cmpInfo .Gt).2.1 "int.__gt__" Builtin.«int.__gt__» := ⟨F.slot_int_gt, F.entry_int_gt, F.args_int_gt_2, fun _ _ => PySem.TPX.dec_gt⟩
theorem Dge (y C dy : Addr) : PySem.TPX.Dec y C dy (cmpInfo .GtE).2.1 "int.__ge__" Builtin.«int.__ge__» := ⟨F.slot_int_ge, F.entry_int_ge, F.args_int_ge_2, fun _ _ => PySem.TPX.dec_ge⟩
end
end L2.TP

/-! Layer F: odds and ends: bindings with defaults, powers of great numbers, isinstance beside an own class, growing heaps, the pot of draws. -/
namespace L2.TP
open PySem PySem.Spec PyProof.Rows
theorem cls_some {K : PySem.W.Frag} {C : Addr} (h : PySem.W.hasDictIn K C = true) : (PySem.W.clsIn K C).isSome = true := by
  obtain ⟨cd, hc, _⟩ := PySem.W.any_some h
  rw [hc]
  rfl
theorem EXM {K : PySem.W.Frag} {C : Addr} {cls : Value} {b : Bool} (h1 : PySem.W.subIn K (.ref C) (.type "BaseException") = some true) (hd : PySem.W.hasDictIn K C = true) (ht : PySem.W.typeIn K (.ref C) = some (.type "type")) (h4 : PySem.W.subIn K cls (.ref C) = some b) : PySem.W.exmOne K cls (.ref C) = some b :=
  PySem.W.exm_ref h1 hd ht h4
/-- every parameter is given, though there are defaults -/
theorem binds_ks {K : PySem.W.Frag} {fd : FuncData} {ps : List Str} {T : Addr} {o : Obj} {its : List Value} {n : Nat} (lT : K.lookup T = some o) (oT : o.data = .seq its.toArray n)
    (h : ∀ us : List Value, us.length = ps.length → ∃ k, bindArgs fd ⟨us, []⟩ = seqItems? (.ref T) >>= k ∧ k (some its.toArray) = pure (ps.zip us)) : Binds K fd ps [] := fun s us X hl => by
  rw [List.append_nil] at hl ⊢
  obtain ⟨k, e1, e2⟩ := h us hl
  refine BindsTo.of_looks fun M => ?_
  rw [e1]
  exact looks_items X lT oT (.of_pure e2)
/-- isinstance(x, C), by the class of x -/
theorem kit_ref {K : PySem.W.Frag} {C : Addr} {t : Value} {b : Bool} (h : (PySem.W.clsIn K C).isSome = true ∧ PySem.W.typeIn K (.ref C) = some (.type "type")) (hs : PySem.W.subIn K t (.ref C) = some b) (hb : t = .ref C → b = true) : PySem.W.kitOne K t (.ref C) = some b := by
  unfold PySem.W.kitOne PySem.W.kitCls
  by_cases e : t = .ref C
  · rw [if_pos (by rw [e]; exact beq_self_eq_true _), hb e]
  · rw [if_neg (by simpa using e)]
    dsimp only
    rw [if_pos (by rw [h.1, h.2]; rfl)]
    exact hs
section
variable {X : Cx}
def CPowW (i j : Int) : Prop := 0 ≤ j ∧ (Builtin.Int.intBits i : Int) * j ≤ 2 ^ 27
theorem op_powW : OpR X (binaryOp .Pow) (rI CPowW fun i j => .int (i ^ j.toNat)) := opI fun _ _ _ _ _ _ _ hc q => pow_int hc.1 hc.2 q

theorem op_sign {CX : CXT} {k : Nat} {C f fr : Addr} {fd fdr : FuncData} {sp spr : Sp} {p1 p2 q1 q2 : Str} {E : XK} {op : Operator} {id : String} {B : Builtin} {n1 n2 : Str} (e1 : PySem.dunder op.info.2 = n1) (e2 : dunderR op.info.2 = n2) (N : NumC X.K C) (S : SlotF X.K C n1 f) (R : SlotF X.K C n2 fr)
    (t1 : ∃ fo, PySem.W.findIn X.K (.type "int") n1 = some fo) (t2 : ∃ ro, PySem.W.findIn X.K (.type "int") n2 = some ro) (hfT : fillsNumberSlot (.type "int") op.info.2 = pure true)
    (D : ∀ y dy, PySem.TPX.Dec y C dy (PySem.dunder op.info.2) id B)
    (F : FnOk X.prog X.w X.K X.mg X.base CX k f fd [p1, p2] sp) (FR : FnOk X.prog X.w X.K X.mg X.base CX k fr fdr [q1, q2] spr)
    (hr : Room k X.A) (hb : Binds X.K fd [p1, p2] []) (hbr : Binds X.K fdr [q1, q2] []) (hx : Passes CX X E) : OpR X (binaryOp op) (rOwnB C sp spr E) := by
  subst e1 e2
  obtain ⟨_, t1⟩ := t1
  obtain ⟨_, t2⟩ := t2
  exact op_ownB N S R t1 t2 hfT D F FR hr hb hbr hx
end
/-! ### growing heaps -/
theorem ext_upd {H : Hp} {p : Addr} {o : HO} (h : H p = none) : Ext H (upd H p o) := Ext.upd h
theorem ext_none {H H' : Hp} {p : Addr} (e : Ext H H') (h : H' p = none) : H p = none := by
  cases q : H p with
  | none => rfl
  | some o =>
    rw [e _ _ q] at h
    cases h
theorem ext_over {G H : Hp} {p : Addr} {o : HO} (e : Ext G H) (h : G p = none) : Ext G (upd H p o) := fun a u q => by
  have z : a ≠ p := fun z => by
    rw [z, h] at q
    cases q
  rw [upd_ne z]
  exact e _ _ q
theorem ext_both {G H : Hp} {p : Addr} {o : HO} (e : Ext G H) : Ext (upd G p o) (upd H p o) := fun a u q => by
  by_cases z : a = p
  · subst z
    rw [upd_same] at q ⊢
    exact q
  · rw [upd_ne z] at q ⊢
    exact e _ _ q
theorem ext_new {H H' : Hp} {x dx : Addr} {o u : HO} (e : Ext H H') (h1 : H x = none) (h2 : H dx = none) : Ext H (upd (upd H' dx o) x u) := ext_over (ext_over e h2) h1

/-! ### the pot of draws: a list of three ints -/
structure Pot (H : Hp) (p : Addr) (n : Nat) : Prop where
  at_ : ∃ a b c : Int, H p = some (.lst [.int a, .int b, .int c]) ∧ 0 ≤ a ∧ 0 ≤ b ∧ b < 2305843009213693952 ∧ 0 ≤ c ∧ c ≤ n
/-- the known part G, the pot beside it -/
structure WP (G : Hp) (p : Addr) (n : Nat) (H : Hp) : Prop where
  ext : Ext G H
  no : G p = none
  pot : Pot H p n
theorem WP.mono {G H : Hp} {p : Addr} {n m : Nat} (w : WP G p n H) (h : n ≤ m) : WP G p m H := by
  obtain ⟨a, b, c, e, h1, h2, h3, h4, h5⟩ := w.pot.at_
  exact ⟨w.ext, w.no, ⟨a, b, c, e, h1, h2, h3, h4, by omega⟩⟩
theorem WP.grow {G H H' : Hp} {p : Addr} {n : Nat} (w : WP G p n H) (e : Ext H H') : WP G p n H' := by
  obtain ⟨a, b, c, q, h⟩ := w.pot.at_
  exact ⟨w.ext.trans e, w.no, ⟨a, b, c, e _ _ q, h⟩⟩
/-- what is new may be known from now on -/
theorem WP.new {G H : Hp} {p x : Addr} {o : HO} {n : Nat} (w : WP G p n H) (h : H x = none) : WP (upd G x o) p n (upd H x o) := by
  obtain ⟨a, b, c, q, h2⟩ := w.pot.at_
  have ne : p ≠ x := ne_of_none q h
  exact ⟨ext_both w.ext, by rw [upd_ne ne]; exact w.no, ⟨a, b, c, by rw [upd_ne ne]; exact q, h2⟩⟩
theorem WP.ne {G H : Hp} {p x : Addr} {n : Nat} (w : WP G p n H) (h : H x = none) : p ≠ x := by
  obtain ⟨a, b, c, q, h2⟩ := w.pot.at_
  exact ne_of_none q h
/-- all of H but the pot may be known -/
def butP (H : Hp) (p : Addr) : Hp := fun b => if b = p then none else H b
theorem butP_ext {H : Hp} {p : Addr} : Ext (butP H p) H := fun a o e => by
  unfold butP at e
  split at e
  · cases e
  · exact e
theorem WP.all {G H : Hp} {p : Addr} {n : Nat} (w : WP G p n H) : WP (butP H p) p n H ∧ Ext G (butP H p) := by
  refine ⟨⟨butP_ext, if_pos rfl, w.pot⟩, fun a o e => ?_⟩
  have z : a ≠ p := fun z => by
    rw [z, w.no] at e
    cases e
  show (if a = p then none else H a) = some o
  rw [if_neg z]
  exact w.ext _ _ e
/-- a draw -/
def spTake : Sp := fun vs H Q _ => ∃ (G : Hp) (p : Addr) (n : Nat) (m : Int), vs = [.ref p, .int m] ∧ WP G p n H ∧ n ≤ 100000 ∧ 0 < m ∧ m ≤ 100000 ∧
  ∀ (r : Int) (H' : Hp), 0 ≤ r → r < m → WP G p (n + 1) H' → Q (.int r) H'
end L2.TP

/-! Layer G: data that is small enough to be shown. -/
namespace L2.TP
open PySem PySem.Spec PyProof.Rows
structure Sm (k w : Nat) (d : PyData) : Prop where
  dep : d.depth ≤ k
  wt : d.weight ≤ w
  short : d.leavesShort 13 = true
  shw : d.showable = true
structure SmA (k w : Nat) (ds : List PyData) : Prop where
  dep : PyData.depthAll ds ≤ k
  wt : PyData.weightAll ds ≤ w
  short : PyData.leavesShortAll 13 ds = true
  shw : PyData.showableAll ds = true
theorem Sm.mono {k k' w w' : Nat} {d : PyData} (h : Sm k w d) (hk : k ≤ k') (hw : w ≤ w') : Sm k' w' d := ⟨Nat.le_trans h.dep hk, Nat.le_trans h.wt hw, h.short, h.shw⟩
theorem SmA.mono {k k' w w' : Nat} {d : List PyData} (h : SmA k w d) (hk : k ≤ k') (hw : w ≤ w') : SmA k' w' d := ⟨Nat.le_trans h.dep hk, Nat.le_trans h.wt hw, h.short, h.shw⟩
theorem SmA.nil {k w : Nat} : SmA k w [] := ⟨Nat.zero_le _, Nat.zero_le _, rfl, rfl⟩
theorem SmA.cons {k w w' : Nat} {d : PyData} {ds : List PyData} (h : Sm k w d) (t : SmA k w' ds) : SmA k (w + 1 + w') (d :: ds) := by
  obtain ⟨a1, a2, a3, a4⟩ := h
  obtain ⟨b1, b2, b3, b4⟩ := t
  refine ⟨?_, ?_, ?_, ?_⟩
  · show max d.depth (PyData.depthAll ds) ≤ k
    omega
  · show d.weight + 1 + PyData.weightAll ds ≤ _
    omega
  · show (d.leavesShort 13 && PyData.leavesShortAll 13 ds) = true
    rw [a3, b3]
    rfl
  · show (d.showable && PyData.showableAll ds) = true
    rw [a4, b4]
    rfl
theorem Sm.tup {k w : Nat} {ds : List PyData} (h : SmA k w ds) : Sm (k + 1) w (.tuple ds) := ⟨by show PyData.depthAll ds + 1 ≤ _; have := h.dep; omega, h.wt, h.short, h.shw⟩
theorem Sm.lst {k w : Nat} {ds : List PyData} (h : SmA k w ds) : Sm (k + 1) w (.list ds) := ⟨by show PyData.depthAll ds + 1 ≤ _; have := h.dep; omega, h.wt, h.short, h.shw⟩
theorem Sm.non {k w : Nat} : Sm k w .none := ⟨Nat.zero_le _, Nat.zero_le _, rfl, rfl⟩
theorem Sm.bl {k w : Nat} (b : Bool) : Sm k w (.bool b) := ⟨Nat.zero_le _, Nat.zero_le _, rfl, rfl⟩
theorem log_lt {i : Int} {k : Nat} (h : i.natAbs < 2 ^ k) (hk : 0 < k) : i.natAbs.log2 < k := by
  by_cases z : i.natAbs = 0
  · rw [z]
    exact hk
  · exact (Nat.log2_lt z).mpr h
theorem Sm.int {k : Nat} {i : Int} (h : i.natAbs < 10 ^ 12) : Sm k 41 (.int i) := by
  have h2 : i.natAbs < 2 ^ 40 := Nat.lt_trans h (by decide)
  have h3 := log_lt h2 (by decide)
  refine ⟨Nat.zero_le _, ?_, ?_, ?_⟩
  · show (if i == 0 then 0 else i.natAbs.log2 + 1) ≤ 41
    split <;> omega
  · exact decide_eq_true (PyData.shown_int_le h)
  · exact decide_eq_true (by omega : i.natAbs.log2 < 1920)
theorem Sm.d40 {d : PyData} {k w : Nat} (s : Sm k w d) (hk : k ≤ 40 := by decide) : d.depth ≤ 40 := Nat.le_trans s.dep hk
theorem Sm.len {d : PyData} {k w : Nat} (s : Sm k w d) (hw : w ≤ 1000000 := by decide) : d.shown.length ≤ sizeLine := PyData.shown_fits (by decide) (by decide) s.short (Nat.le_trans (Nat.le_trans s.wt hw) (by decide))
/-- what repr asks -/
theorem rRepr_of {K : PySem.W.Frag} {H : Hp} {v : V} {d : PyData} {Q : VK} {k w : Nat} (h : Dp K H v d) (s : Sm k w d) (hk : k ≤ 40) (hw : w ≤ 1000000) (q : Q (.str d.shown) H) : rRepr K [v] H Q :=
  ⟨v, d, rfl, h, s.shw, Nat.le_trans s.dep hk, PyData.shown_fits (by decide) (by decide) s.short (Nat.le_trans (Nat.le_trans s.wt hw) (by decide)), q⟩
end L2.TP

/-! Layer H: an own class's x[i], x[i] = v, x op= y, len(x); starred items of a tuple's display. -/
namespace L2.TP
open PySem PySem.Spec PyProof.Rows
section
variable {X : Cx} {CX : CXT} {k : Nat} {C f : Addr} {fd : FuncData} {ps : List Str} {sp : Sp} {E : St → XK} {a b o i e : Expr} {ta tb to ti te : TE} {pos : Pos}

/-- a call, one level deeper -/
theorem run_in1 {pins : List (Addr × Obj)} {σ : St} {H : Hp} {s : Shared} {Q : VK} {us : List Value} {vs : List V} (F : FnOk X.prog X.w X.K X.mg X.base CX k f fd ps sp) (hr : Room (k + 1) X.A) (hb : Binds X.K fd ps []) (hx : PassesAt CX X σ (E σ))
    (I : Inv X pins σ H s) (r : Vals vs us) (h : sp vs H Q (E σ)) : wpAny (model X.prog X.w) X.A.in1 (call (.ref f) us) (EP X pins σ Q) X.xe s := by
  have hl : us.length = ps.length := by rw [← r.length]; exact F.len _ _ _ _ h
  have b := hb s us I.kIn (by rw [List.append_nil]; exact hl)
  rw [List.append_nil] at b
  refine wpAny_call (codeAny_mono (F.run X.A.in1 X.stack s H ⟨us, []⟩ us vs Q (E σ) hr.in1 I.env0.in1 b r h) fun r s' hq => ?_)
  cases r with
  | error e => exact hx pins H s e s' I hq
  | ok fl =>
    cases fl with
    | ret u => exact I.after hq
    | next => exact False.elim hq
    | brk => exact False.elim hq
    | cont => exact False.elim hq

/-- a[b], by the own class at C -/
def tGetK (C : Addr) (sp : Sp) (E : St → XK) (ta tb : TE) : TE := fun σ H Q => ta σ H fun x H1 => tb σ H1 fun y H2 => ∃ a dx fs, x = .ref a ∧ H2 a = some (.ins C dx fs) ∧ sp [x, y] H2 Q (E σ)
theorem pe_getK (S : SlotF X.K C "__getitem__" f) (hf : PySem.W.fnIn X.K f = true) (F : FnOk X.prog X.w X.K X.mg X.base CX k f fd ps sp) (hr : Room (k + 1) X.A) (hb : Binds X.K fd ps []) (hx : ∀ σ, PassesAt CX X σ (E σ))
    (h1 : PE X a ta) (h2 : PE X b tb) (hs : ∀ (x : Addr) (i : Value), subscripted b true (.ref x) i = runValue (.builtin "lifetime.subscript" ⟨[.ref x, i], []⟩) := by intros; rfl) : PE X (.Subscript a b pos) (tGetK C sp E ta tb) := by
  refine ⟨fun pins s σ H Q I h => ?_⟩
  refine Subscript_ (thn (h1.run pins s σ H _ I h) fun v s1 ⟨x, H1, I1, rx, q1⟩ => thn (h2.run pins s1 σ H1 _ I1 q1) fun u s2 ⟨y, H2, I2, ry, q2⟩ => ?_)
  obtain ⟨x0, dx, fs, rfl, ea, q⟩ := q2
  cases rx
  obtain ⟨m, Fm⟩ := I2.fr
  obtain ⟨od, J⟩ := inst_of I2 ea
  exact PySem.W.sub_K Fm I2.ok.mod.kin J S.at_ hf S.fn (run_in1 (vs := [.ref x0, y]) F hr hb (hx σ) I2 (.cons rfl (.cons ry .nil)) q) (hs _ _)

/-- o[i] = v, by the own class at C -/
def gSubK (C : Addr) (sp : Sp) (E : St → XK) (to ti : TE) : TG := fun v σ H Q => to σ H fun o H1 => ti σ H1 fun i H2 => ∃ a dx fs, o = .ref a ∧ H2 a = some (.ins C dx fs) ∧ sp [o, i, v] H2 (fun _ H3 => Q σ H3) (E σ)
theorem pg_subK (S : SlotF X.K C "__setitem__" f) (hq : PySem.W.noSeq X.K C = true) (F : FnOk X.prog X.w X.K X.mg X.base CX k f fd ps sp) (hr : Room k X.A) (hb : Binds X.K fd ps []) (hx : ∀ σ, PassesAt CX X σ (E σ)) (ho : PE X o to) (hi : PE X i ti)
    (ha : ∀ v, assign (.Subscript o i pos) X.env v = (holding [v] (eval o X.env) >>= fun ov => holding [v, ov] (eval i X.env) >>= fun iv => standAt pos >>= fun _ => holding [v, ov, iv] (setItem ov iv v) >>= fun _ => release [v, ov, iv] []) := by intro _; rfl) :
    PG X (.Subscript o i pos) (gSubK C sp E to ti) := by
  refine ⟨fun pins s σ H v u Q I r h => ?_⟩
  rw [ha]
  refine wpAny_bind (wpAny_holding (thn (ho.run pins s σ H _ I h) fun ov s1 ⟨x, H1, I1, r1, q1⟩ => ?_))
  refine wpAny_bind (wpAny_holding (thn (hi.run pins s1 σ H1 _ I1 q1) fun iv s2 ⟨y, H2, I2, r2, q2⟩ => ?_))
  obtain ⟨x0, dx, fs, rfl, ea, q⟩ := q2
  cases r1
  obtain ⟨m, Fm⟩ := I2.fr
  obtain ⟨od, J⟩ := inst_of I2 ea
  refine wpAny_bind (wpAny_standAt (wpAny_bind (wpAny_holding ?_)))
  refine PySem.W.ksp_setItem Fm I2.ok.mod.kin J hq S.at_ S.fn ?_
  exact thn (run_fnS (vs := [.ref x0, y, v]) F hr hb (hx σ) I2 (.cons rfl (.cons r2 (.cons r .nil))) q) fun _ s3 ⟨_, H3, I3, _, q3⟩ => wpAny_release ⟨σ, H3, I3, q3⟩

/-- name op= e, by the own class at C -/
def tAugK (C : Addr) (sp : Sp) (E : St → XK) (i : Nat) (te : TE) : TS := fun D σ H => ∃ x, σ[i]? = some (some x) ∧ te σ H fun y H1 => ∃ a dx fs, x = .ref a ∧ H1 a = some (.ins C dx fs) ∧ sp [x, y] H1 (fun z H2 => D.nx (σ.set i (some z)) H2) (E σ)
theorem ps_augK {n : Nat} {x : Str} {op : Operator} {pos' : Pos} (hN : X.N.Nodup) (hi : X.N[n]? = some x) (hx : X.env.scope.names.lookup x = some .local) (hc : PySem.W.selfFirst X.K C = true) (S : SlotF X.K C (dunderI op.info.2) f)
    (F : FnOk X.prog X.w X.K X.mg X.base CX k f fd ps sp) (hr : Room k X.A) (hb : Binds X.K fd ps []) (hp : ∀ σ, PassesAt CX X σ (E σ)) (he : PE X e te) : PS X (.AugAssign (.Name x pos') op e pos) (tAugK C sp E n te) := by
  refine ⟨fun pins s σ H D I h => ?_⟩
  obtain ⟨v, e1, h⟩ := h
  obtain ⟨m, hn, hl⟩ := I.loc
  obtain ⟨u, r, l⟩ := hl n x v hi e1 (.inl hx)
  refine wpAny_AugAssign_Name ?_
  have go : wpAny (model X.prog X.w) X.A (eval e X.env) (fun w s₂ => wpAny (model X.prog X.w) X.A (inplaceOp op u w) (fun r s₃ => wpAny (model X.prog X.w) X.A (storeName X.env x r) (fun _ => SP X pins D .next) X.xe s₃) X.xe s₂) X.xe s := by
    refine thn (he.run pins s σ H _ I h) fun w s1 ⟨y, H1, I1, r1, q1⟩ => ?_
    obtain ⟨x0, dx, fs, rfl, ea, q⟩ := q1
    cases r
    obtain ⟨m, Fm⟩ := I1.fr
    obtain ⟨od, J⟩ := inst_of I1 ea
    refine PySem.W.ksp_inplace Fm I1.ok.mod.kin J hc S.at_ S.fn ?_
    refine thn (run_fnS (vs := [.ref x0, y]) F hr hb (hp σ) I1 (.cons rfl (.cons r1 .nil)) q) fun z s2 ⟨zv, H2, I2, r2, q2⟩ => ?_
    exact backV r2 (store_ok I2 hN hi (.inl hx) r2 (fun s3 I3 => ⟨_, H2, I3, q2⟩) (.inr hx))
  rcases l with ⟨hk, hm⟩ | ⟨hk, c, hc', hcell⟩
  · exact wpAny_loadName_local I.ok.kind hk hn hm go
  · exfalso
    rcases hk with hk | hk
    · have : X.env.scope.names.lookup x = some .cell := hk
      rw [hx] at this
      cases this
    · have : X.env.scope.names.lookup x = some .free := hk
      rw [hx] at this
      cases this

/-- len of an own class's instance -/
def rLenK (C : Addr) (sp : Sp) : List V → Hp → VK → Prop := fun xs H Q => ∃ a dx fs, xs = [.ref a] ∧ H a = some (.ins C dx fs) ∧ sp [.ref a] H (fun v H' => ∃ n : Int, v = .int n ∧ 0 ≤ n ∧ n < 2 ^ 63 ∧ Q (.int n) H') E0
theorem call_lenK (S : SlotF X.K C "__len__" f) (F : FnOk X.prog X.w X.K X.mg X.base CX0 k f fd ps sp) (hr : Room (k + 1) X.A) (hb : Binds X.K fd ps []) : CallR X (.builtin "len") (rLenK C sp) := by
  intro pins s σ H xs us Q I r h
  obtain ⟨a, dx, fs, rfl, ea, q⟩ := h
  cases r with
  | cons r rr =>
    cases rr
    cases r
    obtain ⟨m, Fm⟩ := I.fr
    obtain ⟨od, J⟩ := inst_of I ea
    refine PySem.W.len_K Fm I.ok.mod.kin J S.at_ S.fn ?_
    refine thn (run_in1 (vs := [.ref a]) (E := fun _ => E0) F hr hb (fun _ _ _ _ _ _ z => z.elim) I (.cons rfl .nil) q) fun v s2 ⟨zv, H2, I2, r2, n, e2, n0, n1, q2⟩ => ?_
    subst e2
    obtain ⟨t, rfl⟩ := r2
    exact ⟨⟨n0, n1⟩, .int n, H2, I2.tok _, ⟨_, rfl⟩, q2⟩

/-- *e ahead of more items, e a tuple -/
def tStar (K : PySem.W.Frag) (te : TE) (t : TA) : TA := fun σ H Q => te σ H fun x H1 => ∃ a ys, x = .ref a ∧ SqT K H1 a ys ∧ t σ H1 fun xs H2 => Q (ys ++ xs) H2
theorem pa_star {es : List Expr} {t : TA} {p : Pos} (ha : PE X e te) (hr : PA X es t) : PA X (.Starred e p :: es) (tStar X.K te t) := by
  refine ⟨fun pos pins s σ H Q I h => ?_⟩
  show wpAny _ _ (spliced ((true, (do let v ← eval e X.env; standAt pos; pure v)) :: backTo pos (starEach es X.env))) _ _ s
  refine PySem.W.ks_spliced (thn (ha.run pins s σ H _ I h) fun u s1 ⟨x, H1, I1, r1, q1⟩ => ?_)
  obtain ⟨a, ys, rfl, hy, q⟩ := q1
  cases r1
  refine star_tup I1 hy fun us s2 I2 rv => ?_
  exact thn (hr.run pos pins s2 σ H1 _ I2 q) fun vs s3 ⟨xs, H2, I3, r3, q3⟩ => ⟨ys ++ xs, H2, I3, rv.append r3, q3⟩
end
end L2.TP

/-! Layer I: data with dicts within: how it stands on the heap, that it is kept, repr of it. -/
namespace L2.TP
open PySem PySem.Spec PyProof.Rows
def kD : Key → PyData
  | .inl i => .int i
  | .inr x => .str x
mutual
inductive Dq (H : Hp) : V → PyData → Prop
  | non : Dq H .non .none
  | bl (b : Bool) : Dq H (.bl b) (.bool b)
  | int (i : Int) : Dq H (.int i) (.int i)
  | str (x : Str) : Dq H (.str x) (.str x)
  | lst {a : Addr} {xs : List V} {ds : List PyData} (h : H a = some (.lst xs)) (t : DqAll H xs ds) : Dq H (.ref a) (.list ds)
  | tup {a : Addr} {xs : List V} {ds : List PyData} (h : H a = some (.tup xs)) (t : DqAll H xs ds) : Dq H (.ref a) (.tuple ds)
  | dct {a : Addr} {kvs : List (Key × V)} {ds : List (PyData × PyData)} (h : H a = some (.dK kvs)) (t : DqKv H kvs ds) : Dq H (.ref a) (.dict ds)
inductive DqAll (H : Hp) : List V → List PyData → Prop
  | nil : DqAll H [] []
  | cons {v : V} {vs : List V} {d : PyData} {ds : List PyData} (h : Dq H v d) (t : DqAll H vs ds) : DqAll H (v :: vs) (d :: ds)
inductive DqKv (H : Hp) : List (Key × V) → List (PyData × PyData) → Prop
  | nil : DqKv H [] []
  | cons {k : Key} {v : V} {vs : List (Key × V)} {d : PyData} {ds : List (PyData × PyData)} (h : Dq H v d) (t : DqKv H vs ds) : DqKv H ((k, v) :: vs) ((kD k, d) :: ds)
end
section
variable {H H' : Hp}
mutual
theorem Dq.ext (e : Ext H H') : ∀ {v : V} {d : PyData}, Dq H v d → Dq H' v d
  | _, _, .non => .non
  | _, _, .bl b => .bl b
  | _, _, .int i => .int i
  | _, _, .str x => .str x
  | _, _, .lst h t => .lst (e _ _ h) (DqAll.ext e t)
  | _, _, .tup h t => .tup (e _ _ h) (DqAll.ext e t)
  | _, _, .dct h t => .dct (e _ _ h) (DqKv.ext e t)
theorem DqAll.ext (e : Ext H H') : ∀ {v : List V} {d : List PyData}, DqAll H v d → DqAll H' v d
  | _, _, .nil => .nil
  | _, _, .cons h t => .cons (Dq.ext e h) (DqAll.ext e t)
theorem DqKv.ext (e : Ext H H') : ∀ {v : List (Key × V)} {d : List (PyData × PyData)}, DqKv H v d → DqKv H' v d
  | _, _, .nil => .nil
  | _, _, .cons h t => .cons (Dq.ext e h) (DqKv.ext e t)
end
end
/-- what is tracked at the address of the table of modules -/
def smF (o : Obj) : HO := .frz o (.own sysModules)
def SmH (H : Hp) : Prop := ∃ o, H sysModules = some (smF o)
theorem SmH.ext {H H' : Hp} (h : SmH H) (e : Ext H H') : SmH H' := by
  obtain ⟨o, q⟩ := h
  exact ⟨o, e _ _ q⟩
section
variable {X : Cx} {pins : List (Addr × Obj)} {σ : St} {H : Hp} {s : Shared}
theorem pairs_rd {es : List DictEntry} {kvs : List (Key × Value)} (p : Pairs (mixKind X.prog X.w) es kvs) : ReadsAll s.heap (es.map (·.key)) (kvs.map fun q => kD q.1) [] := by
  induction p with
  | nil => exact .nil
  | @cons e kv es kvs h1 h2 _ ih =>
    have z : Reads s.heap e.key (kD kv.1) [] := by
      have h1 : keyIs kv.1 e.key = true := h1
      rcases keyIs_shape h1 with ⟨i, t, e1, e2⟩ | ⟨x, t, e1, e2⟩
      · rw [e1, e2]
        exact .int _ _
      · rw [e1, e2]
        exact .str _ _
    exact .cons (as := []) (bs := []) z ih
theorem pairs_vals {es : List DictEntry} {kvs : List (Key × Value)} (p : Pairs (mixKind X.prog X.w) es kvs) : es.map (·.val) = kvs.map (·.2) := by
  induction p with
  | nil => rfl
  | cons _ h2 _ ih => simp only [List.map_cons, h2, ih]
theorem DqKv.keys {kvs : List (Key × V)} {ds : List (PyData × PyData)} (h : DqKv H kvs ds) : ds.map (·.1) = kvs.map fun q => kD q.1 := by
  induction kvs generalizing ds with
  | nil => cases h; rfl
  | cons p r ih =>
    cases h with
    | cons h t =>
      show _ :: _ = _ :: _
      rw [ih t]
theorem kv_keys {kvs : List (Key × V)} {vs : List (Key × Value)} (r : KV kvs vs) : vs.map (fun q => kD q.1) = kvs.map fun q => kD q.1 := by
  induction r with
  | nil => rfl
  | cons h _ ih => simp only [List.map_cons, h.1, ih]
mutual
theorem Dq.reads (I : Inv X pins σ H s) (hS : SmH H) : ∀ {v : V} {d : PyData}, Dq H v d → ∀ {u : Value}, RelV v u → ∃ as, Reads s.heap u d as ∧ sysModules ∉ as
  | _, _, .non, _, r => by
    cases r
    exact ⟨_, .none, by simp⟩
  | _, _, .bl b, _, r => by
    cases r
    exact ⟨_, .bool _, by simp⟩
  | _, _, .int i, _, r => by
    obtain ⟨t, rfl⟩ := r
    exact ⟨_, .int _ _, by simp⟩
  | _, _, .str x, _, r => by
    obtain ⟨t, rfl⟩ := r
    exact ⟨_, .str _ _, by simp⟩
  | _, _, .lst (a := a) h t, _, r => by
    cases r
    obtain ⟨z, its, n, rv, eo⟩ := I.hok _ _ h
    obtain ⟨as, rd, ns⟩ := DqAll.reads I hS t rv
    obtain ⟨oS, eS⟩ := hS
    have ne : sysModules ≠ a := fun c => by
      rw [← c, eS] at h
      cases h
    exact ⟨_, .list eo rfl rfl (by simpa using rd), by simp [ne, ns]⟩
  | _, _, .tup (a := a) h t, _, r => by
    cases r
    obtain ⟨z, its, rv, o, eo, hc, n, hd⟩ := I.hok _ _ h
    obtain ⟨as, rd, ns⟩ := DqAll.reads I hS t rv
    exact ⟨_, .tuple eo hc hd (by simpa using rd), ns⟩
  | _, _, .dct (a := a) (kvs := kvs) (ds := ds) h t, _, r => by
    cases r
    obtain ⟨z, hm, vs, rel, o, es, ep, eo, hx, hd, _, hp, _⟩ := I.hok _ _ h
    obtain ⟨bs, rd, ns⟩ := DqKv.reads I hS t rel
    have ne : sysModules ≠ a := fun c => by
      rw [← c] at hm
      simp at hm
    have kk : vs.map (fun q => kD q.1) = ds.map (·.1) := (kv_keys rel).trans t.keys.symm
    refine ⟨_, .dict (as := []) (bs := bs) eo hx.1 hd ?_ ?_, ?_⟩
    · rw [← kk]
      exact pairs_rd hp
    · rw [pairs_vals hp]
      exact rd
    · simp [ne, ns]
theorem DqAll.reads (I : Inv X pins σ H s) (hS : SmH H) : ∀ {v : List V} {d : List PyData}, DqAll H v d → ∀ {u : List Value}, Vals v u → ∃ as, ReadsAll s.heap u d as ∧ sysModules ∉ as
  | _, _, .nil, _, r => by
    cases r
    exact ⟨_, .nil, by simp⟩
  | _, _, .cons h t, _, r => by
    cases r with
    | cons r1 r2 =>
      obtain ⟨as, rd, ns⟩ := Dq.reads I hS h r1
      obtain ⟨bs, rd2, ns2⟩ := DqAll.reads I hS t r2
      exact ⟨_, .cons rd rd2, by simp [ns, ns2]⟩
theorem DqKv.reads (I : Inv X pins σ H s) (hS : SmH H) : ∀ {v : List (Key × V)} {d : List (PyData × PyData)}, DqKv H v d → ∀ {u : List (Key × Value)}, KV v u → ∃ as, ReadsAll s.heap (u.map (·.2)) (d.map (·.2)) as ∧ sysModules ∉ as
  | _, _, .nil, _, r => by
    cases r
    exact ⟨_, .nil, by simp⟩
  | _, _, .cons h t, _, r => by
    cases r with
    | cons r1 r2 =>
      obtain ⟨as, rd, ns⟩ := Dq.reads I hS h r1.2
      obtain ⟨bs, rd2, ns2⟩ := DqKv.reads I hS t r2
      exact ⟨_, .cons rd rd2, by simp [ns, ns2]⟩
end

/-- repr(x): x stands for the data d, dicts within -/
def rReprQ : List V → Hp → VK → Prop := fun xs H Q => ∃ v d, xs = [v] ∧ SmH H ∧ Dq H v d ∧ d.showable = true ∧ d.depth ≤ 40 ∧ d.shown.length ≤ sizeLine ∧ Q (.str d.shown) H
theorem call_reprQ (gA : X.A.guards = some []) {k : Nat} (hr : Room k X.A) : CallR X (.builtin "repr") rReprQ := by
  intro pins s σ H xs us Q I r h
  obtain ⟨v, d, rfl, hS, hd, sh, dep, sz, q⟩ := h
  obtain ⟨u, rfl, ru⟩ := vals1 r
  have room : X.A.units + (d.depth + 1) < cLine := by
    have := hr.un
    omega
  have main : ∀ a : Addr, u = .ref a → wpAny (model X.prog X.w) X.A (call (.builtin "repr") [u]) (EP X pins σ Q) X.xe s := fun a e => by
    subst e
    obtain ⟨as, rd, ns⟩ := Dq.reads I hS hd ru
    exact repr_of_reads' rd sh (fun _ => ns) gA room (fun _ _ e => e) (fun h' u tk hk => ⟨.str _, H, I.kept hk, ⟨_, rfl⟩, q⟩) sz
  cases hd with
  | non =>
    cases ru
    exact PySem.P.repr_of_none ⟨.str _, H, I.tok _, ⟨_, rfl⟩, q⟩
  | bl b =>
    cases ru
    exact PySem.P.repr_of_bool ⟨.str _, H, I.tok _, ⟨_, rfl⟩, q⟩
  | int i =>
    obtain ⟨t, rfl⟩ := ru
    exact PySem.P.repr_of_int (of_decide_eq_true sh) ⟨.str _, H, I.tok _, ⟨_, rfl⟩, q⟩
  | str x =>
    obtain ⟨t, rfl⟩ := ru
    exact PySem.P.repr_of_str ⟨.str _, H, I.tok _, ⟨_, rfl⟩, q⟩ sz
  | lst h t => exact main _ ru
  | tup h t => exact main _ ru
  | dct h t => exact main _ ru
end
/-- small data -/
structure Sd (k w : Nat) (d : PyData) : Prop where
  dep : d.depth ≤ k
  wt : d.weight ≤ w
  short : d.leavesShort 20 = true
  shw : d.showable = true
structure SdA (k w : Nat) (ds : List PyData) : Prop where
  dep : PyData.depthAll ds ≤ k
  wt : PyData.weightAll ds ≤ w
  short : PyData.leavesShortAll 20 ds = true
  shw : PyData.showableAll ds = true
theorem Sd.mono {k k' w w' : Nat} {d : PyData} (h : Sd k w d) (hk : k ≤ k') (hw : w ≤ w') : Sd k' w' d := ⟨Nat.le_trans h.dep hk, Nat.le_trans h.wt hw, h.short, h.shw⟩
theorem SdA.nil {k w : Nat} : SdA k w [] := ⟨Nat.zero_le _, Nat.zero_le _, rfl, rfl⟩
theorem SdA.cons {k w w' : Nat} {d : PyData} {ds : List PyData} (h : Sd k w d) (t : SdA k w' ds) : SdA k (w + 1 + w') (d :: ds) := by
  obtain ⟨a1, a2, a3, a4⟩ := h
  obtain ⟨b1, b2, b3, b4⟩ := t
  refine ⟨?_, ?_, ?_, ?_⟩
  · show max d.depth (PyData.depthAll ds) ≤ k
    omega
  · show d.weight + 1 + PyData.weightAll ds ≤ _
    omega
  · show (d.leavesShort 20 && PyData.leavesShortAll 20 ds) = true
    rw [a3, b3]
    rfl
  · show (d.showable && PyData.showableAll ds) = true
    rw [a4, b4]
    rfl
theorem Sd.tup {k w : Nat} {ds : List PyData} (h : SdA k w ds) : Sd (k + 1) w (.tuple ds) := ⟨by show PyData.depthAll ds + 1 ≤ _; have := h.dep; omega, h.wt, h.short, h.shw⟩
theorem Sd.lst {k w : Nat} {ds : List PyData} (h : SdA k w ds) : Sd (k + 1) w (.list ds) := ⟨by show PyData.depthAll ds + 1 ≤ _; have := h.dep; omega, h.wt, h.short, h.shw⟩
/-- a dict of one key -/
theorem Sd.dct1 {k w : Nat} {x : Str} {d : PyData} (h : Sd k w d) (hx : x.cps.toList.all (fun c => decide (c < 16 ^ 8)) = true) : Sd (k + 1) (x.cps.size + w + 2) (.dict [(.str x, d)]) := by
  obtain ⟨a1, a2, a3, a4⟩ := h
  refine ⟨?_, ?_, ?_, ?_⟩
  · show max (max 0 d.depth) 0 + 1 ≤ k + 1
    omega
  · show x.cps.size + d.weight + 2 + 0 ≤ _
    omega
  · show ((x.cps.toList.all fun c => decide (c < 16 ^ 8)) && d.leavesShort 20 && true) = true
    rw [hx, a3]
    rfl
  · show (true && d.showable && true) = true
    rw [a4]
    rfl
theorem Sd.d40 {d : PyData} {k w : Nat} (s : Sd k w d) (hk : k ≤ 40 := by decide) : d.depth ≤ 40 := Nat.le_trans s.dep hk
theorem Sd.len {d : PyData} {k w : Nat} (s : Sd k w d) (hw : w ≤ 100000 := by decide) : d.shown.length ≤ sizeLine := by
  have h := PyData.shown_le 20 (by decide) d s.short
  have := s.wt
  have e : (20 + 2) * d.weight ≤ 22 * 100000 := Nat.mul_le_mul (by decide) (by omega)
  rw [sizeLine_eq]
  omega
end L2.TP

/-! Layer J: an own exception that was caught and is kept as a value behind its clause. -/
namespace L2.TP
open PySem PySem.Spec PyProof.Rows
/-- an exception object of the class cls with the dict at d stands at a -/
def ExV (cls : Value) (d : Option Addr) (a : Addr) : HO := .ext fun h => ∃ (oe : Obj) (vs : Array Value), h.get? a = some oe ∧ Zc cls d oe ∧ oe.data = .fields vs
theorem exV_ok {P : Program} {w : World} {H : Hp} {h : Heap} {a : Addr} {cls : Value} {d : Option Addr} {oe : Obj} {vs : Array Value} (e : h.get? a = some oe) (z : Zc cls d oe) (hd : oe.data = .fields vs) : ObjOk P w H h a (ExV cls d a) :=
  ⟨⟨oe, vs, e, z, hd⟩, ⟨oe, e⟩, fun _ _ ⟨o, v, q, r⟩ k => ⟨o, v, k o q, r⟩⟩
section
variable {X : Cx} {pins : List (Addr × Obj)} {σ : St} {H : Hp} {s : Shared} {a : Addr} {o : HO}
/-- what stands there already is tracked from now on -/
theorem Inv.track (I : Inv X pins σ H s) (h0 : X.s_0.heap.get? a = none) (hn : H a = none) (new : ObjOk X.prog X.w (upd H a o) s.heap a o) (nL : a ≠ X.env.locals) (nC : ∀ x c, X.env.cells.lookup x = some c → c ≠ a) (nP : ∀ p ∈ X.pn ++ pins, p.1 ≠ a) : Inv X pins σ (upd H a o) s := by
  refine ⟨I.ok, I.os, I.bare, ⟨I.base.keep, I.base.slot, fun b u q n x => ?_, I.base.there, fun b xs q => ?_, fun b u xs q => ?_, fun b ps q => ?_⟩, I.loc, I.cell, ?_, fun x c e => ?_, fun p hp => ?_, fun b u e => ?_, I.len⟩
  · have ne : b ≠ a := fun z => by
      rw [z, h0] at q
      cases q
    rw [upd_ne ne]
    exact I.base.free b u q n x
  · have z := I.base.tups b xs q
    exact (upd_ne (ne_of_none z hn)).trans z
  · have z := I.base.frzs b u xs q
    exact (upd_ne (ne_of_none z hn)).trans z
  · obtain ⟨m, z⟩ := I.base.tbls b ps q
    exact ⟨m, (upd_ne (ne_of_none z hn)).trans z⟩
  · rw [upd_ne (Ne.symm nL)]
    exact I.free
  · rw [upd_ne (nC x c e)]
    exact I.freeC x c e
  · obtain ⟨p1, p2, p3⟩ := I.pin p hp
    exact ⟨p1, by rw [upd_ne (nP p hp)]; exact p2, p3⟩
  · by_cases c : b = a
    · subst c
      rw [upd_same] at e
      cases e
      exact new
    · rw [upd_ne c] at e
      refine (I.hok b u e).stay (fun _ _ _ q => q) (fun x q => ?_) fun x xs q => ?_
      · rw [upd_ne (ne_of_none q hn)]
        exact q
      · rw [upd_ne (ne_of_none q hn)]
        exact q
end
/-- what the clause wishes: behind it the exception is tracked -/
def wKeep (K : PySem.W.Frag) (c : Value) (i : Nat) (ts : Addr → Value → Option Addr → TS) (Wout : WX) (D : Ends) : WX := fun cls d σ H =>
  ∃ b, PySem.W.exmOne K cls c = some b ∧ (b = true → ∀ a, H a = none → ts a cls d { nx := fun σ' H' => H' a = none → D.nx (σ'.set i none) (upd H' a (ExV cls d a)), rt := fun _ _ => False, bk := fun _ _ => False, ct := fun _ _ => False } (σ.set i (some (.ref a))) H) ∧
    (b = false → Wout cls d σ H)
section
variable {X : Cx} {x n : Str} {c : Value} {i : Nat} {body suite : List Stmt} {b0 : Stmt} {np pos pos' : Pos} {tb : WX → TS} {ts : Addr → Value → Option Addr → TS} {Wout : WX}
theorem ps_try_keep (hs : X.stack = X.env :: X.outer) (hf : X.env.frame = some X.env.locals) (hN : X.N.Nodup) (hi : X.N[i]? = some n) (hln : X.env.kindOf n = some .local) (hex : X.ex = []) (hc : Names X x c) (tk : Takes X Wout)
    (hb : ∀ (W : WX) (pn : List (Addr × Obj)) (xe : Value → Shared → Prop), Takes (X.tr pn xe) W → PassesOwn (model X.prog X.w) X.A X.env xe → PSs (X.tr pn xe) body (tb W))
    (hsu : ∀ (a : Addr) (oe : Obj) (cls : Value) (d : Option Addr) (pn : List (Addr × Obj)), Zc cls d oe → (∃ vs, oe.data = .fields vs) → PSs (X.suite a ((a, oe) :: pn)) (b0 :: suite) (ts a cls d)) :
    PS X (.Try body [.ExceptHandler (some (.Name x np)) (some n) (b0 :: suite) pos'] [] [] pos) (fun D σ H => tb (wKeep X.K c i ts Wout D) D σ H) := by
  refine ⟨fun pins s σ H D I h => ?_⟩
  have ok := I.ok
  have frA : X.A.frames = some (X.env :: X.outer) := by rw [ok.frames, hs]
  refine wpAny_Try_except ?_
  refine wpAny_mono ((hb (wKeep X.K c i ts Wout D) (X.pn ++ pins) (fun er s2 => wpAny (model X.prog X.w) X.A (noteFrame er X.env) (fun _ s3 => wpAny (model X.prog X.w) X.A (setFlight er none) (fun _ s4 =>
    wpAny (model X.prog X.w) X.A (handleBy er X.env [.ExceptHandler (some (.Name x np)) (some n) (b0 :: suite) pos']) (SP X pins D) X.xe s4) X.xe s3) X.xe s2) (fun u s' xx => ?_) PassesOwn.looking).run [] s σ H D (I.toTry _) h) (fun fl s1 hsp => ?_) (fun e s1 he => he)
  · obtain ⟨a, B, sI, pins', σ', H', cls, d, rfl, J', nb, up, sky, na, os, ag, b, hb1, hyes, hno⟩ := xx
    have J : Inv X pins σ' H' sI := J'.ofTry ok
    have sk : Sky B (X.env :: X.outer) a (Zc cls d) X.env.locals s'.heap := by rw [← hs]; exact sky
    show wpAny (model X.prog X.w) X.A (noteFrame (.ref a) X.env) _ _ _
    refine Sky.land Zc.steady frA hf sk fun hA flA upA => ?_
    have JA : Inv X pins σ' H' { s' with heap := hA } := J.landed nb flA.1 (up.trans upA) os ag
    obtain ⟨oA, vA, eA, zA, dA⟩ := flA.there
    have nfr : a ∉ frs (X.env :: X.outer) := fun hm => by
      obtain ⟨_, o', e', hnf⟩ := flA.2.2.1.mem hm
      rw [eA] at e'
      cases e'
      exact hnf _ dA
    have nL : a ≠ X.env.locals := fun z => nfr (List.mem_filterMap.mpr ⟨X.env, List.mem_cons_self, by rw [hf, z]⟩)
    have nF : a ∉ X.fs := fun hm => by
      obtain ⟨e, he, q⟩ := List.mem_filterMap.mp hm
      exact nfr (List.mem_filterMap.mpr ⟨e, List.mem_cons_of_mem _ he, q⟩)
    -- it is new
    have nI : ∀ q, sI.heap.get? a ≠ some q := fun q z => by
      have r := nb a q z (by rw [hs]; exact nfr)
      rw [flA.2.1] at r
      cases r
    have n0 : X.s_0.heap.get? a = none := by
      cases q : X.s_0.heap.get? a with
      | none => rfl
      | some o =>
        obtain ⟨o', z⟩ := J.base.there a o q (by rw [hex]; simp)
        exact (nI _ z).elim
    have SA := JA.suite eA dA na nL nF
    refine wpAny_handleBy_cons (codeAny_handlers_test ?_) (by intro q; cases q)
    have LT : PySem.W.Looks (model X.prog X.w) hA (typeOf (.ref a)) cls := fun A Q E s k q => wpAny_typeOf_ref (k _ _ eA) (by rw [zA.1]; exact q)
    have LM := PySem.W.exm_one (M := model X.prog X.w) (JA.kIn) LT hb1
    have test : ∀ {Q : Value → Shared → Prop} {E : Value → Shared → Prop}, Q c { s' with heap := hA } → wpAny (model X.prog X.w) (X.A.mark (some (.ref a))) (eval (.Name x np) X.env) Q E { s' with heap := hA } := fun {Q E} q => by
      obtain ⟨hg, hdbg, hm | ⟨hm, hv, hnn⟩⟩ := hc
      · exact ld_glob (X := X.suite a ((a, oA) :: (X.pn ++ pins))) SA hg hm q hdbg
      · exact ld_blt (X := X.suite a ((a, oA) :: (X.pn ++ pins))) SA hg hm hv q hnn hdbg
    refine test (LM.here ?_)
    cases b with
    | true =>
      refine codeAny_handlers_suite_as ?_
      refine HandSPX.lands_againZ flA fun hC flC upC => ?_
      have JC : Inv X pins σ' H' { s' with heap := hC } := J.landed nb flC.1 ((up.trans upA).trans upC) os ag
      obtain ⟨oC, vC, eC, zC, dC⟩ := flC.there
      have SC := JC.suite eC dC na nL nF
      refine store_ok (X := X.suite a ((a, oC) :: (X.pn ++ pins))) (v := .ref a) SC hN hi (.inl hln) rfl (fun s5 S5 => ?_) (.inr hln)
      refine wpAny_mono ((hsu a oC cls d (X.pn ++ pins) zC ⟨_, dC⟩).run [] s5 _ H' _ S5 (hyes rfl a na)) (fun fl s6 hsp => ?_) (fun _ _ z => False.elim z)
      cases fl with
      | next =>
        obtain ⟨σ6, H6, S6, q6⟩ := hsp
        obtain ⟨g6, n6, _⟩ := S6.pin (a, oC) (List.mem_append_left _ List.mem_cons_self)
        have J6 : Inv X pins σ6 H6 s6 := S6.unsuite ok
        have T6 : Inv X pins σ6 (upd H6 a (ExV cls d a)) s6 := by
          refine Inv.track J6 n0 n6 (exV_ok g6 zC dC) nL (fun y cc e z => ?_) fun p hp z => ?_
          · obtain ⟨v, o, ho, hd⟩ := J6.cell y cc e
            rw [z, g6] at ho
            cases ho
            rw [dC] at hd
            cases hd
          · obtain ⟨p1, _⟩ := J.pin p hp
            rw [z] at p1
            exact nI _ p1
        exact gone_ok T6 hN hi hln fun s7 J7 => ⟨_, _, J7, q6 n6⟩
      | brk =>
        obtain ⟨σ6, H6, S6, q6⟩ := hsp
        exact q6.elim
      | cont =>
        obtain ⟨σ6, H6, S6, q6⟩ := hsp
        exact q6.elim
      | ret u =>
        obtain ⟨v6, σ6, H6, S6, r6, q6⟩ := hsp
        exact q6.elim
    | false =>
      show wpAny _ X.A (handleBy (.ref a) X.env []) _ _ _
      refine wpAny_handleBy_nil ?_
      obtain ⟨k1, k2, k3, oe, vs, tr, oT, tS, he, hz, hd, h1, hr⟩ := id flA
      unfold PySem.passOn
      refine wpAny_bind (wpAny_field he hd h1 ?_)
      rw [if_neg (show ¬ ((Value.ref tr == Value.none) = true) from by simp)]
      have fin : wpAny (model X.prog X.w) X.A (setFlight (.ref a) X.env.frame) (fun _ sF => wpAny (model X.prog X.w) X.A (throw (.ref a) : Sem Flow) (SP X pins D) X.xe sF) X.xe { s' with heap := hA } := by
        rw [hf]
        refine HandSPX.setFlight_upZ flA fun hC hhC upC => wpAny_throw (tk _ _ ?_)
        exact ⟨a, B, sI, pins, σ', H', cls, d, rfl, J, nb, (up.trans upA).trans upC, .inr (.inr (by rw [hs]; exact hhC)), na, os, ag, hno rfl⟩
      first
        | exact wpAny_bind (wpAny_pure (wpAny_bind fin))
        | exact wpAny_bind fin
  · cases fl with
    | next =>
      obtain ⟨σ', H', J', q⟩ := hsp
      exact wpAny_execs_nil ⟨σ', H', J'.ofTry ok, q⟩
    | brk =>
      obtain ⟨σ', H', J', q⟩ := hsp
      exact ⟨σ', H', J'.ofTry ok, q⟩
    | cont =>
      obtain ⟨σ', H', J', q⟩ := hsp
      exact ⟨σ', H', J'.ofTry ok, q⟩
    | ret u =>
      obtain ⟨v, σ', H', J', r, q⟩ := hsp
      exact ⟨v, σ', H', J'.ofTry ok, r, q⟩
end
end L2.TP

/-! Layer K: what may be asked of a kept exception: its fields, isinstance. -/
namespace PySem.TPX
open PySem PySem.Spec PySem.Calls PyProof.Rows PySem.W
section
variable {prog : Program} {w : World} {A : Around} {E : Value → Shared → Prop} {s : Shared} {K : Frag} {x D : Addr} {ox od : Obj}
/-- x.__class__, x an instance with a dict of the own error class at D -/
theorem exc_class {Q : Option Value → Shared → Prop} (C : L2.ExcC K D) (X : K.In s.heap) (I : InstAt s.heap x ox D (some od)) (h : Q (some (.ref D)) { s with toks := s.toks + 1 }) : wpAny (model prog w) A (getAttr? (.ref x) "__class__") Q E s := by
  have isS : (clsIn K D).isSome = true := by
    obtain ⟨cd, hc, _⟩ := any_some C.hd
    rw [hc]
    rfl
  have hf : findObj K D (some od) "__class__" = some (.bind (.builtin "getset_descriptor.__get__") (.builtin "object.__class__")) := findObj_data isS C.ha C.hn C.ht
  obtain ⟨hp, g, d, t, os⟩ := s
  have T0 := I.type (M := model prog w)
  have T1 := looks_findIn (M := model prog w) X C.hg
  have T2 := looks_findIn (M := model prog w) X C.hk
  have T3 := looks_find (M := model prog w) X I hf
  have sub : Looks (model prog w) hp (isInstance (.ref x) (.type "BaseException")) true := T0.andThen (looks_subIn X C.hs)
  have no2 : (Value.builtin "BaseException.__getattribute__" == Value.builtin "object.__getattribute__") = false := by decide +kernel
  have no1 : (onTheHeap (Value.ref D) && Value.builtin "BaseException.__getattribute__" == Value.builtin "object.__getattribute__") = false := by rw [no2]; rfl
  have no0 : (false && onTheHeap (Value.builtin "BaseException.__getattribute__")) = false := rfl
  unfold getAttr? getAttrBy? getAttrBy
  refine wpAny_bind (wpAny_mkText (wpAny_bind (wpAny_attempt (wpAny_holding (wpAny_bind (T0.at (wpAny_bind (T1.at ?_))))))))
  show wpAny _ _ (if (onTheHeap (Value.ref D) && Value.builtin "BaseException.__getattribute__" == Value.builtin "object.__getattribute__") = true then _ else _) _ _ _
  rw [no1, if_neg Bool.false_ne_true]
  unfold getAttrByItsOwn hookBefore
  refine wpAny_bind ?_
  rw [if_pos (show onTheHeap (Value.ref D) = true from rfl)]
  refine T2.at ?_
  refine wpAny_bind (wpAny_attempt (wpAny_holding ?_))
  unfold callGetattribute
  rw [no0, if_neg Bool.false_ne_true]
  unfold boundAndCalled
  rw [PySem.F.excAttr_ValueError.ga.bind (.ref x)]
  refine wpAny_bind (wpAny_pure ?_)
  show wpAny _ _ (call (.builtin "BaseException.__getattribute__") [.ref x, .str "__class__" t]) _ _ _
  refine wpAny_call (codeAny_call_builtin PySem.F.excAttr_ValueError.ga.plain PySem.F.entry_bexc_ga ?_)
  refine @check_slot (model prog w) _ _ ⟨hp, g, d, t + 1, os⟩ "BaseException.__getattribute__" "BaseException" "__getattribute__" (.ref x) [.str "__class__" t] [] _ (by decide +kernel) (by decide +kernel) sub (PySem.F.args_bexc_ga (.ref x) (.str "__class__" t)) ?_
  unfold Builtin.«object.__getattribute__»
  refine wpAny_bind (wpAny_of_eq (a := ((Value.ref x : Value), [Value.str "__class__" t])) (by first | rfl | (simp only [slotArgs]; rfl)) ?_)
  refine wpAny_bind (wpAny_pure (wpAny_bind (T0.at (wpAny_bind (T3.at ?_)))))
  show wpAny _ _ (holding [Value.builtin "object.__class__"] (call (.builtin "getset_descriptor.__get__") [.builtin "object.__class__", .ref x, .ref D]) >>= ret) _ _ _
  refine wpAny_bind (wpAny_holding (wpAny_call (class_get (s := ⟨hp, g, d, t + 1, os⟩) (ox := ox) (od := some od) X I C.hm ?_)))
  refine wpAny_pure ?_
  show wpAny _ _ (handedOut (.ref D)) _ _ _
  rw [handedOut_of (v := .ref D) rfl]
  first
    | exact wpAny_pure (wpAny_pure h)
    | exact wpAny_pure h
    | exact wpAny_pure (wpAny_bind (wpAny_pure (wpAny_pure h)))
theorem kit_exc (C : L2.ExcC K D) : KitX K (.ref x) (.ref D) (fun h => InstAt h x ox D (some od)) where
  ty := fun _ _ _ I => I.type
  it := fun _ _ X _ => by
    obtain ⟨cdD, hcD, _⟩ := any_some C.hd
    unfold clsIn at hcD
    split at hcD
    · rename_i c' d' cd' sl' ho
      intro A' Q' E' s' k q
      unfold isType loadHead
      exact wpAny_bind (wpAny_loadPart (k _ _ (X _ _ ho)) (wpAny_pure q))
    · cases hcD
  ne := fun h tp dd its n sl X htp => by
    obtain ⟨cdD, hcD, _⟩ := any_some C.hd
    refine Bool.eq_false_iff.mpr fun q => ?_
    have e : D = tp := Value.ref.inj (beq_iff_eq.mp q)
    subst e
    unfold clsIn at hcD
    split at hcD
    · rename_i c' d' cd' sl' ho
      have z := (X _ _ ho).symm.trans htp
      cases z
    · cases hcD
  ca := fun X I k => exc_class C X I k
end
end PySem.TPX
namespace L2.TP
open PySem PySem.Spec PyProof.Rows
/-- isinstance(x, c), x a kept exception -/
def rIsV (K : PySem.W.Frag) : List V → Hp → VK → Prop := fun xs H Q => ∃ (a D d : Addr) (fs : List (Str × V)) (c : V) (u : Value) (b : Bool), xs = [.ref a, c] ∧ ClsV c u ∧ H a = some (ExV (.ref D) (some d) a) ∧ H d = some (.xd fs) ∧ ExcC K D ∧ PySem.W.kitOne K (.ref D) u = some b ∧ Q (.bl b) H
/-- e.n, e a kept exception -/
def tXfV (K : PySem.W.Frag) (n : Str) (te : TE) : TE := fun σ H Q => te σ H fun x H1 => ∃ (a D d : Addr) (fs : List (Str × V)) (v : V), x = .ref a ∧ H1 a = some (ExV (.ref D) (some d) a) ∧ H1 d = some (.xd fs) ∧ XfC K D ∧ PySem.W.findIn K (.ref D) n = some none ∧ fs.lookup n = some v ∧ Q v H1
section
variable {X : Cx} {pins : List (Addr × Obj)} {σ : St} {H : Hp} {s : Shared}
theorem exV_inst {a D d : Addr} {fs : List (Str × V)} (I : Inv X pins σ H s) (e : H a = some (ExV (.ref D) (some d) a)) (ed : H d = some (.xd fs)) :
    ∃ (oe od : Obj) (mA : Str → Option Value), PySem.W.InstAt s.heap a oe D (some od) ∧ (∀ f, RelO (fs.lookup f) (mA f)) ∧ ∀ n : Str, PySem.W.lookIn n od = some (mA n) := by
  obtain ⟨⟨oe, vs, ha, hz, hd⟩, _, _⟩ := I.hok a _ e
  obtain ⟨mA, hns, hr⟩ := I.hok d _ ed
  obtain ⟨od, ho, hl⟩ := lookIn_ns hns
  exact ⟨oe, od, mA, ⟨ha, hz.1, by unfold PySem.W.notCls; rw [hd] <;> rfl, by rw [hz.2]; exact ho⟩, hr, hl⟩
theorem call_isV : CallR X (.builtin "isinstance") (rIsV X.K) := by
  intro pins s σ H xs us Q I r h
  obtain ⟨a, D, d, fs, c, u, b, rfl, hc, ea, ed, C, k, q⟩ := h
  obtain ⟨u1, u2, rfl, r1, r2⟩ := r.two
  cases r1
  have e2 := hc.eq r2
  subst e2
  obtain ⟨oe, od, mA, J, _, _⟩ := exV_inst I ea ed
  exact PySem.W.kia_one (PySem.TPX.kit_exc C) I.kIn J k (fun z => nomatch z) fun tk => ⟨.bl b, H, I.kept (t' := tk) fun _ _ z => z, rfl, q⟩
theorem pe_xfV {e : Expr} {te : TE} {pos : Pos} {n : Str} (he : PE X e te) (hb : attributeBase e n X.env (eval e X.env) = eval e X.env := by rfl) : PE X (.Attribute e n pos) (tXfV X.K n te) := by
  refine ⟨fun pins s σ H Q I h => ?_⟩
  refine attr_of hb (thn (he.run pins s σ H _ I h) fun u s1 hh => ?_)
  obtain ⟨x, H1, I1, rx, a, D, d, fs, v, rfl, ea, ed, T, hno, l, q⟩ := hh
  obtain rfl : u = Value.ref a := rx
  obtain ⟨oe, od, mA, J, hr, hl⟩ := exV_inst I1 ea ed
  obtain ⟨u, hu, ru⟩ := RelO.some_of (v := v) (o := mA n) (by rw [← l]; exact hr n)
  exact HandSPX.exc_get I1.kIn J T.ga T.gg T.exC (PySem.W.findObj_own T.hdC hno rfl (by rw [hl, hu])) (handed_of ru) ⟨v, H1, I1.tok _, ru, q⟩
end
end L2.TP

/-! Layer L: the law's own call, with tables of code objects, the table of modules tracked. -/
namespace L2.TP
open PySem PySem.Spec PyProof.Rows LamX
/-- what the law's call may lean on: cs, the code objects and their tables -/
structure CallL (K : PySem.W.Frag) (mg mb : Str → Option Value) (cs : List (Addr × Addr)) (h : Heap) : Prop where
  kin : K.In h
  ns : h.Ns mainGlobals mg
  bl : h.Ns builtinsNs mb
  bb : ∀ x : Str, x ≠ "__name__" → mb x = bootBuiltins x
  lim : h.NoLimit
  tabs : ∀ p ∈ cs, h.get? p.2 = some { cls := .none, data := .fields #[] }
  notK : ∀ p ∈ cs, K.lookup p.2 = none
  code : ∀ p ∈ cs, PySem.W.CodeHd h p.1 p.2
  bm : ∃ (bm : Addr) (ob : Obj), mg "__builtins__" = some (.ref bm) ∧ bm ≠ builtinsNs ∧ h.get? bm = some ob ∧ ob.cls = .type "module" ∧ ob.dict = some builtinsNs ∧ ob.data = .plain
  mods : ∃ mm, h.Ns sysModules mm
  modK : K.lookup sysModules = none
/-- what is tracked: the script, the tables, the modules -/
structure StartL (K : PySem.W.Frag) (cs : List (Addr × Addr)) (a : Addr) (oS : Obj) (H : Hp) : Prop where
  tab : ∀ p ∈ cs, H p.2 = some (.tbl #[])
  sm : H sysModules = some (smF oS)
  all : ∀ b, H b = none ∨ b ∈ cs.map (·.2) ∨ ∃ o u, H b = some (.frz o u)
  only : ∀ b, H b ≠ none → b = a ∨ b ∈ cs.map (·.2) ∨ b = sysModules
  notK : H a ≠ none → K.lookup a = none
section
variable {P : Program} {w : World} {K : PySem.W.Frag} {mg mb : Str → Option Value} {CX : CXT} {k : Nat} {fa a : Addr} {cs : List (Addr × Addr)} {fd : FuncData} {x : Str} {sp : Sp} {s1 : Shared} {vs : List Value} {ns : List Int} {oS : Obj} {H : Hp}
theorem CallL.modNe (C : CallL K mg mb cs s1.heap) : (∀ p ∈ cs, p.2 ≠ sysModules) := fun p hp z => by
  obtain ⟨mm, o, es, ep, e, d, _⟩ := C.mods
  rw [← z, C.tabs p hp] at e
  cases e
  cases d
/-- the part of the heap that stays -/
theorem CallL.mod (C : CallL K mg mb cs s1.heap) (S : StartL K cs a oS H) (ha : s1.heap.get? a = some { cls := .type "list", data := .seq vs.toArray }) :
    L2.Mod K mg (hidT s1.heap H) ∧ K.In (hidT s1.heap H) ∧ (hidT s1.heap H).Ns mainGlobals mg ∧ ∀ p ∈ cs, TabB (hidT s1.heap H) mg p.1 p.2 := by
  have isT : ∀ b : Addr, b ∈ cs.map (·.2) → s1.heap.get? b = some { cls := .none, data := .fields #[] } := fun b hb => by
    obtain ⟨p, hp, e⟩ := List.mem_map.mp hb
    rw [← e]
    exact C.tabs p hp
  have noD : ∀ {b : Addr} {o : Obj}, b ≠ sysModules → s1.heap.get? b = some o → (∀ vs n, o.data ≠ .seq vs n) → o.data ≠ .fields #[] → H b = none := fun {b o} nb e h1 h2 => by
    cases q : H b with
    | none => rfl
    | some u =>
      rcases S.only b (by rw [q]; simp) with z | z | z
      · rw [z, ha] at e
        cases e
        exact (h1 _ _ rfl).elim
      · rw [isT b z] at e
        cases e
        exact (h2 rfl).elim
      · exact (nb z).elim
  have nsK : ∀ {b : Addr} {m : Str → Option Value}, b ≠ sysModules → s1.heap.Ns b m → (hidT s1.heap H).Ns b m := fun {b m} nb ⟨o, es, ep, e, d, r⟩ => by
    refine ⟨o, es, ep, hidT_get e (noD nb e (fun vs n z => ?_) fun z => ?_), d, r⟩
    · rw [d] at z
      cases z
    · rw [d] at z
      cases z
  have hKb : K.In (hidT s1.heap H) := fun b o e => hidT_get (C.kin b o e) (by
    cases q : H b with
    | none => rfl
    | some u =>
      rcases S.only b (by rw [q]; simp) with z | z | z
      · rw [z] at e q
        rw [S.notK (by rw [q]; simp)] at e
        cases e
      · obtain ⟨p, hp, ep⟩ := List.mem_map.mp z
        rw [← ep, C.notK p hp] at e
        cases e
      · rw [z, C.modK] at e
        cases e)
  have g1 : mainGlobals ≠ sysModules := by decide
  have g2 : builtinsNs ≠ sysModules := by decide
  have g3 : cStatics ≠ sysModules := by decide
  refine ⟨⟨hKb, nsK g1 C.ns, ⟨mb, nsK g2 C.bl, C.bb⟩, let ⟨mc, h1, h2⟩ := C.lim; ⟨mc, nsK g3 h1, h2⟩⟩, hKb, nsK g1 C.ns, fun p hp => ?_⟩
  have hTp := C.tabs p hp
  obtain ⟨mm, oM, esM, epM, eM, dM, _⟩ := C.mods
  refine ⟨?_, ?_, fun z => ?_⟩
  · obtain ⟨o, us, file, tf, flags, tg, inF, text, tt, e1, r1, r2, r3, r4, r5, r6, r7, r8, hne⟩ := C.code p hp
    have nb : p.1 ≠ sysModules := fun z => by
      rw [z, eM] at e1
      cases e1
      rw [dM] at r2
      cases r2
    refine ⟨o, us, file, tf, flags, tg, inF, text, tt, hidT_get e1 (noD nb e1 (fun vs n z => ?_) fun z => ?_), r1, r2, r3, r4, r5, r6, r7, r8, hne⟩
    · rw [r2] at z
      cases z
    · rw [r2] at z
      cases z
      simp at r3
  · obtain ⟨bm, ob, b1, b2, b3, b4, b5, b6⟩ := C.bm
    have nG : bm ≠ mainGlobals := fun q => by
      obtain ⟨o, es, ep, e, hd, _⟩ := C.ns
      rw [q, e] at b3
      cases b3
      rw [hd] at b6
      cases b6
    have nP : bm ≠ p.2 := fun q => by
      rw [q, hTp] at b3
      cases b3
      cases b6
    have nb : bm ≠ sysModules := fun z => by
      rw [z, eM] at b3
      cases b3
      rw [dM] at b6
      cases b6
    refine ⟨bm, ob, b1, b2, nG, nP, hidT_get b3 (noD nb b3 (fun vs n z => ?_) fun z => ?_), b4, b5, b6⟩
    · rw [b6] at z
      cases z
    · rw [b6] at z
      cases z
  · obtain ⟨o, es, ep, e, hd, _⟩ := C.ns
    rw [z, hTp] at e
    cases e
    cases hd

theorem law_core (C : CallL K mg mb cs s1.heap) (S : StartL K cs a oS H) (ha : s1.heap.get? a = some { cls := .type "list", data := .seq vs.toArray }) (hg : s1.gens = #[]) (hok : HOk P w H s1.heap) (hS : SqL K H a (ns.map V.int)) (hr : Room k callerA)
    (F : ∀ base : Heap, K.In base → base.Ns mainGlobals mg → (∀ p ∈ cs, TabB base mg p.1 p.2) → FnG P w K mg base CX k fa fd [x] sp) (hbind : ∀ (s : Shared) (u : Value), BindsTo s fd ⟨[u], []⟩ [(x, u)])
    (hsp : sp [.ref a] H (fun v _ => v = .bl true) fun _ _ _ => False) (hCX : ∀ H e s', CX [] H s1 (fun _ _ _ => False) e s' → False) :
    codeAny (model P w) callerA (.call (.ref fa) ⟨[.ref a], []⟩) (fun r s' => r = .ok (.ret (.bool true)) ∧ OldK s1.heap s'.heap ∧ s'.os = s1.os ∧ AllBare s'.gens) s1 := by
  obtain ⟨hM, hKb, hns, TB⟩ := C.mod S ha
  have e0 : Env0 P w K mg (hidT s1.heap H) callerA [] s1 H := ⟨rfl, hM, fun b o e => of_hidT e, Nat.le_of_eq (hidT_size _ _), trivial, fun b hb => absurd (show b ∈ ([] : List Addr) from hb) (by simp), hok, .of_eq hg⟩
  refine codeAny_mono ((F _ hKb hns TB).run callerA [] s1 H ⟨[.ref a], []⟩ [.ref a] [.ref a] _ _ rfl hr e0 (hbind s1 (.ref a)) (.cons rfl .nil) hsp) fun r s' h => ?_
  cases r with
  | error e => exact (hCX H e s' h).elim
  | ok fl =>
    cases fl with
    | next => exact False.elim h
    | brk => exact False.elim h
    | cont => exact False.elim h
    | ret u =>
      obtain ⟨v, H', os, bare, un, hok', r', q⟩ := h
      have q' : v = .bl true := q
      subst q'
      obtain rfl : u = Value.bool true := r'
      have key : ∀ b o, b ∉ cs.map (·.2) → s1.heap.get? b = some o → s'.heap.get? b = some o := fun b o nb e => by
        rcases S.all b with z | z | ⟨ob, xs, z⟩
        · exact un.keep b o e z (fun y => absurd (show b ∈ ([] : List Addr) from y) (by simp)) (by simp)
        · exact absurd z nb
        · obtain ⟨e1, _⟩ := hok b _ z
          obtain ⟨e2, _⟩ := hok' b _ (un.frzs b ob _ z)
          rw [e] at e1
          cases e1
          exact e2
      have grown : ∀ p ∈ cs, ∃ more : Array Value, s'.heap.get? p.2 = some { cls := .none, data := .fields more } := fun p hp => by
        obtain ⟨more, z⟩ := un.tbls p.2 #[] (S.tab p hp)
        exact ⟨_, hok' p.2 _ z⟩
      refine ⟨rfl, ⟨fun b o e => ?_, fun b o e => ?_⟩, os, bare⟩
      · by_cases hb : b ∈ cs.map (·.2)
        · obtain ⟨p, hp, ep⟩ := List.mem_map.mp hb
          obtain ⟨more, hm⟩ := grown p hp
          rw [← ep] at e ⊢
          rw [C.tabs p hp] at e
          cases e
          exact .inr (.inl ⟨((C.code p hp).tab (C.tabs p hp)).isCodeTable, rfl, #[], more, rfl, by rw [Array.empty_append]; exact hm⟩)
        · exact .inl (key b o hb e)
      · by_cases hb : b ∈ cs.map (·.2)
        · obtain ⟨p, hp, ep⟩ := List.mem_map.mp hb
          obtain ⟨more, hm⟩ := grown p hp
          rw [← ep]
          exact ⟨_, hm⟩
        · exact ⟨o, key b o hb e⟩
open Classical in
theorem law_callL (C : CallL K mg mb cs s1.heap) (ha : s1.heap.get? a = some { cls := .type "list", data := .seq vs.toArray }) (hi : IntsAre vs ns) (hl : ns.length ≤ sizeLine) (hg : s1.gens = #[]) (hr : Room k callerA)
    (F : ∀ base : Heap, K.In base → base.Ns mainGlobals mg → (∀ p ∈ cs, TabB base mg p.1 p.2) → FnG P w K mg base CX k fa fd [x] sp) (hbind : ∀ (s : Shared) (u : Value), BindsTo s fd ⟨[u], []⟩ [(x, u)])
    (hsp : ∀ (H : Hp) (oS : Obj), (∀ p ∈ cs, H p.2 = some (.tbl #[])) → H sysModules = some (smF oS) → SqL K H a (ns.map V.int) → sp [.ref a] H (fun v _ => v = .bl true) fun _ _ _ => False) (hCX : ∀ H e s', CX [] H s1 (fun _ _ _ => False) e s' → False) :
    codeAny (model P w) callerA (.call (.ref fa) ⟨[.ref a], []⟩) (fun r s' => r = .ok (.ret (.bool true)) ∧ OldK s1.heap s'.heap ∧ s'.os = s1.os ∧ AllBare s'.gens) s1 := by
  have rv := vals_ints hi
  have lenV := hi.length
  obtain ⟨mm, oS, esM, epM, eM, dM, _⟩ := id C.mods
  have aM : a ≠ sysModules := fun z => by
    rw [z, eM] at ha
    cases ha
    cases dM
  have tM := C.modNe
  have tA : ∀ p ∈ cs, p.2 ≠ a := fun p hp z => by
    have q := C.tabs p hp
    rw [z, ha] at q
    have z' : Data.seq vs.toArray _ = Data.fields #[] := congrArg Obj.data (Option.some.inj q)
    cases z'
  let fr : HO := .frz { cls := .type "list", data := .seq vs.toArray } (.lst (ns.map V.int))
  let H : Hp := fun b => if b = sysModules then some (smF oS) else if b = a then (if (K.lookup a).isSome then none else some fr) else if b ∈ cs.map (·.2) then some (.tbl #[]) else none
  have H1 : H sysModules = some (smF oS) := if_pos rfl
  have H2 : H a = if (K.lookup a).isSome then none else some fr := (if_neg aM).trans (if_pos rfl)
  have H3 : ∀ p ∈ cs, H p.2 = some (.tbl #[]) := fun p hp => (if_neg (tM p hp)).trans ((if_neg (tA p hp)).trans (if_pos (List.mem_map.mpr ⟨p, hp, rfl⟩)))
  have H4 : ∀ b, b ≠ sysModules → b ≠ a → b ∉ cs.map (·.2) → H b = none := fun b h1 h2 h3 => (if_neg h1).trans ((if_neg h2).trans (if_neg h3))
  have hS : SqL K H a (ns.map V.int) := by
    cases hk : K.lookup a with
    | some o =>
      have e := C.kin a o hk
      rw [ha] at e
      cases e
      exact .inr ⟨_, vs.toArray, _, hk, rfl, rfl, rfl, by rw [List.size_toArray, lenV]; exact hl, by simpa using rv⟩
    | none =>
      rw [hk] at H2
      exact .inl (.inr ⟨_, H2⟩)
  have S : StartL K cs a oS H := by
    refine ⟨H3, H1, fun b => ?_, fun b hb => ?_, fun z => ?_⟩
    · by_cases c1 : b = sysModules
      · rw [c1]
        exact .inr (.inr ⟨_, _, H1⟩)
      · by_cases c2 : b = a
        · rw [c2]
          by_cases c : (K.lookup a).isSome
          · exact .inl (H2.trans (if_pos c))
          · exact .inr (.inr ⟨_, _, H2.trans (if_neg c)⟩)
        · by_cases c3 : b ∈ cs.map (·.2)
          · exact .inr (.inl c3)
          · exact .inl (H4 b c1 c2 c3)
    · by_cases c1 : b = sysModules
      · exact .inr (.inr c1)
      · by_cases c2 : b = a
        · exact .inl c2
        · by_cases c3 : b ∈ cs.map (·.2)
          · exact .inr (.inl c3)
          · exact absurd (H4 b c1 c2 c3) hb
    · by_cases c : (K.lookup a).isSome
      · exact absurd (H2.trans (if_pos c)) z
      · cases e : K.lookup a with
        | none => rfl
        | some o =>
          rw [e] at c
          exact absurd rfl c
  have hok : HOk P w H s1.heap := fun b u e => by
    by_cases c1 : b = sysModules
    · rw [c1] at e ⊢
      rw [H1] at e
      cases e
      exact ⟨eM, ⟨_, eM⟩⟩
    · by_cases c2 : b = a
      · rw [c2] at e ⊢
        by_cases c : (K.lookup a).isSome
        · rw [H2.trans (if_pos c)] at e
          cases e
        · rw [H2.trans (if_neg c)] at e
          cases e
          exact ⟨ha, by rw [List.length_map]; exact hl, vs, _, rv, ha⟩
      · by_cases c3 : b ∈ cs.map (·.2)
        · obtain ⟨p, hp, ep⟩ := List.mem_map.mp c3
          rw [← ep] at e ⊢
          rw [H3 p hp] at e
          cases e
          exact C.tabs p hp
        · rw [H4 b c1 c2 c3] at e
          cases e
  exact law_core C S ha hg hok hS hr F hbind (hsp H oS H3 H1 hS) hCX
end
/-- what is to be told of the law at the head's heap h -/
def LawL (l : PySem.W.OpenLaw) (w : World) (K : PySem.W.Frag) (CX : CXT) (k n : Nat) (x : Str) (mg : Str → Option Value) (fa : Addr) (h : Heap) : Prop :=
  ∃ (fd : FuncData) (cs : List (Addr × Addr)) (sp : Sp), (∀ p ∈ cs, h.get? p.2 = some { cls := .none, data := .fields #[] }) ∧ (∀ p ∈ cs, K.lookup p.2 = none) ∧ (∀ p ∈ cs, PySem.W.CodeHd h p.1 p.2) ∧ (∀ (s : Shared) (u : Value), BindsTo s fd ⟨[u], []⟩ [(x, u)]) ∧
    (∀ (H : Hp) (oS : Obj) (a : Addr) (ns : List Int), ns.length ≤ n → (∀ p ∈ cs, H p.2 = some (.tbl #[])) → H sysModules = some (smF oS) → SqL K H a (ns.map V.int) → sp [.ref a] H (fun v _ => v = .bl true) fun _ _ _ => False) ∧
    ∀ base : Heap, K.In base → base.Ns mainGlobals mg → (∀ p ∈ cs, TabB base mg p.1 p.2) → FnG l.prog w K mg base CX k fa fd [x] sp
theorem walkL {l : PySem.W.OpenLaw} {n k : Nat} {q : Program} {loose : List Str} {XP : (Str → Option Value) → Heap → Prop} {YP : World → Heap → Prop} {d : DefRec} {K : Params → PySem.W.Frag} {CX : CXT} {x : Str}
    (hn : l.most = some n) (hn2 : n ≤ sizeLine) (hdf : d.params.defaults = []) (hr : Room k callerA) (hY : ∀ (w : World) (h : Heap), YP w h → (K w.params).In h) (hm : ∀ w : World, (K w.params).lookup sysModules = none) (hi : importsNone q = true)
    (F : ∀ (w : World) (mg : Str → Option Value) (fa : Addr) (h : Heap), (∀ d ∈ recsOf q, ∃ a o fd c P, mg d.name = some (.ref a) ∧ h.get? a = some o ∧ o.data = .func fd ∧ fd.code = .ref c ∧ h.IsCode c P #[] ∧ h.TableAt c P #[]) →
      (K w.params).In h → h.Ns mainGlobals mg → mg d.name = some (.ref fa) → LawL l w (K w.params) CX k n x mg fa h)
    (hCX : ∀ (H : Hp) (s : Shared) (e : Value) (s' : Shared), CX [] H s (fun _ _ _ => False) e s' → False) :
    PySem.W.WalkO q loose XP YP l.row.toRowW d [] (fun f vs => PySem.call f vs) := by
  refine Att.attach_callB hn hdf fun w s0 s1 mg mb fa o pm cd doc a vs ns G Y ho hd hcd hmg hobj hints hlen hbits hg => ?_
  have KX := hY w _ Y
  obtain ⟨fd, cs, sp, hT, nT, C, hb, hsp, hF⟩ := F w mg fa _ G.T.tab KX G.T.g hmg
  obtain ⟨mm, hmm, _⟩ := (G.T.seer hi).mods
  exact law_callL ⟨KX, G.T.g, G.T.b, G.T.builtins, G.T.nolimit, hT, nT, C, G.T.bmain, ⟨mm, hmm⟩, hm w⟩ hobj hints (Nat.le_trans hlen hn2) hg hr hF hb (fun H oS h1 h2 h3 => hsp H oS a ns hlen h1 h2 h3) fun H e s' => hCX H s1 e s'
end L2.TP

/-! Layer M: lists of flat values counted and compared; the type of data. -/
namespace L2.TP
open PySem PySem.Spec PyProof.Rows
section
variable {X : Cx}
/-- xs.count(y), flat items -/
def rCntF (K : PySem.W.Frag) : V → List V → Hp → VK → Prop := fun x xs H Q => ∃ (p : Addr) (ys : List V) (y : V), x = .ref p ∧ xs = [y] ∧ SqL K H p ys ∧ flatV y = true ∧ ys.all flatV = true ∧ Q (.int (ys.countP fun z => eqV z y : Nat)) H
theorem cnt_of {y : V} : ∀ {ys : List V} {us : List Value}, Vals ys us → ys.all flatV = true → us.countP (eqU y) = ys.countP fun z => eqV z y
  | _, _, .nil, _ => rfl
  | z :: ys, u :: us, .cons r t, f => by
    rw [List.all_cons, Bool.and_eq_true] at f
    rw [List.countP_cons, List.countP_cons, cnt_of t f.2, eqU_of r f.1]
theorem mt_countF : MtR X "list.count" (rCntF X.K) := by
  intro pins s σ H x xs v us Q I rx rxs h
  obtain ⟨p, ys, y, rfl, rfl, hs, fy, fys, q⟩ := h
  cases rx
  obtain ⟨u, rfl, ru⟩ := rxs.one
  obtain ⟨its, rv, ⟨⟨cls, dd, data, sl⟩, n, ho, hc, hdn, hd⟩, hlen⟩ := I.list hs
  simp only at hc hd
  subst hc hd
  refine call_meets PySem.F.slot_list_count ⟨_, ho, rfl⟩ PySem.F.entry_list_count (PySem.F.args_list_count_2 _ _)
    (SeqAt.list_countAt p its.toArray n dd sl u (eqU y)) ⟨ho, fun u' hu' => mem_eqAt ru fy rv fys u' (by simpa using hu'), ?_⟩
  refine ⟨.int (ys.countP fun z => eqV z y : Nat), H, I.tok _, ⟨s.toks, ?_⟩, q⟩
  have ec : its.toArray.toList.countP (eqU y) = ys.countP fun z => eqV z y := by
    rw [List.toList_toArray]
    exact cnt_of rv fys
  show Value.int ((its.toArray.toList.countP (eqU y) : Nat) : Int) s.toks = _
  rw [ec]
/-- xs != ys, two lists of the same flat values -/
def rNeF (K : PySem.W.Frag) : R2 := fun x y H Q => ∃ (a b : Addr) (ys : List V), x = .ref a ∧ y = .ref b ∧ SqL K H a ys ∧ SqL K H b ys ∧ ys.all flatV = true ∧ Q (.bl false) H
theorem eqV_self {y : V} (f : flatV y = true) : eqV y y = true := by
  cases y <;> first | rfl | (simp [eqV]; done) | (cases f; done)
theorem op_neF (hu : X.A.units < cLine) : OpR X (compareOp .NotEq) (rNeF X.K) := by
  intro pins s σ H x y v u Q I rx ry h
  obtain ⟨a, b, ys, rfl, rfl, ha, hb, f, q⟩ := h
  cases rx
  cases ry
  obtain ⟨its, rv, ⟨⟨cls, dd, data, sl⟩, n, ho, hc, hdn, hd⟩, hlen⟩ := I.list ha
  obtain ⟨its2, rv2, ⟨⟨cls2, dd2, data2, sl2⟩, n2, ho2, hc2, hdn2, hd2⟩, hlen2⟩ := I.list hb
  simp only at hc hd hc2 hd2
  subst hc hd hc2 hd2
  have ta : s.TypeIs (.ref a) "list" := ⟨_, ho, rfl⟩
  have tb : s.TypeIs (.ref b) "list" := ⟨_, ho2, rfl⟩
  have l1 := rv.length
  have l2 := rv2.length
  have hsz : its.toArray.size = its2.toArray.size := by
    rw [List.size_toArray, List.size_toArray]
    omega
  show wpAny _ _ (richCompare .NotEq (.ref a) (.ref b)) _ _ _
  refine wpAny_richCompare_same_room (op := .NotEq) ta tb F.slot_list_ne (call_meets F.slot_list_ne ta F.entry_list_ne (F.args_list_ne_2 _ _) (SeqAt.list_neAt a b its.toArray its2.toArray n n2 dd dd2 sl sl2 hsz (fun _ => true))
    ⟨ho, ho2, fun j h1 h2 => ?_, ?_⟩) hu
  · have j1 : j < its.length := by simpa using h1
    have j2 : j < its2.length := by simpa using h2
    have jy : j < ys.length := by omega
    obtain ⟨u1, e1, r1⟩ := rv.get (List.getElem?_eq_getElem jy)
    obtain ⟨u2, e2, r2⟩ := rv2.get (List.getElem?_eq_getElem jy)
    obtain ⟨_, g1⟩ := List.getElem?_eq_some_iff.mp e1
    obtain ⟨_, g2⟩ := List.getElem?_eq_some_iff.mp e2
    have fy : flatV ys[j] = true := flat_at f (List.getElem?_eq_getElem jy)
    have z := eqAt_V (A := X.A.in1) (s := s) r1 r2 fy fy
    rw [eqV_self fy] at z
    have k1 : its.toArray[j] = u1 := by simpa using g1
    have k2 : its2.toArray[j] = u2 := by simpa using g2
    rw [k1, k2]
    exact z
  · have e : (!(List.range its.toArray.size).all fun _ => true) = false := by simp
    rw [e]
    exact ⟨(fun x => nomatch x), ⟨.bl false, H, I, rfl, q⟩⟩
end
/-- the name of the type of data -/
def tnD : PyData → String
  | .none => "NoneType"
  | .bool _ => "bool"
  | .int _ => "int"
  | .str _ => "str"
  | .list _ => "list"
  | .tuple _ => "tuple"
  | .dict _ => "dict"
theorem tyD {K : PySem.W.Frag} {H : Hp} {v : V} {d : PyData} (h : Dq H v d) : TyX K H v (.type (tnD d)) := by
  cases h with
  | non => exact .base .non
  | bl b => exact .base (.bl b)
  | int i => exact .base (.int i)
  | str x => exact .base (.str x)
  | lst h t => exact .base (.lst h)
  | tup h t => exact .base (.tup h)
  | dct h t => exact .base (.dK h)
/-- an int, or a bool -/
def intB : PyData → Bool
  | .bool _ => true
  | .int _ => true
  | _ => false
def boolB : PyData → Bool
  | .bool _ => true
  | _ => false
theorem kitI {K : PySem.W.Frag} (d : PyData) : PySem.W.kitOne K (.type (tnD d)) (.type "int") = some (intB d) := by
  cases d with
  | none => exact kit_ty (by show kitB "NoneType" "int" = some false; decide +kernel)
  | bool _ => exact kit_ty (by show kitB "bool" "int" = some true; decide +kernel)
  | int _ => exact kit_ty (by show kitB "int" "int" = some true; decide +kernel)
  | str _ => exact kit_ty (by show kitB "str" "int" = some false; decide +kernel)
  | list _ => exact kit_ty (by show kitB "list" "int" = some false; decide +kernel)
  | tuple _ => exact kit_ty (by show kitB "tuple" "int" = some false; decide +kernel)
  | dict _ => exact kit_ty (by show kitB "dict" "int" = some false; decide +kernel)
theorem kitBl {K : PySem.W.Frag} (d : PyData) : PySem.W.kitOne K (.type (tnD d)) (.type "bool") = some (boolB d) := by
  cases d with
  | none => exact kit_ty (by show kitB "NoneType" "bool" = some false; decide +kernel)
  | bool _ => exact kit_ty (by show kitB "bool" "bool" = some true; decide +kernel)
  | int _ => exact kit_ty (by show kitB "int" "bool" = some false; decide +kernel)
  | str _ => exact kit_ty (by show kitB "str" "bool" = some false; decide +kernel)
  | list _ => exact kit_ty (by show kitB "list" "bool" = some false; decide +kernel)
  | tuple _ => exact kit_ty (by show kitB "tuple" "bool" = some false; decide +kernel)
  | dict _ => exact kit_ty (by show kitB "dict" "bool" = some false; decide +kernel)
/-- an integer from lo to hi -/
def fromD (lo hi : Int) : PyData → Bool
  | .int i => decide (lo ≤ i) && decide (i ≤ hi)
  | _ => false
end L2.TP

/-! Layer N: a lambda without parameters handed to a def, what the def wishes of its exceptions told with the def's slots. -/
namespace L2.TP
open PySem PySem.Spec PyProof.Rows LamX
/-- the context of the def g (its names Ng) that X calls at s -/
abbrev gCx (X : Cx) (Ng : List Str) (x : Str) (sg : Scope) (g : Addr) (cdg : Value) (s : Shared) (H : Hp) : Cx := cxOf C8.CX0 X.prog X.w X.K X.mg X.base Ng x sg g cdg X.A X.stack s H C8.E0
section
variable {X : Cx} {pins : List (Addr × Obj)} {σ : St} {H : Hp} {s : Shared}
/-- the call of the lambda at f, in the def that got it -/
theorem pe_actS {Ng : List Str} {qg : Str} {sg : Scope} {g f c' : Addr} {cdg pm ctv : Value} {params : Arguments} {body : Expr} {scope : Scope} {k i : Nat} {a : Str} {pn : List (Addr × Obj)} {xe : Value → Shared → Prop} {W : WX} {E : St → XK} {tb : XK → TE} {p1 p2 : Pos}
    (I : Inv X pins σ H s) (L : LamS X.env.scope scope) (hf : s.heap.get? f = some (PySem.W.kla_obj "<lambda>" (X.env.qual ++ "<lambda>") params body scope (cloFrom X.env.cells scope.names []) pm c' ctv)) (hfn : H f = none) (hfr : f ∉ frs X.stack)
    (hbind : bindArgs (PySem.W.kla_fn "<lambda>" (X.env.qual ++ "<lambda>") params body scope (cloFrom X.env.cells scope.names []) pm (.ref c') ctv) ⟨[], []⟩ = pure [])
    (tk : Takes ((gCx X Ng qg sg g cdg s H).tr pn xe) W) (hW : ∀ σ' cls d H', E σ' cls d H' → W cls d σ' H') (hr : Room (k + 1) (X.A.deeper (envOfC qg sg s.heap.objs.size g cdg)))
    (hbody : ∀ (A : Around) (outer : List Env) (s : Shared) (H : Hp) (E : XK), Room k (A.deeper (lamEnv X scope s.heap.objs.size f c')) → PE (lamCx X A outer s H E scope f c') body (tb E))
    (hN : Ng[i]? = some a) (hv : Vis sg a) (hd : (a == ("__debug__" : Str)) = false := by decide) (hcd : (a == ("__classdict__" : Str)) = false := by decide) :
    PE ((gCx X Ng qg sg g cdg s H).tr pn xe) (.Call (.Name a p1) [] [] p2) (fun τ HZ Q => τ[i]? = some (some (.ref f)) ∧ HZ c' = some (CodeO c' (X.env.qual ++ "<lambda>")) ∧ tb (E τ) σ HZ Q) := by
  refine ⟨fun pZ sZ τ HZ Q IZ h => ?_⟩
  obtain ⟨hs, hc, ht⟩ := h
  refine wpAny_Call_Name_kw (thn ((pe_var (pos := p1) (i := i) hN hv hd hcd).run pZ sZ τ HZ (fun v H1 => v = .ref f ∧ H1 = HZ) IZ ⟨.ref f, hs, rfl, rfl⟩) fun u s1 hq1 => ?_)
  obtain ⟨v, H1, I1, r1, ev, eH⟩ := hq1
  subst ev
  rw [eH] at I1
  obtain rfl : u = Value.ref f := r1
  have of1 := I1.base.keep f _ hf hfn hfr (fun z => nomatch (show f ∈ ([] : List Addr) from z))
  refine PySem.W.callWith_F0 ⟨_, _, _, _, of1⟩ ?_
  have un : Un (frs X.stack) [] H HZ s.heap s1.heap := I1.base
  obtain ⟨⟨oc, vs, t, hoc, hdc, hvc⟩, _, _⟩ := I1.hok c' _ hc
  have rc : codeAny (model X.prog X.w) (X.A.deeper (envOfC qg sg s.heap.objs.size g cdg)) (.call (.ref f) ⟨[], []⟩) (CR (L2.CX X.prog X.w) (envOfC qg sg s.heap.objs.size g cdg :: X.stack) X.prog X.w HZ s1 Q (E τ)) s1 := by
    refine PySem.W.kla_callFunE hr.depth of1 rfl L.co L.gen rfl ⟨c', oc, vs, t, rfl, hoc, hdc, hvc⟩ ?_
    rw [hbind]
    refine wpAny_pure (wpAny_newFunctionEnv (fun y hy => (L.own y hy).2) (fun y hy => absurd hy (by simp)) (fun h1 hns hsb => ⟨I1.nolimit.fresh _ hsb, ?_⟩) L.kind)
    show codeAny _ _ (.expr body (lamEnv X scope s1.heap.objs.size f c')) _ _
    have kp : ∀ b o, s1.heap.get? b = some o → h1.get? b = some o := fun b o e => hsb.extBut b o (Nat.ne_of_lt (Heap.lt_size e)) (Heap.get?_push_of_some _ e)
    have J := lam_start2 (E := E τ) (f := f) (c' := c') I L I1.env0 hr.hd un hns kp (tk := s1.toks + ([] : List (Str × Value)).length)
    refine PySem.W.kla_codeExpr (wpAny_mono ((hbody _ _ s1 HZ (E τ) (hr.deeper _)).run [] _ _ HZ Q J ht) (fun v s' hq => ?_) fun e s' hq => hq)
    obtain ⟨w', H', J', rv, q⟩ := hq
    exact ⟨w', H', J'.os, J'.bare, J'.base, J'.hok, rv, q⟩
  refine wpAny_call (codeAny_mono rc fun r s' hq => ?_)
  cases r with
  | error e => exact tk e s' (XE.of_call I1 (fun cls d H' z => hW τ cls d H' z) hq)
  | ok fl =>
    cases fl with
    | ret u => exact I1.after hq
    | next => exact False.elim hq
    | brk => exact False.elim hq
    | cont => exact False.elim hq
/-- the def g calls what it got by the name a; TT: what it makes of the lambda's reading tl -/
def GivesS (X : Cx) (Ng : List Str) (x : Str) (sg : Scope) (g : Addr) (cdg : Value) (bg : List Stmt) (a : Str) (q : Str) (TT : (XK → Hp → VK → Prop) → Hp → VK → Prop) : Prop :=
  ∀ (f c' : Addr) (s : Shared) (H : Hp) (Q : VK) (tl : XK → Hp → VK → Prop),
    (∀ (W : WX) (pn : List (Addr × Obj)) (xe : Value → Shared → Prop) (E : St → XK) (p1 p2 : Pos), Takes ((gCx X Ng x sg g cdg s H).tr pn xe) W → (∀ σ' cls d H', E σ' cls d H' → W cls d σ' H') →
      PE ((gCx X Ng x sg g cdg s H).tr pn xe) (.Call (.Name a p1) [] [] p2) (fun τ HZ Q => τ[0]? = some (some (.ref f)) ∧ HZ c' = some (CodeO c' q) ∧ tl (E τ) HZ Q)) →
    H c' = some (CodeO c' q) → TT tl H Q →
    ∃ t, PSs (gCx X Ng x sg g cdg s H).nox bg t ∧ t { nx := fun _ H' => Q .non H', rt := Q } (L2.start Ng [.ref f]) H
/-- x(lambda: body) -/
theorem pe_lamS {T : List (Addr × Str)} {TT : (XK → Hp → VK → Prop) → Hp → VK → Prop} {x a : Str} {g c P : Addr} {k : Nat} {pg : Arguments} {bg : List Stmt} {sg : Scope} {dV kV doc pm cdv ct oc : Value} {an od : Option Addr} {osl : Array (Option Value)} {Ng : List Str}
    {params : Arguments} {body : Expr} {scope : Scope} {t : XK → TE} {p lpos pos : Pos} (hg : Gl X x) (hm : X.mg x = some (.ref g)) (hk : PySem.W.keepIn X.K (.ref g) = true)
    (lk : X.K.lookup g = some ⟨oc, od, .func (PySem.W.fnOf x x pg bg sg dV kV doc pm an cdv ct), osl⟩) (hcg : PySem.W.codeIn X.K cdv x = true) (hb : L2.Binds X.K (PySem.W.fnOf x x pg bg sg dV kV doc pm an cdv ct) [a] []) (Sg : FnScope Ng [a] sg) (hNg : Ng[0]? = some a) (hva : Vis sg a)
    (hG : GivesS X Ng x sg g cdv bg a (X.env.qual ++ "<lambda>") TT)
    (TB : TabB X.base X.mg c P) (hcode : X.env.code = .ref c) (hmT : (P, X.env.qual ++ "<lambda>") ∈ T) (hu : ∀ p ∈ T, p.1 = P → p.2 = X.env.qual ++ "<lambda>") (hr : Room (k + 2) X.A) (L : LamS X.env.scope scope) (hdef : defaultsOf params X.env = ([], []))
    (hbind : ∀ (q : Str) (cl : List (Str × Addr)) (pm cv ctv : Value), bindArgs (PySem.W.kla_fn "<lambda>" q params body scope cl pm cv ctv) ⟨[], []⟩ = pure [])
    (hbody : ∀ (A : Around) (outer : List Env) (s : Shared) (H : Hp) (E : XK) (f c' : Addr), Room k (A.deeper (lamEnv X scope s.heap.objs.size f c')) → PE (lamCx X A outer s H E scope f c') body (t E))
    (hdb : (x == ("__debug__" : Str)) = false := by decide) (hd : (a == ("__debug__" : Str)) = false := by decide) (hcd : (a == ("__classdict__" : Str)) = false := by decide) :
    PE X (.Call (.Name x p) [.Lambda params body scope lpos] [] pos) (tLam T TT t) := by
  refine ⟨fun pins s σ H Q I h => ?_⟩
  obtain ⟨hT, h⟩ := h
  refine wpAny_Call_Name_kw (ld_glob I hg hm ?_ hdb)
  refine PySem.W.callWith_K (h₀ := X.base) I.ok.mod.kin hk ?_ (by rfl) (by rfl)
  show wpAny _ _ (spliced ((false, eval (.Lambda params body scope lpos) X.env) :: backTo pos (starEach [] X.env))) _ _ s
  refine Calls.spliced_cons (lam_make2 I TB hcode hmT hu hT hdef (L.has I.ok) fun f c' pm' ctv H1 s' I1 eN T1 hf hfn hfr hco => ?_)
  refine Calls.spliced_nil ⟨I1.kIn, ?_⟩
  have rc : codeAny (model X.prog X.w) X.A (.call (.ref g) ⟨[.ref f], []⟩) (CR C8.CX0 X.stack X.prog X.w H1 s' Q C8.E0) s' := by
    refine run_ofS (N := Ng) (ps := [a]) (us := [.ref f]) (vs := [.ref f]) lk hcg Sg hr I1.env0 (hb s' [.ref f] I1.kIn rfl) (.cons rfl .nil) rfl fun hr' => ?_
    obtain ⟨t', ht', hq'⟩ := hG f c' s' H1 Q (fun E H' Q' => t E σ H' Q') (fun W pn xe E p1 p2 tk hW => pe_actS (i := 0) I1 L hf hfn hfr (hbind _ _ _ _ _) tk hW hr' (fun A outer s H E hr2 => hbody A outer s H E f c' hr2) hNg hva hd hcd) hco (h H1 eN T1)
    exact ⟨t', ht'.nox, hq'⟩
  refine wpAny_call (codeAny_mono rc fun r s2 hq => ?_)
  cases r with
  | error e => exact (show False from hq).elim
  | ok fl =>
    cases fl with
    | ret u => exact I1.after hq
    | next => exact False.elim hq
    | brk => exact False.elim hq
    | cont => exact False.elim hq
end
end L2.TP

/-! Layer O: what stays when a code table grows. -/
namespace L2.TP
open PySem PySem.Spec PyProof.Rows LamX
/-- the table of the code object at c is not written down -/
def noTab (K : PySem.W.Frag) (c : Addr) : Bool := match K.lookup c with
  | some ⟨_, _, .fields vs, _⟩ => match (vs[11]? : Option Value) with
    | some (.ref P) => (K.lookup P).isNone
    | _ => false
  | _ => false
theorem noTab_of {K : PySem.W.Frag} {h : Heap} {c P : Addr} (X : K.In h) (e : noTab K c = true) (t : h.TableAt c P #[]) : K.lookup P = none := by
  obtain ⟨⟨o, vs, e1, _, e3, e4⟩, _⟩ := t
  unfold noTab at e
  split at e
  · rename_i vs' _ hk
    have q := X _ _ hk
    rw [e1] at q
    cases q
    cases e3
    rw [e4] at e
    simpa using e
  · cases e
section
variable {H H' : Hp}
mutual
theorem Dq.extN (e : ExtN H H') : ∀ {v : V} {d : PyData}, Dq H v d → Dq H' v d
  | _, _, .non => .non
  | _, _, .bl b => .bl b
  | _, _, .int i => .int i
  | _, _, .str x => .str x
  | _, _, .lst h t => .lst (e _ _ h fun _ z => by cases z) (DqAll.extN e t)
  | _, _, .tup h t => .tup (e _ _ h fun _ z => by cases z) (DqAll.extN e t)
  | _, _, .dct h t => .dct (e _ _ h fun _ z => by cases z) (DqKv.extN e t)
theorem DqAll.extN (e : ExtN H H') : ∀ {v : List V} {d : List PyData}, DqAll H v d → DqAll H' v d
  | _, _, .nil => .nil
  | _, _, .cons h t => .cons (Dq.extN e h) (DqAll.extN e t)
theorem DqKv.extN (e : ExtN H H') : ∀ {v : List (Key × V)} {d : List (PyData × PyData)}, DqKv H v d → DqKv H' v d
  | _, _, .nil => .nil
  | _, _, .cons h t => .cons (Dq.extN e h) (DqKv.extN e t)
end
theorem SmH.extN (e : ExtN H H') (h : SmH H) : SmH H' := by
  obtain ⟨o, q⟩ := h
  exact ⟨o, e _ _ q fun _ z => by cases z⟩
theorem Pot.extN {p : Addr} {k : Nat} (e : ExtN H H') (h : Pot H p k) : Pot H' p k := by
  obtain ⟨a, b, c, q, r⟩ := h.at_
  exact ⟨a, b, c, e _ _ q (fun _ z => by cases z), r⟩
end
/-- all but the pot at p and the code tables -/
def KeepB (p : Addr) (H H' : Hp) : Prop := ∀ b o, b ≠ p → H b = some o → (∀ ps, o ≠ .tbl ps) → H' b = some o
theorem KeepB.refl {p : Addr} {H : Hp} : KeepB p H H := fun _ _ _ e _ => e
theorem KeepB.trans {p : Addr} {H H1 H2 : Hp} (a : KeepB p H H1) (b : KeepB p H1 H2) : KeepB p H H2 := fun c o n e t => b c o n (a c o n e t) t
theorem KeepB.ofN {p : Addr} {H H1 : Hp} (e : ExtN H H1) : KeepB p H H1 := fun c o _ q t => e c o q t
theorem KeepB.of {p : Addr} {H H1 : Hp} (e : Ext H H1) : KeepB p H H1 := fun c o _ q _ => e c o q
theorem KeepB.ofW {p : Addr} {k : Nat} {H G H1 : Hp} (e : Ext (butP H p) G) (w : WP G p k H1) : KeepB p H H1 := fun c o n q _ => w.ext _ _ (e _ _ ((if_neg n).trans q))
/-- the same for the tables -/
theorem Tabs.ofW {p : Addr} {k : Nat} {H G H1 : Hp} {T : List (Addr × Str)} (t : Tabs T H) (hp : ∃ x y z, H p = some (.lst [x, y, z])) (e : Ext (butP H p) G) (w : WP G p k H1) : Tabs T H1 := fun q hq => by
  obtain ⟨ps, h1, h2, h3⟩ := t q hq
  obtain ⟨x, y, z, ep⟩ := hp
  have ne : ∀ {b : Addr} {o : HO}, H b = some o → (∀ xs, o ≠ .lst xs) → H1 b = some o := fun {b o} eb no => by
    have nb : b ≠ p := fun c => by
      rw [c, ep] at eb
      injection eb with eb
      exact no _ eb.symm
    exact w.ext _ _ (e _ _ ((if_neg nb).trans eb))
  refine ⟨ps, ne h1 (fun _ z => by cases z), h2, fun pos cv hc => ?_⟩
  obtain ⟨c, ec, hcc⟩ := h3 pos cv hc
  exact ⟨c, ec, ne hcc (fun _ z => by cases z)⟩
end L2.TP

/-! Layer P: an own error made as a value, not raised. -/
namespace L2.TP
open PySem PySem.Spec PyProof.Rows
section
variable {X : Cx} {C : Addr} {x : Str} {fs : List Str}
/-- x(e, ..): a new error, its dict -/
def tErrV (C : Addr) (fs : List Str) (ta : TA) : TE := fun σ H Q => ta σ H fun vs H1 => vs.length = fs.length ∧ ∀ a d, H1 a = none → H1 d = none → a ≠ d → Q (.ref a) (upd (upd H1 d (.xd (fs.zip vs))) a (ExV (.ref C) (some d) a))
theorem pe_err {e : Expr} {es : List Expr} {ta : TA} {p pos : Pos} {k : Nat} (T : Err X.prog X.K X.mg x fs C) (hfs : fs.length ≤ 1000) (hex : X.ex = []) (hr : Room k X.A) (ha : PA X (e :: es) ta) (hg : Gl X x := by rfl)
    (hdb : (x == ("__debug__" : Str)) = false := by decide)
    (he : starEach (e :: es) X.env = (false, eval e X.env) :: starEach es X.env := by rfl) (hpl : (backTo pos (starEach es X.env)).any (·.1) = false := by rfl) :
    PE X (.Call (.Name x p) (e :: es) [] pos) (tErrV C fs ta) := by
  refine ⟨fun pins s σ H Q I h => ?_⟩
  obtain ⟨fI, fd, TE, hbind⟩ := T.ex
  refine wpAny_Call_Name_kw (ld_glob I hg T.gC ?_ hdb)
  refine PySem.W.callWith_K (h₀ := X.base) I.ok.mod.kin T.kC (thn (ha.run pos pins s σ H _ I h) fun us s1 hh => ?_) he hpl
  obtain ⟨vs, H1, I1, r1, hl, q1⟩ := hh
  refine ⟨I1.kIn, ?_⟩
  show wpAny _ _ (call (.ref C) us) _ _ _
  have hlim := I1.nolimit
  obtain ⟨mb, hmb, hbb⟩ := I1.mod.blt
  have hul : us.length = fs.length := r1.length.symm.trans hl
  have hgl := I1.mod.glob.keeps I1.bk
  have hbl := hmb.keeps I1.bk
  have kin := I1.kIn
  obtain ⟨hp, g, dr, tk, os⟩ := s1
  refine wpAny_call (PySem.TPX.err_made (us := us) (vs := us) TE hul (by rw [hul]; exact Nat.le_trans hfs (by decide)) kin hlim hgl hbl hbb (by have := hr.dp; omega) (fun s' x' kk => ?_) fun h' tk' a d M => ?_)
  · have z := hbind s' (.ref x' :: us) kk (by simp [hul])
    rw [List.append_nil] at z
    exact z
  show EP X pins σ Q (.ref a) ⟨h', g, dr, tk', os⟩
  obtain ⟨oe, fv, hoe, hc, hd, hdat, h1, _, _⟩ := M.obj
  obtain ⟨mA, hns, hmA⟩ := M.ns
  have na : H1 a = none := I1.hok.fresh M.new
  have nd : H1 d = none := I1.hok.fresh M.dbig
  have J : Inv X pins σ (upd H1 d (.xd (fs.zip vs))) ⟨h', g, dr, tk', os⟩ := I1.laid (t' := tk') M.keep M.dbig ⟨mA, hns, fun f => by rw [hmA f]; exact relO_zip r1 f⟩
  have out : ∀ o, hp.get? a ≠ some o := fun o z => absurd (Heap.lt_size z) (Nat.not_lt.mpr M.new)
  have n0 : X.s_0.heap.get? a = none := by
    cases q : X.s_0.heap.get? a with
    | none => rfl
    | some o =>
      obtain ⟨o', z⟩ := I1.base.there a o q (by rw [hex]; simp)
      exact (out _ z).elim
  have na2 : upd H1 d (.xd (fs.zip vs)) a = none := by
    rw [upd_ne (Ne.symm M.dne)]
    exact na
  refine ⟨.ref a, _, Inv.track J n0 na2 (exV_ok hoe ⟨hc, hd⟩ hdat) (fun z => ?_) (fun y c e z => ?_) (fun p hp' z => ?_), rfl, q1 a d na nd (Ne.symm M.dne)⟩
  · obtain ⟨m, ⟨o, es', ep, eo, _⟩, _⟩ := I1.loc
    rw [← z] at eo
    exact out _ eo
  · obtain ⟨v, o, ho, _⟩ := I1.cell y c e
    rw [z] at ho
    exact out _ ho
  · obtain ⟨p1, _⟩ := I1.pin p hp'
    rw [z] at p1
    exact out _ p1
end
end L2.TP

/-! Layer Q: an own error class called with keywords. -/
namespace PySem.TPX
open PySem PySem.Spec PySem.Calls PyProof.Rows PySem.HandSPX
section
variable {M : Model} {A : Around} {E : Value → Shared → Prop} {h : Heap} {g : Array GenState} {d : Drawn} {t : Nat} {os : OsState}
variable {nm q : Str} {C N : Addr} {bs bm bmB : List Value} {hdct : Bool} {sn : List Str} {sub : List Value} {ab : Bool} {col : Option Bool} {dd : Option Addr} {k0 k1 k2 k3 k5 : Option Value} {B newId initId : String}
theorem check_new_kw (F : ExcBaseFacts B newId initId bmB) (hT : ∀ X : String, bm.contains (.type X) = bmB.contains (.type X)) {rest : List Value} {kw : List (Str × Value)} {Q : Unit → Shared → Prop}
    (hC : h.get? C = some (excClassObj nm q C N bs bm hdct sn sub ab col dd k0 k1 k2 k3 k5 newId)) (hq : Q () ⟨h, g, d, t, os⟩) : wpAny M A (checkBuiltinCall newId ⟨.ref C :: rest, kw⟩) Q E ⟨h, g, d, t, os⟩ := by
  have cB : (Value.ref C :: bm).contains (.type B) = true := by rw [List.contains_cons, hT, F.hasB, Bool.or_true]
  have st := F.noStar
  simp only [checkBuiltinCall, F.newKind, F.newSplit, F.newRow]
  repeat (first | refine wpAny_loadPart_at hC ?_ | (refine wpAny_isSubtype_exc hC ?_; rw [cB]) | refine wpAny_staticBase_exc hC ?_ | refine wpAny_madeBy_exc hC ?_ | simp only [bne_self_eq_false, Bool.false_eq_true, if_false] | wp_step)
  exact hq
end
section
variable {prog : Program} {w : World} {A : Around} {E : Value → Shared → Prop} {R : Result → Shared → Prop} {h : Heap} {g : Array GenState} {d : Drawn} {t : Nat} {os : OsState}
variable {nm q : Str} {C N : Addr} {bs bm bmB : List Value} {hdct : Bool} {sn : List Str} {sub : List Value} {ab : Bool} {col : Option Bool} {dd : Option Addr} {k0 k1 k2 k3 k5 : Option Value} {B newId initId : String} {kw : List (Str × Value)}
open Builtin Builtin.ObjectAttr
theorem new_kw (F : ExcBaseFacts B newId initId bmB) (hT : ∀ X : String, bm.contains (.type X) = bmB.contains (.type X)) {rest : List Value}
    (hC : h.get? C = some (excClassObj nm q C N bs bm hdct sn sub ab col dd k0 k1 k2 k3 k5 newId))
    (hq : R (.ok (.ret (.ref (h.objs.size + 1)))) ⟨(h.push (W.kdv_tup rest)).push (excO C h.objs.size), g, d, t, os⟩) (hrest : rest.length ≤ sizeLine) :
    codeAny (model prog w) A (.builtin newId ⟨.ref C :: rest, kw⟩) R ⟨h, g, d, t, os⟩ := by
  have hE := F.ends
  have cB : (Value.ref C :: bm).contains (.type B) = true := by rw [List.contains_cons, hT, F.hasB, Bool.or_true]
  have cA : (Value.ref C :: bm).contains (.type "AttributeError") = false := by rw [List.contains_cons, hT, F.noAttr]; rfl
  have cN : (Value.ref C :: bm).contains (.type "NameError") = false := by rw [List.contains_cons, hT, F.noName]; rfl
  refine codeAny_builtinAt F.entry ?_
  unfold Builtin.«BaseException.__new__»
  refine wpAt_bind ?_
  show wpAt _ _ _ (stack >>= _) _ _ _
  refine wpAt_bind (wpAt_stack fun p below => wpAt_of_wpAny ?_)
  wp_walk
  refine wpAt_of_wpAny ?_
  rw [F.owner]
  repeat (first | with_reducible refine wpAny_madeHere_exc F.canon hC ?_ | with_reducible refine wpAny_loadPart_at hC ?_ | (with_reducible refine wpAny_isSubtype_exc hC ?_; first | rw [cB] | rw [cA] | rw [cN]) | wp_step)
  show R _ _
  rw [Heap.size_push]
  exact hq
theorem type_call_kw (F : ExcBaseFacts B newId initId bmB) (hT : ∀ X : String, bm.contains (.type X) = bmB.contains (.type X)) {rest : List Value} {fI : Addr} {Q : Fin → Shared → Prop}
    (hC : h.get? C = some (excClassObj nm q C N bs bm hdct sn sub ab col dd k0 k1 k2 k3 k5 newId))
    (hi : W.Looks (model prog w) h (typeLookup (.ref C) "__init__") (some (.ref fI))) (hb : ∀ self, W.Looks (model prog w) h (bindSpecial (.ref fI) self) (.ref fI, [self])) (hrest : rest.length ≤ sizeLine)
    (hq : codeAny (model prog w) A (.call (.ref fI) ⟨.ref (h.objs.size + 1) :: rest, kw⟩)
      (fun r s' => match r with | .ok (.ret v) => v = .none ∧ Q (.done (.ret (.ref (h.objs.size + 1)))) s' | .ok _ => False | .error e => E e s')
      ⟨(h.push (W.kdv_tup rest)).push (excO C h.objs.size), g, d, t, os⟩) :
    wpAny (model prog w) A (Builtin.«type.__call__» ⟨.ref C :: rest, kw⟩) Q E ⟨h, g, d, t, os⟩ := by
  repeat (first | with_reducible refine wpAny_loadPart_at hC ?_ | with_reducible refine wpAny_madeBy_exc hC ?_ | wp_step)
  refine codeAny_call_builtin_code (Code.quiet_builtin _ F.quiet) (check_new_kw F hT hC ?_)
  refine new_kw F hT hC ?_ hrest
  show wpAny _ _ _ _ _ _
  have kk : ∀ b o, h.get? b = some o → ((h.push (W.kdv_tup rest)).push (excO C h.objs.size)).get? b = some o := fun b o e => Heap.get?_push_of_some _ (Heap.get?_push_of_some _ e)
  have hC1 := kk _ _ hC
  have hgt : ((h.push (W.kdv_tup rest)).push (excO C h.objs.size)).get? (h.objs.size + 1) = some (excO C h.objs.size) := by heap_get
  have cC : (Value.ref C :: bm).contains (.ref C) = true := by simp
  have i1 := hi.keeps kk
  have b1 := (hb (.ref (h.objs.size + 1))).keeps kk
  unfold isInstance
  repeat (first | with_reducible refine wpAny_loadPart_at hgt ?_ | (with_reducible refine wpAny_isSubtype_exc hC1 ?_; rw [cC]) | wp_step)
  show wpAny _ _ (typeLookup (.ref C) _) _ _ _
  refine i1.at ?_
  refine wpAny_holding (wpAny_bind (b1.at ?_))
  refine wpAny_bind (wpAny_call (codeAny_mono hq fun r s' z => ?_))
  rcases r with e | (v | _ | _ | _) <;> first | exact z | exact z.elim | skip
  obtain ⟨rfl, z⟩ := z
  first
    | exact wpAny_pure (wpAny_pure z)
    | (wp_walk; exact z)
theorem call_kw (F : ExcBaseFacts B newId initId bmB) (hT : ∀ X : String, bm.contains (.type X) = bmB.contains (.type X)) {rest : List Value} {fI : Addr}
    (hC : h.get? C = some (excClassObj nm q C N bs bm hdct sn sub ab col dd k0 k1 k2 k3 k5 newId))
    (hi : W.Looks (model prog w) h (typeLookup (.ref C) "__init__") (some (.ref fI))) (hb : ∀ self, W.Looks (model prog w) h (bindSpecial (.ref fI) self) (.ref fI, [self])) (hrest : rest.length ≤ sizeLine)
    (hq : codeAny (model prog w) (A.under (.builtin "type.__call__" ⟨.ref C :: rest, kw⟩)) (.call (.ref fI) ⟨.ref (h.objs.size + 1) :: rest, kw⟩) (W.InitBack (h.objs.size + 1) R)
      ⟨(h.push (W.kdv_tup rest)).push (excO C h.objs.size), g, d, t, os⟩) :
    codeAny (model prog w) A (.call (.ref C) ⟨rest, kw⟩) R ⟨h, g, d, t, os⟩ := by
  have f1 := tc_lookup
  have f2 := tc_bind (.ref C)
  have hTy : (⟨h, g, d, t, os⟩ : Shared).TypeIs (.ref C) "type" := ⟨_, hC, rfl⟩
  refine codeAny_of_tree ?_
  show wpAny _ _ (callAny (.ref C) _) _ _ _
  repeat (any_goals (first | assumption | with_reducible refine wpAny_loadPart_at hC ?_ | wp_step))
  refine ⟨rfl, ?_⟩
  refine codeAny_call_builtin_at (Code.quiet_builtin _ (by decide +kernel)) entry_typeCall (wpAny_check_type_call_sub hC (type_call_kw F hT hC hi hb hrest ?_))
  refine codeAny_mono hq fun r s' z => ?_
  rcases r with e | (v | _ | _ | _) <;> exact z
end
end PySem.TPX

/-! Layer R: an own error made as a value by keywords alone. -/
namespace PySem.TPX
open PySem PySem.Spec PySem.Calls PyProof.Rows PySem.W PySem.HandSPX
section
variable {prog : Program} {w : World} {A : Around} {R : Result → Shared → Prop} {s : Shared} {K : Frag} {mg mb : Str → Option Value} {C fI : Addr} {fs : List Str} {fd : FuncData}
theorem err_madeK (T : ErrK prog K fs C fI fd) {us vs : List Value} {kw : List (Str × Value)} (hl : vs.length = fs.length) (hul : us.length ≤ sizeLine) (X : K.In s.heap) (hlim : s.heap.NoLimit)
    (hgl : s.heap.Ns mainGlobals mg) (hbl : s.heap.Ns builtinsNs mb) (hbb : ∀ x : Str, x ≠ "__name__" → mb x = bootBuiltins x) (hroom : A.depth + 1 < recursionLimit)
    (hbind : ∀ (s : Shared) (x : Addr), K.In s.heap → BindsTo s fd ⟨.ref x :: us, kw⟩ (("self", .ref x) :: fs.zip vs))
    (hq : ∀ h' tk e d, ErrMade fs vs s.heap h' e C d → R (.ok (.ret (.ref e))) { s with heap := h', toks := tk }) :
    codeAny (model prog w) A (.call (.ref C) ⟨us, kw⟩) R s := by
  obtain ⟨nm, q, N, bs, bm, sn, sub, ab, col, dd, k0, k1, k2, k3, k5, hC, hbm⟩ := T.cls
  obtain ⟨hp, g, dr, tk, os⟩ := s
  have k : ∀ b o, hp.get? b = some o → ((hp.push (kdv_tup us)).push (excO C hp.objs.size)).get? b = some o := fun b o e => Heap.get?_push_of_some _ (Heap.get?_push_of_some _ e)
  have hget : ((hp.push (kdv_tup us)).push (excO C hp.objs.size)).get? (hp.objs.size + 1) = some (excO C hp.objs.size) := by heap_get
  have hnx : K.lookup (hp.objs.size + 1) = none := by
    cases e : K.lookup (hp.objs.size + 1) with
    | none => rfl
    | some o => exact absurd (Nat.lt_of_succ_lt (Heap.lt_size (X _ _ e))) (Nat.lt_irrefl _)
  refine call_kw F.excBase_ValueError (fun Z => refsVE_contains Z bm hbm) (X _ _ hC) (looks_findIn X T.iC) (fun self => bind_fn X self T.tI) hul ?_
  refine err_init (s := ⟨(hp.push (kdv_tup us)).push (excO C hp.objs.size), g, dr, tk, os⟩) T hl (X.keeps k) (hlim.keeps k) (hgl.keeps k) (hbl.keeps k) hbb hget hnx ?_ (hbind _ _ (X.keeps k)) fun h' tk' dx I => ?_
  · show A.depth + 1 < recursionLimit
    exact hroom
  · obtain ⟨k', ⟨t1, hx⟩, dn, dne, hns⟩ := I
    have old : ∀ b o, hp.get? b = some o → h'.get? b = some o := fun b o e => k' b o (Nat.ne_of_lt (Nat.lt_succ_of_lt (Heap.lt_size e))) (k b o e)
    have z : hp.objs.size + 1 + 1 ≤ dx := by
      have q := dn
      simp only [Heap.size_push] at q
      exact q
    exact ⟨rfl, hq h' tk' (hp.objs.size + 1) dx ⟨old, Nat.le_succ _, ⟨_, _, hx, rfl, rfl, rfl, rfl, rfl, by show 4 < 6; decide⟩, Nat.le_trans (Nat.le_trans (Nat.le_succ _) (Nat.le_succ _)) z, dne, hns⟩⟩
end
end PySem.TPX
namespace L2.TP
open PySem PySem.Spec PyProof.Rows
/-- what the text says of an error x whose __init__ is given ks by name, the others from their defaults dvs -/
structure ErrW (prog : Program) (K : PySem.W.Frag) (mg : Str → Option Value) (x : Str) (fs ks : List Str) (dvs : List V) (C : Addr) : Prop where
  ex : ∃ (fI : Addr) (fd : FuncData) (its : List Value), PySem.TPX.ErrK prog K fs C fI fd ∧ Vals dvs its ∧ ∀ (s : Shared) (x : Addr) (ws : List Value), K.In s.heap → ws.length = ks.length → BindsTo s fd ⟨[.ref x], ks.zip ws⟩ (("self", .ref x) :: fs.zip (ws ++ its))
  gC : mg x = some (.ref C)
  kC : PySem.W.keepIn K (.ref C) = true
section
variable {X : Cx} {C : Addr} {x : Str} {fs ks : List Str} {dvs : List V}
def tErrK (C : Addr) (fs : List Str) (n : Nat) (dvs : List V) (tk : TA) : TE := fun σ H Q => tk σ H fun zs H1 => zs.length = n ∧ (zs ++ dvs).length = fs.length ∧ ∀ a d, H1 a = none → H1 d = none → a ≠ d → Q (.ref a) (upd (upd H1 d (.xd (fs.zip (zs ++ dvs)))) a (ExV (.ref C) (some d) a))
/-- x(k = v, ..) -/
theorem pe_errK {kws : List Keyword} {tk : TA} {p pos : Pos} {k : Nat} (T : ErrW X.prog X.K X.mg x fs ks dvs C) (hex : X.ex = []) (hr : Room k X.A) (hkw : PK X kws tk) (hg : Gl X x := by rfl)
    (hall : (backToKw pos (keywordEach kws X.env)).all (·.1.isSome) = true := by rfl) (hks : (backToKw pos (keywordEach kws X.env)).filterMap (·.1) = ks := by rfl) (hdb : (x == ("__debug__" : Str)) = false := by decide)
    (hpl : ((backTo pos (starEach [] X.env)).any (·.1) || (backToKw pos (keywordEach kws X.env)).any (·.1.isNone)) = false := by rfl) :
    PE X (.Call (.Name x p) [] kws pos) (tErrK C fs ks.length dvs tk) := by
  refine ⟨fun pins s σ H Q I h => ?_⟩
  obtain ⟨fI, fd, its, TE, rd, hbind⟩ := T.ex
  refine wpAny_Call_Name_kw (ld_glob I hg T.gC ?_ hdb)
  refine PySem.W.callWith_KW0 (h₀ := X.base) I.ok.mod.kin T.kC hall ?_ hpl
  refine thn (hkw.run pos pins s σ H _ I h) fun ws s1 hh => ?_
  obtain ⟨zs, H1, I1, r1, hl, hl2, q1⟩ := hh
  refine ⟨I1.kIn, ?_⟩
  rw [hks]
  show wpAny _ _ (call (.ref C) [] (ks.zip ws)) _ _ _
  have hlim := I1.nolimit
  obtain ⟨mb, hmb, hbb⟩ := I1.mod.blt
  have hwl : ws.length = ks.length := r1.length.symm.trans hl
  have hvl : (ws ++ its).length = fs.length := (r1.append rd).length.symm.trans hl2
  have hgl := I1.mod.glob.keeps I1.bk
  have hbl := hmb.keeps I1.bk
  have kin := I1.kIn
  obtain ⟨hp, g, dr, tk, os⟩ := s1
  refine wpAny_call (PySem.TPX.err_madeK (us := []) (vs := ws ++ its) TE hvl (by decide) kin hlim hgl hbl hbb (by have := hr.dp; omega) (fun s' x' kk => hbind s' x' ws kk hwl) fun h' tk' a d M => ?_)
  show EP X pins σ Q (.ref a) ⟨h', g, dr, tk', os⟩
  obtain ⟨oe, fv, hoe, hc, hd, hdat, h1, _, _⟩ := M.obj
  obtain ⟨mA, hns, hmA⟩ := M.ns
  have na : H1 a = none := I1.hok.fresh M.new
  have nd : H1 d = none := I1.hok.fresh M.dbig
  have J : Inv X pins σ (upd H1 d (.xd (fs.zip (zs ++ dvs)))) ⟨h', g, dr, tk', os⟩ := I1.laid (t' := tk') M.keep M.dbig ⟨mA, hns, fun f => by rw [hmA f]; exact relO_zip (r1.append rd) f⟩
  have out : ∀ o, hp.get? a ≠ some o := fun o z => absurd (Heap.lt_size z) (Nat.not_lt.mpr M.new)
  have n0 : X.s_0.heap.get? a = none := by
    cases q : X.s_0.heap.get? a with
    | none => rfl
    | some o =>
      obtain ⟨o', z⟩ := I1.base.there a o q (by rw [hex]; simp)
      exact (out _ z).elim
  have na2 : upd H1 d (.xd (fs.zip (zs ++ dvs))) a = none := by
    rw [upd_ne (Ne.symm M.dne)]
    exact na
  refine ⟨.ref a, _, Inv.track J n0 na2 (exV_ok hoe ⟨hc, hd⟩ hdat) (fun z => ?_) (fun y c e z => ?_) (fun p hp' z => ?_), rfl, q1 a d na nd (Ne.symm M.dne)⟩
  · obtain ⟨m, ⟨o, es', ep, eo, _⟩, _⟩ := I1.loc
    rw [← z] at eo
    exact out _ eo
  · obtain ⟨v, o, ho, _⟩ := I1.cell y c e
    rw [z] at ho
    exact out _ ho
  · obtain ⟨p1, _⟩ := I1.pin p hp'
    rw [z] at p1
    exact out _ p1
end
end L2.TP

/-! Layer S: drawn values: new things beside the pot, small data that is known. -/
namespace L2.TP
open PySem PySem.Spec PyProof.Rows
theorem WP.newG {G H : Hp} {p x : Addr} {n : Nat} (o : HO) (w : WP G p n H) (h : H x = none) : ∃ G', Ext G G' ∧ G' x = some o ∧ WP G' p n (upd H x o) := ⟨_, ext_upd (ext_none w.ext h), upd_same, w.new h⟩
theorem WP.newD {G H : Hp} {p x : Addr} {n : Nat} (o o' : HO) (w : WP G p n H) (h : H x = none) : ∃ G', Ext G G' ∧ G' x = some o' ∧ WP G' p n (upd (upd H x o) x o') := by
  rw [upd_upd]
  exact WP.newG o' w h
/-- small data that stands in G -/
def Val (G : Hp) (i : Nat) (v : V) : Prop := ∃ d, Dq G v d ∧ Sd (2 + i) (60 + 10 * i) d
theorem Val.ext {G G' : Hp} {i : Nat} {v : V} (h : Val G i v) (e : Ext G G') : Val G' i v := by
  obtain ⟨d, h1, h2⟩ := h
  exact ⟨d, h1.ext e, h2⟩
theorem Val.mono {G : Hp} {i j : Nat} {v : V} (h : Val G i v) (e : i ≤ j) : Val G j v := by
  obtain ⟨d, h1, h2⟩ := h
  exact ⟨d, h1, h2.mono (by omega) (by omega)⟩
theorem sd0 {d : PyData} (h : (decide (d.depth ≤ 2) && decide (d.weight ≤ 60) && d.leavesShort 20 && d.showable) = true) : Sd 2 60 d := by
  obtain ⟨h, h4⟩ := Bool.and_eq_true_iff.mp h
  obtain ⟨h, h3⟩ := Bool.and_eq_true_iff.mp h
  obtain ⟨h1, h2⟩ := Bool.and_eq_true_iff.mp h
  exact ⟨of_decide_eq_true h1, of_decide_eq_true h2, h3, h4⟩
theorem val_of {G : Hp} {v : V} (d : PyData) (h : Dq G v d) (s : (decide (d.depth ≤ 2) && decide (d.weight ≤ 60) && d.leavesShort 20 && d.showable) = true) : Val G 0 v := ⟨d, h, sd0 s⟩
theorem str_eq {x : Str} : decide (V.str x = V.str x) = true := decide_eq_true rfl
theorem tabs_put {T : List (Addr × Str)} {H : Hp} {D : Addr} {xs : List V} {o : HO} (t : LamX.Tabs T H) (hD : H D = some (.lst xs)) : LamX.Tabs T (upd H D o) := fun pr hpr => by
  obtain ⟨ps, h1, h2, h3⟩ := t pr hpr
  have nl : ∀ {b : Addr} {u : HO}, H b = some u → (∀ xs, u ≠ .lst xs) → upd H D o b = some u := fun {b u} hb no => by
    have nb : b ≠ D := fun c => by
      rw [c, hD] at hb
      injection hb with hb
      exact no _ hb.symm
    rw [upd_ne nb]
    exact hb
  refine ⟨ps, nl h1 (fun _ z => by cases z), h2, fun pos cv hc => ?_⟩
  obtain ⟨c, ec, hcc⟩ := h3 pos cv hc
  exact ⟨c, ec, nl hcc (fun _ z => by cases z)⟩
theorem sm_put {H : Hp} {D : Addr} {xs : List V} {o : HO} (t : SmH H) (hD : H D = some (.lst xs)) : SmH (upd H D o) := by
  obtain ⟨oS, e⟩ := t
  have nb : sysModules ≠ D := fun c => by
    rw [c, hD] at e
    cases e
  exact ⟨oS, (upd_ne nb).trans e⟩
/-- the script is kept -/
theorem sq_keep {K : PySem.W.Frag} {H H' : Hp} {a : Addr} {xs : List V} (h : SqL K H a xs) (k : ∀ o, H a = some o → (∀ ps, o ≠ .tbl ps) → H' a = some o) : SqL K H' a xs := by
  rcases h with (h | ⟨o, h⟩) | h
  · exact .inl (.inl (k _ h fun _ z => by cases z))
  · exact .inl (.inr ⟨o, k _ h fun _ z => by cases z⟩)
  · exact .inr h
/-- small ints -/
theorem sd_int {i : Int} (h0 : 0 ≤ i) (h1 : i < 10) : Sd 0 4 (.int i) := by
  have h : i = 0 ∨ i = 1 ∨ i = 2 ∨ i = 3 ∨ i = 4 ∨ i = 5 ∨ i = 6 ∨ i = 7 ∨ i = 8 ∨ i = 9 := by omega
  rcases h with rfl | rfl | rfl | rfl | rfl | rfl | rfl | rfl | rfl | rfl
  all_goals exact ⟨by decide, by decide +kernel, by decide +kernel, by decide +kernel⟩
theorem SdA.mono {k k' w w' : Nat} {d : List PyData} (h : SdA k w d) (hk : k ≤ k') (hw : w ≤ w') : SdA k' w' d := ⟨Nat.le_trans h.dep hk, Nat.le_trans h.wt hw, h.short, h.shw⟩
/-- a list of small things -/
theorem sdA_of {k w : Nat} : ∀ {ds : List PyData}, (∀ d ∈ ds, Sd k w d) → SdA k ((w + 1) * ds.length) ds
  | [], _ => SdA.nil
  | d :: ds, h => by
    refine (SdA.cons (h d List.mem_cons_self) (sdA_of fun e he => h e (List.mem_cons_of_mem _ he))).mono (Nat.le_refl _) ?_
    rw [List.length_cons, Nat.mul_succ]
    omega
/-- ints as data -/
theorem dqAll_ints {H : Hp} : ∀ {ns : List Int}, DqAll H (ns.map V.int) (ns.map PyData.int)
  | [] => .nil
  | _ :: _ => .cons (.int _) dqAll_ints
theorem dqAll_app {H : Hp} : ∀ {xs ys : List V} {ds es : List PyData}, DqAll H xs ds → DqAll H ys es → DqAll H (xs ++ ys) (ds ++ es)
  | _, _, _, _, .nil, h => h
  | _, _, _, _, .cons a t, h => .cons a (dqAll_app t h)
theorem sdA_app {k w w' : Nat} : ∀ {ds es : List PyData}, SdA k w ds → SdA k w' es → SdA k (w + w') (ds ++ es)
  | [], es, _, h => h.mono (Nat.le_refl _) (Nat.le_add_left _ _)
  | d :: ds, es, ⟨a1, a2, a3, a4⟩, h => by
    have a1 : max d.depth (PyData.depthAll ds) ≤ k := a1
    have a2 : d.weight + 1 + PyData.weightAll ds ≤ w := a2
    have a3 : (d.leavesShort 20 && PyData.leavesShortAll 20 ds) = true := a3
    have a4 : (d.showable && PyData.showableAll ds) = true := a4
    obtain ⟨a3, b3⟩ := Bool.and_eq_true_iff.mp a3
    obtain ⟨a4, b4⟩ := Bool.and_eq_true_iff.mp a4
    have t := sdA_app (ds := ds) (w := w - d.weight - 1) ⟨by omega, by omega, b3, b4⟩ h
    exact (SdA.cons (d := d) (k := k) (w := d.weight) ⟨by omega, Nat.le_refl _, a3, a4⟩ t).mono (Nat.le_refl _) (by omega)
theorem WP.over {G H : Hp} {p D : Addr} {o o' : HO} {m : Nat} (w : WP (upd G D o) p m H) (h : G D = none) : WP (upd G D o') p m (upd H D o') := by
  have ne : p ≠ D := fun z => by
    have := w.no
    rw [z, upd_same] at this
    cases this
  obtain ⟨a, b, c, q, h2⟩ := w.pot.at_
  have n1 := w.no
  rw [upd_ne ne] at n1
  exact ⟨ext_both ((ext_upd h).trans w.ext), by rw [upd_ne ne]; exact n1, ⟨a, b, c, by rw [upd_ne ne]; exact q, h2⟩⟩
end L2.TP

/-! Layer T: an own error made as a value by position, its last fields from their defaults. -/
namespace L2.TP
open PySem PySem.Spec PyProof.Rows
/-- what the text says of an error x whose __init__ is given np things by position, the others from their defaults dvs -/
structure ErrP (prog : Program) (K : PySem.W.Frag) (mg : Str → Option Value) (x : Str) (fs : List Str) (np : Nat) (dvs : List V) (C : Addr) : Prop where
  ex : ∃ (fI : Addr) (fd : FuncData) (its : List Value), PySem.TPX.ErrK prog K fs C fI fd ∧ Vals dvs its ∧ ∀ (s : Shared) (x : Addr) (us : List Value), K.In s.heap → us.length = np → BindsTo s fd ⟨.ref x :: us, []⟩ (("self", .ref x) :: fs.zip (us ++ its))
  gC : mg x = some (.ref C)
  kC : PySem.W.keepIn K (.ref C) = true
section
variable {X : Cx} {C : Addr} {x : Str} {fs : List Str} {np : Nat} {dvs : List V}
def tErrP (C : Addr) (fs : List Str) (np : Nat) (dvs : List V) (ta : TA) : TE := fun σ H Q => ta σ H fun vs H1 => vs.length = np ∧ (vs ++ dvs).length = fs.length ∧ ∀ a d, H1 a = none → H1 d = none → a ≠ d → Q (.ref a) (upd (upd H1 d (.xd (fs.zip (vs ++ dvs)))) a (ExV (.ref C) (some d) a))
theorem pe_errP {e : Expr} {es : List Expr} {ta : TA} {p pos : Pos} {k : Nat} (T : ErrP X.prog X.K X.mg x fs np dvs C) (hnp : np ≤ 1000) (hex : X.ex = []) (hr : Room k X.A) (ha : PA X (e :: es) ta) (hg : Gl X x := by rfl)
    (hdb : (x == ("__debug__" : Str)) = false := by decide)
    (he : starEach (e :: es) X.env = (false, eval e X.env) :: starEach es X.env := by rfl) (hpl : (backTo pos (starEach es X.env)).any (·.1) = false := by rfl) :
    PE X (.Call (.Name x p) (e :: es) [] pos) (tErrP C fs np dvs ta) := by
  refine ⟨fun pins s σ H Q I h => ?_⟩
  obtain ⟨fI, fd, its, TE, rd, hbind⟩ := T.ex
  refine wpAny_Call_Name_kw (ld_glob I hg T.gC ?_ hdb)
  refine PySem.W.callWith_K (h₀ := X.base) I.ok.mod.kin T.kC (thn (ha.run pos pins s σ H _ I h) fun us s1 hh => ?_) he hpl
  obtain ⟨vs, H1, I1, r1, hl, hl2, q1⟩ := hh
  refine ⟨I1.kIn, ?_⟩
  show wpAny _ _ (call (.ref C) us) _ _ _
  have hlim := I1.nolimit
  obtain ⟨mb, hmb, hbb⟩ := I1.mod.blt
  have hul : us.length = np := r1.length.symm.trans hl
  have hvl : (us ++ its).length = fs.length := (r1.append rd).length.symm.trans hl2
  have hgl := I1.mod.glob.keeps I1.bk
  have hbl := hmb.keeps I1.bk
  have kin := I1.kIn
  obtain ⟨hp, g, dr, tk, os⟩ := s1
  refine wpAny_call (PySem.TPX.err_made (us := us) (vs := us ++ its) TE hvl (by rw [hul]; exact Nat.le_trans hnp (by decide)) kin hlim hgl hbl hbb (by have := hr.dp; omega) (fun s' x' kk => hbind s' x' us kk hul) fun h' tk' a d M => ?_)
  show EP X pins σ Q (.ref a) ⟨h', g, dr, tk', os⟩
  obtain ⟨oe, fv, hoe, hc, hd, hdat, h1, _, _⟩ := M.obj
  obtain ⟨mA, hns, hmA⟩ := M.ns
  have na : H1 a = none := I1.hok.fresh M.new
  have nd : H1 d = none := I1.hok.fresh M.dbig
  have J : Inv X pins σ (upd H1 d (.xd (fs.zip (vs ++ dvs)))) ⟨h', g, dr, tk', os⟩ := I1.laid (t' := tk') M.keep M.dbig ⟨mA, hns, fun f => by rw [hmA f]; exact relO_zip (r1.append rd) f⟩
  have out : ∀ o, hp.get? a ≠ some o := fun o z => absurd (Heap.lt_size z) (Nat.not_lt.mpr M.new)
  have n0 : X.s_0.heap.get? a = none := by
    cases q : X.s_0.heap.get? a with
    | none => rfl
    | some o =>
      obtain ⟨o', z⟩ := I1.base.there a o q (by rw [hex]; simp)
      exact (out _ z).elim
  have na2 : upd H1 d (.xd (fs.zip (vs ++ dvs))) a = none := by
    rw [upd_ne (Ne.symm M.dne)]
    exact na
  refine ⟨.ref a, _, Inv.track J n0 na2 (exV_ok hoe ⟨hc, hd⟩ hdat) (fun z => ?_) (fun y c e z => ?_) (fun p hp' z => ?_), rfl, q1 a d na nd (Ne.symm M.dne)⟩
  · obtain ⟨m, ⟨o, es', ep, eo, _⟩, _⟩ := I1.loc
    rw [← z] at eo
    exact out _ eo
  · obtain ⟨v, o, ho, _⟩ := I1.cell y c e
    rw [z] at ho
    exact out _ ho
  · obtain ⟨p1, _⟩ := I1.pin p hp'
    rw [z] at p1
    exact out _ p1
end
end L2.TP

/-! Layer U: own errors that are made without anything; isinstance of errors with and without a dict. -/
namespace PySem.TPX
open PySem.W PySem.Calls PyProof.Rows PySem.HandSPX
/-- super().__init__() -/
def supS0 (q1 q2 q3 q5 q6 : Pos) : Stmt := .Expr (.Call (.Attribute (.Call (.Name "super" q1) [] [] q2) "__init__" q3) [] [] q5) q6
structure ErrK0 (prog : Program) (K : Frag) (C fI : Addr) (fd : FuncData) : Prop where
  cls : ∃ nm q N bs bm sn sub ab col dd k0 k1 k2 k3 k5, K.lookup C = some (excClassObj nm q C N bs bm true sn sub ab col dd k0 k1 k2 k3 k5 "ValueError.__new__") ∧ refsVE bm = true
  iC : findIn K (.ref C) "__init__" = some (some (.ref fI))
  tI : typeIn K (.ref fI) = some (.type "function")
  sup : ks_superIn K C C "__init__" = some (some (.builtin "ValueError.__init__"))
  sB : subIn K (.ref C) (.type "ValueError") = some true
  mC : mroIn K C (.ref C) = some true
  nS : nsIn K mainGlobals "super" = some none
  tp : nsIn K cStatics "thirdparty.any" = some none
  top : (prog.main.scope.names.lookup ("super" : Str)).isSome = false
  fn : ∃ (oc : Value) (od : Option Addr) (osl : Array (Option Value)) (qual : Str) (params : Arguments) (body : List Stmt) (scope : Scope) (dV kV doc pm : Value) (an : Option Addr) (cda : Addr) (ct : Value) (cc : Addr),
    fd = ksFn "__init__" qual params body scope dV kV doc pm an (.ref cda) ct cc ∧ K.lookup fI = some ⟨oc, od, .func fd, osl⟩ ∧ codeIn K (.ref cda) qual = true ∧
    (∃ ccl cdd vs ccs file tf, K.lookup cda = some ⟨ccl, cdd, .fields vs, ccs⟩ ∧ vs[2]? = some (.str file tf) ∧ ((prog.main.file : Str) == file) = true) ∧
    (∃ cl cld csl, K.lookup cc = some ⟨cl, cld, .cell (some (.ref C)), csl⟩) ∧
    (∃ ar : Arg, (params.posonlyargs ++ params.args).head? = some ar ∧ ar.arg = "self") ∧ IniS [] scope ∧
    ∃ q1 q2 q3 q5 q6, (q3.endLine == q5.line) = true ∧ body = [supS0 q1 q2 q3 q5 q6]
section
variable {prog : Program} {w : World} {A : Around} {E : Value → Shared → Prop} {R : Result → Shared → Prop} {s : Shared} {K : Frag} {mg mb : Str → Option Value} {C fI : Addr} {fd : FuncData}
theorem sup_run0 (T : ErrK0 prog K C fI fd) {x t0 : Addr} {q1 q2 q3 q5 q6 : Pos} {body : List Stmt} {qual : Str} {params : Arguments} {scope : Scope} {dV kV doc pm : Value} {an : Option Addr} {cda cc : Addr} {ct : Value}
    {oc : Value} {od : Option Addr} {osl : Array (Option Value)} {L : Addr} {m : Str → Option Value} {Q : Flow → Shared → Prop}
    (efd : fd = ksFn "__init__" qual params body scope dV kV doc pm an (.ref cda) ct cc) (lf : K.lookup fI = some ⟨oc, od, .func fd, osl⟩)
    (hcode : ∃ ccl cdd vs ccs file tf, K.lookup cda = some ⟨ccl, cdd, .fields vs, ccs⟩ ∧ vs[2]? = some (.str file tf) ∧ ((prog.main.file : Str) == file) = true)
    (hcell : ∃ cl cld csl, K.lookup cc = some ⟨cl, cld, .cell (some (.ref C)), csl⟩)
    (hpos : (q3.endLine == q5.line) = true) (hpar : ∃ ar : Arg, (params.posonlyargs ++ params.args).head? = some ar ∧ ar.arg = "self") (S : IniS [] scope)
    (X : K.In s.heap) (hgl : s.heap.Ns mainGlobals mg) (hbl : s.heap.Ns builtinsNs mb) (hbb : ∀ x : Str, x ≠ "__name__" → mb x = bootBuiltins x)
    (hns : s.heap.Ns L m) (ms : m "self" = some (.ref x)) (hx : s.heap.get? x = some (excO C t0))
    (hq : ∀ h' tk t1, (∀ b o, b ≠ x → s.heap.get? b = some o → h'.get? b = some o) → h'.get? x = some (excO C t1) → Q .next { s with heap := h', toks := tk }) :
    wpAt (model prog w) A (.func body (ksEnv qual scope L fI (.ref cda) cc)) (exec (supS0 q1 q2 q3 q5 q6) (ksEnv qual scope L fI (.ref cda) cc)) Q E s := by
  obtain ⟨nm, q, N, bs, bm, sn, sub, ab, col, dd, k0, k1, k2, k3, k5, hC, hbm⟩ := T.cls
  obtain ⟨ccl, cdd, vs, ccs, file, tf, lc, hvs, hfile⟩ := hcode
  obtain ⟨cl, cld, csl, lcell⟩ := hcell
  obtain ⟨ar, hhead, har⟩ := hpar
  have hcl := clsIn_err hC
  have hC1 := X _ _ hC
  have hInst : InstAt s.heap x (excO C t0) C none := ⟨hx, rfl, rfl, trivial⟩
  refine ks_wpAt_Expr_any ?_ (by show (scope.kind == ScopeKind.module && _) = false; rw [S.kind]; rfl) rfl
  refine ks_wpAt_MethodCall (pl := (do return (← importBound (.Call (.Name "super" q1) [] [] q2) (ksEnv qual scope L fI (.ref cda) cc)).getD true)) ?_ (by
    show (do
      let ov ← attributeBase (.Call (.Name "super" q1) [] [] q2) "__init__" (ksEnv qual scope L fI (.ref cda) cc) (eval (.Call (.Name "super" q1) [] [] q2) (ksEnv qual scope L fI (.ref cda) cc))
      standAt q3.atName
      methodCall (.Call (.Name "super" q1) [] [] q2) "__init__" q3 q5 (ksEnv qual scope L fI (.ref cda) cc) ov 0 (backTo q5 (starEach [] (ksEnv qual scope L fI (.ref cda) cc))) []) = _
    unfold methodCall methodCallPos
    rw [hpos]
    rfl)
  obtain ⟨hh, g, d, tk, os⟩ := s
  refine ks_wpAt_super_base (env := ksEnv qual scope L fI (.ref cda) cc) S.sup S.cls (by decide) rfl (X _ _ lf) rfl (by rw [efd]; exact hhead) rfl (X _ _ lc) rfl hvs hfile T.top ?_
  refine ks_loadName_global S.kind S.sup (loadGlobal_builtin (env := ksEnv qual scope L fI (.ref cda) cc) hgl (mg_none_of X hgl T.nS) hbl ((hbb _ (by decide +kernel)).trans (by decide +kernel)) ⟨rfl, ?_⟩)
  refine wpAny_loadName_free S.kind S.cls rfl ⟨_, X _ _ lcell, rfl⟩ ?_
  refine wpAny_loadName_local S.kind (by rw [har]; exact S.slf) hns (by rw [har]; exact ms) ?_
  refine ks_wpAny_isType_cls hC1 rfl ⟨rfl, ?_⟩
  refine ks_wpAny_call_super hC1 rfl hx rfl (fun c z => nomatch z) (looks_mroIn X T.mC) (fun h1 e1 k1 => ?_)
  have X1 := X.keeps k1
  have hx1 := k1 _ _ hx
  have hI1 : InstAt h1 x (excO C t0) C none := ⟨hx1, rfl, rfl, trivial⟩
  have sup : alongIn K "__init__" ((((Value.ref C :: bm).dropWhile (· != .ref C)).drop 1)) = some (some (.builtin "ValueError.__init__")) := by
    have z := T.sup
    unfold ks_superIn at z
    rw [hcl, Option.bind_some] at z
    exact z
  refine kxs_getMethod kxs_ValueError e1 (looks_opaque X1 T.tp) (l₀ := Value.ref C :: bm) (fun A Q E s k q => wpAny_bind ((looks_clsIn X1 hcl) A _ E s k (wpAny_pure q))) rfl X1 sup (hI1.type.andThen (looks_subIn X1 T.sB)) (ks_ne X1 hI1 hcl) (by decide) ?_
  have k2 : ∀ b o, h1.get? b = some o → (h1.push (kxs_mw "ValueError.__init__" x)).get? b = some o := fun b o e => Heap.get?_push_of_some _ e
  have hu : (h1.push (kxs_mw "ValueError.__init__" x)).get? h1.objs.size = some (kxs_mw "ValueError.__init__" x) := Heap.get?_push_at rfl rfl
  refine kxs_callWith (i := "ValueError.__init__") (x := x) rfl (evalArgs_empty ⟨hu, ?_⟩)
  refine wpAny_call (codeAny_of_tree ?_)
  show wpAny _ A.in1 (callAny (.ref h1.objs.size) ⟨[], []⟩) _ _ _
  simp only [callAny]
  refine wpAny_bind (wpAny_load hu ?_)
  simp only [kxs_mw, show (Value.type "method-wrapper" == Value.type "method" || Value.type "method-wrapper" == Value.type "builtin_function_or_method" || Value.type "method-wrapper" == Value.type "method-wrapper") = true by decide, if_true]
  refine KFB.if_so (by decide) ?_
  refine wpAny_bind (check_bound_init F.excBase_ValueError.toExcCallFacts (k2 _ _ (k1 _ _ hC1)) (k2 _ _ hx1) rfl ?_)
  refine wpAny_bind (wpAny_pure (wpAny_pure ?_))
  refine ⟨plainId_quiet F.excBase_ValueError.init.plain _, codeAny_builtin F.excBase_ValueError.initEntry ?_⟩
  refine exc_init_tree (cls := .ref C) (t0 := t0) (dv := none) (c2 := .none) (c3 := .none) (b4 := .bool false) (k2 _ _ hx1) (by show 0 ≤ sizeLine; exact Nat.zero_le _) (fun h' kk e' t' => ?_)
  exact hq h' _ _ (fun b o hb e => kk b o hb (k2 _ _ (k1 _ _ e))) e'
theorem err_init0 (T : ErrK0 prog K C fI fd) {x t0 : Addr} {args : Args} (X : K.In s.heap) (hlim : s.heap.NoLimit)
    (hgl : s.heap.Ns mainGlobals mg) (hbl : s.heap.Ns builtinsNs mb) (hbb : ∀ x : Str, x ≠ "__name__" → mb x = bootBuiltins x)
    (hx : s.heap.get? x = some (excO C t0)) (hnx : K.lookup x = none) (hroom : A.depth < recursionLimit)
    (hbind : BindsTo s fd args [("self", .ref x)])
    (hq : ∀ h' tk t1, (∀ b o, b ≠ x → s.heap.get? b = some o → h'.get? b = some o) → h'.get? x = some (excO C t1) → R (.ok (.ret .none)) { s with heap := h', toks := tk }) :
    codeAny (model prog w) A (.call (.ref fI) args) R s := by
  obtain ⟨oc, od, osl, qual, params, body, scope, dV, kV, doc, pm, an, cda, ct, cc, efd, lf, hcd, hcode, hcell, hpar, S, hshape⟩ := T.fn
  have hloc : ∀ y ∈ ([("self", .ref x)] : List (Str × Value)), scope.names.lookup y.1 = some .local := fun y hy => by
    rw [List.mem_singleton.mp hy]
    exact S.slf
  subst efd
  refine ks_codeAny_call_defAt (body := body) (binds := [("self", .ref x)]) hroom (X _ _ lf) rfl hlim (codeRec_of X hcd) rfl hbind S.nocell hloc (fun h1 hns hk1 => ?_) S.co S.gen S.kind
  obtain ⟨q1, q2, q3, q5, q6, hpos, rfl⟩ := hshape
  refine ks_wpAt_execs_cons (sup_run0 T rfl lf hcode hcell hpos hpar S (X.keeps hk1) (hgl.keeps hk1) (hbl.keeps hk1) hbb hns (by simp [List.lookup]) (hk1 _ _ hx) (fun h2 tk2 t2 k2 hx2 => ?_))
  refine wpAt_of_wpAny (wpAny_execs_nil ?_)
  exact hq h2 tk2 t2 (fun b o hb e => k2 b o hb (hk1 b o e)) hx2
theorem err_made0 (T : ErrK0 prog K C fI fd) (X : K.In s.heap) (hlim : s.heap.NoLimit)
    (hgl : s.heap.Ns mainGlobals mg) (hbl : s.heap.Ns builtinsNs mb) (hbb : ∀ x : Str, x ≠ "__name__" → mb x = bootBuiltins x) (hroom : A.depth + 1 < recursionLimit)
    (hbind : ∀ (s : Shared) (x : Addr), K.In s.heap → BindsTo s fd ⟨[.ref x], []⟩ [("self", .ref x)])
    (hq : ∀ h' tk e t1, (∀ b o, s.heap.get? b = some o → h'.get? b = some o) → s.heap.objs.size ≤ e → h'.get? e = some (excO C t1) → R (.ok (.ret (.ref e))) { s with heap := h', toks := tk }) :
    codeAny (model prog w) A (.call (.ref C) ⟨[], []⟩) R s := by
  obtain ⟨nm, q, N, bs, bm, sn, sub, ab, col, dd, k0, k1, k2, k3, k5, hC, hbm⟩ := T.cls
  obtain ⟨hp, g, dr, tk, os⟩ := s
  have k : ∀ b o, hp.get? b = some o → ((hp.push (kdv_tup [])).push (excO C hp.objs.size)).get? b = some o := fun b o e => Heap.get?_push_of_some _ (Heap.get?_push_of_some _ e)
  have hget : ((hp.push (kdv_tup [])).push (excO C hp.objs.size)).get? (hp.objs.size + 1) = some (excO C hp.objs.size) := by heap_get
  have hnx : K.lookup (hp.objs.size + 1) = none := by
    cases e : K.lookup (hp.objs.size + 1) with
    | none => rfl
    | some o => exact absurd (Nat.lt_of_succ_lt (Heap.lt_size (X _ _ e))) (Nat.lt_irrefl _)
  refine call_own F.excBase_ValueError (fun Z => refsVE_contains Z bm hbm) (X _ _ hC) (looks_findIn X T.iC) (fun self => bind_fn X self T.tI) (Nat.zero_le _) ?_
  refine err_init0 (s := ⟨(hp.push (kdv_tup [])).push (excO C hp.objs.size), g, dr, tk, os⟩) T (X.keeps k) (hlim.keeps k) (hgl.keeps k) (hbl.keeps k) hbb hget hnx ?_ (hbind _ _ (X.keeps k)) fun h' tk' t1 k' hx => ?_
  · show A.depth + 1 < recursionLimit
    exact hroom
  · have old : ∀ b o, hp.get? b = some o → h'.get? b = some o := fun b o e => k' b o (Nat.ne_of_lt (Nat.lt_succ_of_lt (Heap.lt_size e))) (k b o e)
    exact ⟨rfl, hq h' tk' (hp.objs.size + 1) t1 old (Nat.le_succ _) hx⟩
end
end PySem.TPX
namespace L2.TP
open PySem PySem.Spec PyProof.Rows
structure Err0 (prog : Program) (K : PySem.W.Frag) (mg : Str → Option Value) (x : Str) (C : Addr) : Prop where
  ex : ∃ (fI : Addr) (fd : FuncData), PySem.TPX.ErrK0 prog K C fI fd ∧ ∀ (s : Shared) (x : Addr), K.In s.heap → BindsTo s fd ⟨[.ref x], []⟩ [("self", .ref x)]
  gC : mg x = some (.ref C)
  kC : PySem.W.keepIn K (.ref C) = true
/-- x(): a new error -/
def tErr0 (C : Addr) : TE := fun σ H Q => ∀ a, H a = none → Q (.ref a) (upd H a (ExV (.ref C) none a))
/-- isinstance(x, c), x a kept exception -/
def rIsW (K : PySem.W.Frag) : List V → Hp → VK → Prop := fun xs H Q => ∃ (a D : Addr) (dd : Option Addr) (c : V) (u : Value) (b : Bool), xs = [.ref a, c] ∧ ClsV c u ∧ H a = some (ExV (.ref D) dd a) ∧ (∀ d, dd = some d → ∃ fs, H d = some (.xd fs)) ∧ ExcC K D ∧ PySem.W.kitOne K (.ref D) u = some b ∧ Q (.bl b) H
section
variable {X : Cx} {C : Addr} {x : Str}
theorem pe_err0 {p pos : Pos} {k : Nat} (T : Err0 X.prog X.K X.mg x C) (hex : X.ex = []) (hr : Room k X.A) (hg : Gl X x := by rfl) (hdb : (x == ("__debug__" : Str)) = false := by decide) :
    PE X (.Call (.Name x p) [] [] pos) (tErr0 C) := by
  refine ⟨fun pins s σ H Q I h => ?_⟩
  obtain ⟨fI, fd, TE, hbind⟩ := T.ex
  refine wpAny_Call_Name_kw (ld_glob I hg T.gC ?_ hdb)
  refine PySem.W.callWith_K0 I.kIn T.kC ?_
  show wpAny _ _ (call (.ref C) []) _ _ _
  have hlim := I.nolimit
  obtain ⟨mb, hmb, hbb⟩ := I.mod.blt
  have hgl := I.mod.glob.keeps I.bk
  have hbl := hmb.keeps I.bk
  have kin := I.kIn
  obtain ⟨hp, g, dr, tk, os⟩ := s
  refine wpAny_call (PySem.TPX.err_made0 TE kin hlim hgl hbl hbb (by have := hr.dp; omega) hbind fun h' tk' a t1 old new hoe => ?_)
  show EP X pins σ Q (.ref a) ⟨h', g, dr, tk', os⟩
  have na : H a = none := I.hok.fresh new
  have J : Inv X pins σ H ⟨h', g, dr, tk', os⟩ := I.kept (t' := tk') old
  have out : ∀ o, hp.get? a ≠ some o := fun o z => absurd (Heap.lt_size z) (Nat.not_lt.mpr new)
  have n0 : X.s_0.heap.get? a = none := by
    cases q : X.s_0.heap.get? a with
    | none => rfl
    | some o =>
      obtain ⟨o', z⟩ := I.base.there a o q (by rw [hex]; simp)
      exact (out _ z).elim
  refine ⟨.ref a, _, Inv.track J n0 na (exV_ok hoe ⟨rfl, rfl⟩ rfl) (fun z => ?_) (fun y c e z => ?_) (fun p hp' z => ?_), rfl, h a na⟩
  · obtain ⟨m, ⟨o, es', ep, eo, _⟩, _⟩ := I.loc
    rw [← z] at eo
    exact out _ eo
  · obtain ⟨v, o, ho, _⟩ := I.cell y c e
    rw [z] at ho
    exact out _ ho
  · obtain ⟨p1, _⟩ := I.pin p hp'
    rw [z] at p1
    exact out _ p1
theorem call_isW : CallR X (.builtin "isinstance") (rIsW X.K) := by
  intro pins s σ H xs us Q I r h
  obtain ⟨a, D, dd, c, u, b, rfl, hc, ea, ed, C, k, q⟩ := h
  cases dd with
  | some d =>
    obtain ⟨fs, ed⟩ := ed d rfl
    exact call_isV pins s σ H _ us Q I r ⟨a, D, d, fs, c, u, b, rfl, hc, ea, ed, C, k, q⟩
  | none =>
    obtain ⟨u1, u2, rfl, r1, r2⟩ := r.two
    cases r1
    have e2 := hc.eq r2
    subst e2
    obtain ⟨⟨oe, vs, ha, hz, hd⟩, _, _⟩ := I.hok a _ ea
    have J : PySem.W.InstAt s.heap a oe D none := by
      obtain ⟨oc, od, oda, osl⟩ := oe
      obtain ⟨h1, h2⟩ := hz
      dsimp only at h1 h2 hd
      subst h1 h2 hd
      exact ⟨ha, rfl, rfl, trivial⟩
    exact PySem.W.kia_one (PySem.W.handS_kitx_exc C.hg C.hk C.hs C.hd C.ha C.hn C.ht C.hm) I.kIn J k (fun z => nomatch z) fun tk => ⟨.bl b, H, I.kept (t' := tk) fun _ _ z => z, rfl, q⟩
end
/-- all that is asked of an error class with the first field f -/
structure ErrV (P : Program) (K : PySem.W.Frag) (mg : Str → Option Value) (x f : Str) (fs : List Str) (dvs : List V) (CT C : Addr) : Prop where
  ep : ErrP P K mg x fs 1 dvs C
  ew : ErrW P K mg x fs [f] dvs C
  xf : XfC K C
  no : PySem.W.findIn K (.ref C) f = some none
  ex : ExcC K C
  te : PySem.W.kitOne K (.ref C) (.ref CT) = some true
  ve : PySem.W.kitOne K (.ref C) (.type "ValueError") = some true
/-- of one without fields -/
structure ErrZ (P : Program) (K : PySem.W.Frag) (mg : Str → Option Value) (x : Str) (CT C : Addr) : Prop where
  e0 : Err0 P K mg x C
  ex : ExcC K C
  te : PySem.W.kitOne K (.ref C) (.ref CT) = some true
  ve : PySem.W.kitOne K (.ref C) (.type "ValueError") = some true
/-- an error with the fields fs, vs stands at a -/
def ErAt (H : Hp) (fs : List Str) (vs : List V) (C a : Addr) : Prop := ∃ d, H a = some (ExV (.ref C) (some d) a) ∧ H d = some (.xd (fs.zip vs))
theorem ErAt.ext {H H' : Hp} {fs : List Str} {vs : List V} {C a : Addr} (h : ErAt H fs vs C a) (e : Ext H H') : ErAt H' fs vs C a := by
  obtain ⟨d, h1, h2⟩ := h
  exact ⟨d, e _ _ h1, e _ _ h2⟩
inductive Ers (H : Hp) (fs : List Str) (vs : List V) : List Addr → List Addr → Prop
  | nil : Ers H fs vs [] []
  | cons {C a : Addr} {Cs as : List Addr} (h : ErAt H fs vs C a) (t : Ers H fs vs Cs as) : Ers H fs vs (C :: Cs) (a :: as)
theorem Ers.ext {H H' : Hp} {fs : List Str} {vs : List V} (e : Ext H H') : ∀ {Cs as : List Addr}, Ers H fs vs Cs as → Ers H' fs vs Cs as
  | _, _, .nil => .nil
  | _, _, .cons h t => .cons (h.ext e) (Ers.ext e t)
theorem Ers.app {H : Hp} {fs : List Str} {vs : List V} : ∀ {Cs as Ds bs : List Addr}, Ers H fs vs Cs as → Ers H fs vs Ds bs → Ers H fs vs (Cs ++ Ds) (as ++ bs)
  | _, _, _, _, .nil, k => k
  | _, _, _, _, .cons h t, k => .cons h (t.app k)
theorem Ers.len {H : Hp} {fs : List Str} {vs : List V} : ∀ {Cs as : List Addr}, Ers H fs vs Cs as → as.length = Cs.length
  | _, _, .nil => rfl
  | _, _, .cons _ t => congrArg Nat.succ t.len
theorem Ers.at {H : Hp} {fs : List Str} {vs : List V} : ∀ {Cs as : List Addr}, Ers H fs vs Cs as → ∀ {i : Nat} {a : Addr}, as[i]? = some a → ∃ C, Cs[i]? = some C ∧ ErAt H fs vs C a
  | _, _, .nil, i, a, e => by simp at e
  | _, _, .cons h t, 0, a, e => by
    cases e
    exact ⟨_, rfl, h⟩
  | _, _, .cons h t, i + 1, a, e => t.at (i := i) e
/-- errors of the classes Cs, each made of what stands in the slot i -/
def tErs (i : Nat) (fs : List Str) (dvs : List V) : List Addr → TA
  | [] => tNil
  | C :: Cs => tCons (tErrP C fs 1 dvs (tCons (tVar i) tNil)) (tErs i fs dvs Cs)
theorem er_new {H : Hp} {fs : List Str} {vs : List V} {C a d : Addr} (na : H a = none) (nd : H d = none) (ne : a ≠ d) :
    Ext H (upd (upd H d (.xd (fs.zip vs))) a (ExV (.ref C) (some d) a)) ∧ ErAt (upd (upd H d (.xd (fs.zip vs))) a (ExV (.ref C) (some d) a)) fs vs C a :=
  ⟨ext_over (ext_upd nd) na, d, upd_same, by rw [upd_ne (Ne.symm ne)]; exact upd_same⟩
theorem tErs_ok {i : Nat} {fs : List Str} {dvs : List V} {σ : L2.St} {v : V} (hσ : σ[i]? = some (some v)) (hl : ([v] ++ dvs).length = fs.length) :
    ∀ (Cs : List Addr) (H : Hp) (Q : List V → Hp → Prop), (∀ as H', Ext H H' → Ers H' fs ([v] ++ dvs) Cs as → Q (as.map V.ref) H') → tErs i fs dvs Cs σ H Q
  | [], H, Q, k => k [] H Ext.rfl' .nil
  | C :: Cs, H, Q, k => by
    refine ⟨v, hσ, rfl, hl, fun a d na nd ne => ?_⟩
    obtain ⟨x1, e1⟩ := er_new (fs := fs) (vs := [v] ++ dvs) (C := C) na nd ne
    exact tErs_ok hσ hl Cs _ _ fun as H' x2 h2 => k (a :: as) H' (x1.trans x2) (.cons (e1.ext x2) h2)
/-- isinstance of what stands in the slot i, by the classes Cs -/
def tIss (K : PySem.W.Frag) (i : Nat) : List Addr → TA
  | [] => tNil
  | C :: Cs => tCons (tCB (rIsW K) (tCons (tVar i) (tCons (tC (.ref C)) tNil))) (tIss K i Cs)
/-- an error of the class D stands at a -/
def ErO (H : Hp) (D a : Addr) : Prop := ∃ dd, H a = some (ExV (.ref D) dd a) ∧ ∀ d, dd = some d → ∃ fs, H d = some (.xd fs)
theorem ErO.ext {H H' : Hp} {D a : Addr} (h : ErO H D a) (e : Ext H H') : ErO H' D a := by
  obtain ⟨dd, h1, h2⟩ := h
  refine ⟨dd, e _ _ h1, fun d z => ?_⟩
  obtain ⟨fs, q⟩ := h2 d z
  exact ⟨fs, e _ _ q⟩
theorem ErAt.o {H : Hp} {fs : List Str} {vs : List V} {C a : Addr} (h : ErAt H fs vs C a) : ErO H C a := by
  obtain ⟨d, h1, h2⟩ := h
  refine ⟨some d, h1, fun z e => ?_⟩
  cases e
  exact ⟨_, h2⟩
theorem tIss_ok {K : PySem.W.Frag} {i : Nat} {σ : L2.St} {H : Hp} {a D : Addr} {f : Addr → Bool} (hσ : σ[i]? = some (some (.ref a))) (he : ErO H D a) (ec : ExcC K D) :
    ∀ (Cs : List Addr) (Q : List V → Hp → Prop), (∀ C ∈ Cs, PySem.W.kitOne K (.ref D) (.ref C) = some (f C)) → Q (Cs.map fun C => V.bl (f C)) H → tIss K i Cs σ H Q
  | [], Q, _, q => q
  | C :: Cs, Q, hk, q => by
    obtain ⟨dd, h1, h2⟩ := he
    exact ⟨_, hσ, a, D, dd, _, _, f C, rfl, .own _, h1, h2, ec, hk C List.mem_cons_self, tIss_ok hσ ⟨dd, h1, h2⟩ ec Cs _ (fun E hE => hk E (List.mem_cons_of_mem _ hE)) q⟩
end L2.TP

/-! Layer V: comprehensions whose items are told one by one, the heap growing. -/
namespace L2.TP
open PySem PySem.Spec PyProof.Rows
/-- [te for g in it]: the heap grows, the i-th item is told by R -/
theorem lc_ext {J : It} {n : Nat} {G : Hp → Prop} {Y : Nat → Hp → V → Hp → Prop} (w : Walk J n G Y) {g : TG} {te : TE} {vs : List Nat} {σ : L2.St} {H1 : Hp} {D : Addr} {Qd : Hp → Prop}
    (R : Nat → V → Hp → Prop) (hD : H1 D = none) (hn : n ≤ 100000) (g1 : G H1) (hg : ∀ H H', Ext H H' → G H → G H') (hR : ∀ i y H H', Ext H H' → R i y H → R i y H')
    (hP : ∀ i y H acc acc', H D = some (.lst acc) → R i y H → R i y (upd H D (.lst acc')))
    (hs : ∀ i x H H' acc (Q : VK), i < n → Ext H1 H → acc.length = i → H D = some (.lst acc) → G H → Y i H x H' → (∀ y H4, Ext H H4 → R i y H4 → Q y H4) →
      g x (wipe σ vs) H' fun σ2 H2 => wipe σ2 vs = wipe σ vs ∧ te σ2 H2 Q)
    (hd : ∀ ys H, Ext H1 H → H D = some (.lst ys) → ys.length = n → (∀ i y, ys[i]? = some y → R i y H) → Qd H) :
    ∃ W : Nat → Nat → Hp → Prop, (∃ m, W 0 m (upd H1 D (.lst []))) ∧ ∀ i m H, W i m H →
      (J.stop i H ∧ Qd H) ∨ (J.go i H ∧ ∃ Nx : Hp → Prop, (∀ H', Nx H' → ∃ m', m' < m ∧ W (i + 1) m' H') ∧ ∀ x H', J.yld i H x H' → g x (wipe σ vs) H' fun σ2 H2 => wipe σ2 vs = wipe σ vs ∧ tYes σ2 H2 fun b H3 =>
        if b = true then te σ2 H3 fun y H4 => ∃ acc, H4 D = some (.lst acc) ∧ acc.length < sizeLine ∧ Nx (upd H4 D (.lst (acc ++ [y]))) else Nx H3) := by
  refine lc_it w (fun i H => Ext H1 H ∧ ∃ ys, ys.length = i ∧ H D = some (.lst ys) ∧ ∀ j y, ys[j]? = some y → R j y H) ⟨ext_upd hD, [], rfl, upd_same, fun j y e => by simp at e⟩ (fun i H _ h => hg _ _ h.1 g1) (fun i x H H' hi h y => ?_) (fun H h => ?_)
  · obtain ⟨x1, ys, hl, hd', hr⟩ := h
    refine hs i x H H' ys _ hi x1 hl hd' (hg _ _ x1 g1) y fun z H4 x4 r4 => ?_
    have d4 := x4 _ _ hd'
    refine ⟨ys, d4, by rw [hl]; exact Nat.lt_of_lt_of_le hi (Nat.le_trans hn (by decide)), ext_over (x1.trans x4) hD, ys ++ [z], by rw [List.length_append]; exact congrArg Nat.succ hl, upd_same, fun j u e => ?_⟩
    refine hP _ _ _ _ _ d4 ?_
    by_cases c : j < ys.length
    · rw [List.getElem?_append_left c] at e
      exact hR _ _ _ _ x4 (hr j u e)
    · rw [List.getElem?_append_right (by omega)] at e
      have e0 : j - ys.length = 0 := by
        cases q : j - ys.length with
        | zero => rfl
        | succ m =>
          rw [q] at e
          simp at e
      rw [e0] at e
      cases e
      have : j = i := by omega
      subst this
      exact r4
  · obtain ⟨x1, ys, hl, hd', hr⟩ := h
    exact hd ys H x1 hd' hl hr
/-- the items do not ask for the heap -/
theorem lc_flat {J : It} {n : Nat} {G : Hp → Prop} {Y : Nat → Hp → V → Hp → Prop} (w : Walk J n G Y) {g : TG} {te : TE} {vs : List Nat} {σ : L2.St} {H1 : Hp} {D : Addr} {Qd : Hp → Prop}
    (f : Nat → V) (hD : H1 D = none) (hn : n ≤ 100000) (g1 : G H1) (hg : ∀ H H', Ext H H' → G H → G H')
    (hs : ∀ i x H H' acc (Q : VK), i < n → Ext H1 H → acc.length = i → H D = some (.lst acc) → G H → Y i H x H' → (∀ H4, Ext H H4 → Q (f i) H4) →
      g x (wipe σ vs) H' fun σ2 H2 => wipe σ2 vs = wipe σ vs ∧ te σ2 H2 Q)
    (hd : ∀ H, Ext H1 H → H D = some (.lst ((List.range n).map f)) → Qd H) :
    ∃ W : Nat → Nat → Hp → Prop, (∃ m, W 0 m (upd H1 D (.lst []))) ∧ ∀ i m H, W i m H →
      (J.stop i H ∧ Qd H) ∨ (J.go i H ∧ ∃ Nx : Hp → Prop, (∀ H', Nx H' → ∃ m', m' < m ∧ W (i + 1) m' H') ∧ ∀ x H', J.yld i H x H' → g x (wipe σ vs) H' fun σ2 H2 => wipe σ2 vs = wipe σ vs ∧ tYes σ2 H2 fun b H3 =>
        if b = true then te σ2 H3 fun y H4 => ∃ acc, H4 D = some (.lst acc) ∧ acc.length < sizeLine ∧ Nx (upd H4 D (.lst (acc ++ [y]))) else Nx H3) := by
  refine lc_ext w (fun i y _ => y = f i) hD hn g1 hg (fun _ _ _ _ _ h => h) (fun _ _ _ _ _ _ h => h) (fun i x H H' acc Q hi x1 hl hd' gH y k => hs i x H H' acc Q hi x1 hl hd' gH y fun H4 x4 => k _ H4 x4 rfl) (fun ys H x1 e hl hr => hd H x1 ?_)
  rw [e]
  congr 2
  refine List.ext_getElem? fun i => ?_
  by_cases c : i < n
  · have h1 : i < ys.length := by omega
    rw [List.getElem?_map, List.getElem?_range c, List.getElem?_eq_getElem h1, hr i _ (List.getElem?_eq_getElem h1)]
    rfl
  · rw [List.getElem?_eq_none (by omega), List.getElem?_eq_none (by rw [List.length_map, List.length_range]; omega)]
theorem range_const {n : Nat} {v : V} : (List.range n).map (fun _ => v) = List.replicate n v := by
  rw [List.map_const', List.length_range]
theorem range_map {α β : Type} {xs : List α} {f : α → β} {g : Nat → β} (h : ∀ i x, xs[i]? = some x → g i = f x) : (List.range xs.length).map g = xs.map f := by
  refine List.ext_getElem? fun i => ?_
  by_cases c : i < xs.length
  · rw [List.getElem?_map, List.getElem?_range c, List.getElem?_map, List.getElem?_eq_getElem c, Option.map_some, Option.map_some, h i _ (List.getElem?_eq_getElem c)]
  · rw [List.getElem?_eq_none (by rw [List.length_map, List.length_range]; omega), List.getElem?_eq_none (by rw [List.length_map]; omega)]
theorem new_of {H M : Hp} {l : Addr} {o : HO} (e : upd H l o = M) (h : H l = none) : Ext H M ∧ M l = some o := by
  subst e
  exact ⟨ext_upd h, upd_same⟩
theorem lst_new {H : Hp} {l : Addr} {xs : List V} (h : H l = none) : Ext H (upd H l (.lst xs)) ∧ upd H l (.lst xs) l = some (.lst xs) := ⟨ext_upd h, upd_same⟩
theorem tup_new {H : Hp} {l : Addr} {xs : List V} (h : H l = none) : Ext H (upd H l (.tup xs)) ∧ upd H l (.tup xs) l = some (.tup xs) := ⟨ext_upd h, upd_same⟩
end L2.TP

/-! Layer W: the head by a Hook of facts: each a Bool of the written part. -/
namespace L2.TP
open PySem PySem.Spec PyProof.Rows
/-! ### the written part -/
def refsM (o : Obj) : List Addr := match o.data with
  | .dict es _ => es.toList.flatMap fun e => He.refV e.val
  | .func fd => He.refV fd.code ++ (He.refV fd.defaults ++ (He.refV fd.kwdefaults ++ fd.closure.map (·.2)))
  | .cls cd => [cd.ns]
  | .fields vs => if o.cls == .type "property" then vs.toList.flatMap He.refV else []
  | _ => []
def nextM (g : Addr → Option Obj) (as : List Addr) : List Addr := as.flatMap fun a => match g a with
  | some o => refsM o
  | none => []
def frL {α : Type} : List Addr → (List Addr → α) → α
  | [], k => k []
  | a :: r, k => HandSHeadRun.frNat a fun a => frL r fun r => k (a :: r)
theorem frL_eq {α : Type} : ∀ (l : List Addr) (k : List Addr → α), frL l k = k l
  | [], _ => rfl
  | a :: r, k => by
    show HandSHeadRun.frNat a (fun a => frL r fun r => k (a :: r)) = _
    rw [HandSHeadRun.frNat_eq, frL_eq r]
def partM (g : Addr → Option Obj) {α : Type} (k : PySem.W.Frag → α) : α :=
  frL (nextM g [mainGlobals]) fun l1 => frL (nextM g l1) fun l2 => frL (nextM g l2) fun l3 => frL (nextM g l3) fun l4 => frL (nextM g l4) fun l5 => k (He.frG g (cStatics :: mainGlobals :: (l1 ++ (l2 ++ (l3 ++ (l4 ++ l5))))))
theorem partM_eq (g : Addr → Option Obj) {α : Type} (k : PySem.W.Frag → α) : ∃ as, partM g k = k (He.frG g as) := by
  unfold partM
  simp only [frL_eq]
  exact ⟨_, rfl⟩
/-! ### functions, as the text has them -/
abbrev FnY : Type := Option (Str × Str × Arguments × FuncBody × Scope × Addr × Addr)
def fnY (K : PySem.W.Frag) (f : Addr) : FnY := match K.lookup f with
  | some ⟨_, _, .func fd, _⟩ => some (fd.name, fd.qualname, fd.params, fd.body, fd.scope, fd.globals, fd.builtins)
  | _ => none
structure DfY where
  at_ : PySem.W.Frag → Addr
  name : Str
  qual : Str
  params : Arguments
  body : List Stmt
  scope : Scope
def DfY.val (d : DfY) : FnY := some (d.name, d.qual, d.params, .stmts d.body, d.scope, mainGlobals, builtinsNs)
abbrev AlY : Type := Bool × List FnY
def obsY (chk : List (PySem.W.Frag → Bool)) (fn : List DfY) (K : PySem.W.Frag) : AlY := (chk.all fun c => c K, fn.map fun d => fnY K (d.at_ K))
def valY (fn : List DfY) : AlY := (true, fn.map DfY.val)
def SaysY (chk : List (PySem.W.Frag → Bool)) (fn : List DfY) (K : PySem.W.Frag) : Prop := obsY chk fn K = valY fn
def obsYG (chk : List (PySem.W.Frag → Bool)) (fn : List DfY) (g : Addr → Option Obj) : AlY := partM g (obsY chk fn)
def hookY (chk : List (PySem.W.Frag → Bool)) (fn : List DfY) : PySem.W.Hook where
  α := AlY
  obs := fun s => obsYG chk fn s.heap.get?
  val := fun _ => valY fn
  says := fun _ h => ∃ K : PySem.W.Frag, K.In h ∧ SaysY chk fn K
  of := fun _ s e => by
    obtain ⟨as, q⟩ := partM_eq s.heap.get? (obsY chk fn)
    have e : partM s.heap.get? (obsY chk fn) = valY fn := e
    rw [q] at e
    exact ⟨_, He.frG_in, e⟩
  keeps := fun _ _ _ ⟨K, hK, c⟩ k => ⟨K, PySem.W.Frag.In.keeps hK k, c⟩
def obT (chk : List (PySem.W.Frag → Bool)) (fn : List DfY) (s : PySem.W.SharedT) : AlY := obsYG chk fn (HandSHeadRun.getT s)
theorem obT_eq {chk : List (PySem.W.Frag → Bool)} {fn : List DfY} (s : PySem.W.SharedT) : obT chk fn s = (hookY chk fn).obs s.abs := by
  have e : HandSHeadRun.getT s = s.abs.heap.get? := funext (HandSHeadRun.getT_eq s)
  unfold obT
  rw [e]
  rfl
section
variable {chk : List (PySem.W.Frag → Bool)} {fn : List DfY} {K : PySem.W.Frag}
theorem SaysY.fact (c : SaysY chk fn K) (i : Nat) {f : PySem.W.Frag → Bool} (h : chk[i]? = some f) : f K = true := by
  have c1 : (chk.all fun c => c K) = true := congrArg (fun z : AlY => z.1) c
  exact List.all_eq_true.mp c1 f (List.mem_of_getElem? h)
theorem SaysY.def_ (c : SaysY chk fn K) (i : Nat) {d : DfY} (h : fn[i]? = some d) : fnY K (d.at_ K) = d.val := by
  have e : fn.map (fun d => fnY K (d.at_ K)) = fn.map DfY.val := congrArg (fun z : AlY => z.2) c
  have e2 : (fn.map fun d => fnY K (d.at_ K))[i]? = (fn.map DfY.val)[i]? := by rw [e]
  rw [List.getElem?_map, List.getElem?_map, h] at e2
  exact Option.some.inj e2
end
/-! ### defs -/
def fnB (K : PySem.W.Frag) (f : Addr) (qual : Str) (dvs : List V) (kws : List (Str × V)) : Bool := PySem.W.keepIn K (.ref f) && (match K.lookup f with
  | some ⟨_, _, .func fd, _⟩ => fd.closure.isEmpty && (PySem.W.codeIn K fd.code qual && (He.dflB K fd.defaults dvs && He.kwdB K fd.kwdefaults kws))
  | _ => false)
theorem funD_of {K : PySem.W.Frag} {d : DfY} {dvs : List V} {kws : List (Str × V)} (e : fnY K (d.at_ K) = d.val) (c : fnB K (d.at_ K) d.qual dvs kws = true) : ∃ fd, FunD K d.name d.qual d.params d.body d.scope dvs kws (d.at_ K) fd := by
  obtain ⟨kp, c2⟩ := He.ba c
  unfold fnY at e
  cases q : K.lookup (d.at_ K) with
  | none =>
    rw [q] at c2
    cases c2
  | some o =>
    obtain ⟨oc, od, dt, osl⟩ := o
    rw [q] at c2 e
    cases dt with
    | func fd =>
      obtain ⟨n1, n2, n3, n4, n5, n6, n7, n8, n9, n10, n11, n12, n13, n14, n15⟩ := fd
      have e2 : (some (n1, n2, n3, n4, n5, n6, n15) : FnY) = some (d.name, d.qual, d.params, .stmts d.body, d.scope, mainGlobals, builtinsNs) := e
      simp only [Option.some.injEq, Prod.mk.injEq] at e2
      obtain ⟨h1, h2, h3, h4, h5, h6, h8⟩ := e2
      subst h1 h2 h3 h4 h5 h6 h8
      have c3 : (n7.isEmpty && (PySem.W.codeIn K n13 d.qual && (He.dflB K n8 dvs && He.kwdB K n9 kws))) = true := c2
      obtain ⟨k0, c3⟩ := He.ba c3
      obtain ⟨k1, k2⟩ := He.ba c3
      obtain ⟨k3, k4⟩ := He.ba k2
      have e7 : n7 = [] := List.isEmpty_iff.mp k0
      subst e7
      exact ⟨_, ⟨oc, od, n8, n9, n10, n11, n12, n13, n14, osl, rfl, q, k1, He.dflB_ok k3, He.kwdB_ok k4⟩, kp⟩
    | _ => cases c2
theorem fun_of {K : PySem.W.Frag} {d : DfY} {st : Stmt} (e : fnY K (d.at_ K) = d.val) (c : fnB K (d.at_ K) d.qual [] [] = true) (h1 : d.params = defArgs st) (h2 : d.body = defBody st) (h3 : d.scope = defScope st) : ∃ fd, Fun K d.name d.qual st (d.at_ K) fd := by
  obtain ⟨fd, ⟨oc, od, dV, kV, doc, pm, an, cdv, ct, osl, ef, lk, hc, hd, _⟩, kp⟩ := funD_of e c
  rcases hd with ⟨_, rfl⟩ | ⟨hn, _⟩
  · rw [h1, h2, h3] at ef
    exact ⟨fd, ⟨oc, od, kV, doc, pm, an, cdv, ct, osl, ef, lk, hc⟩, kp⟩
  · exact absurd rfl hn
/-! ### properties -/
def prF (K : PySem.W.Frag) (p : Addr) : Addr := match PySem.W.recIn K p "property" with
  | some (.ref F :: _) => F
  | _ => 0
def prB (K : PySem.W.Frag) (C : Addr) (m : Str) : Bool := He.eqO (PySem.W.findIn K (.ref C) m) (some (some (.ref (He.ma K C m)))) && (He.eqO (PySem.W.specialIn K (.ref (He.ma K C m)) "__get__") (some (some (.builtin "property.__get__"))) &&
  (decide (PySem.W.takesIn K (.ref (He.ma K C m)) = some true) && (match PySem.W.recIn K (He.ma K C m) "property" with
    | some (.ref _ :: _) => true
    | _ => false)))
theorem prB_ok {K : PySem.W.Frag} {C : Addr} {m : Str} (h : prB K C m = true) : PropOf K C m (He.ma K C m) (prF K (He.ma K C m)) := by
  obtain ⟨h1, h⟩ := He.ba h
  obtain ⟨h2, h⟩ := He.ba h
  obtain ⟨h3, h4⟩ := He.ba h
  refine ⟨He.eqO_ok h1, He.eqO_ok h2, of_decide_eq_true h3, ?_⟩
  unfold prF
  split at h4
  · rename_i F r hr
    rw [hr]
    exact ⟨_, rfl⟩
  · cases h4
/-! ### classes -/
def clB (K : PySem.W.Frag) (x : Str) : Bool := He.eqO (PySem.W.nsIn K mainGlobals x) (some (some (.ref (He.ga K x)))) && ((He.Fa.cls x).ok K && (PySem.W.keepIn K (.ref (He.ga K x)) && decide (PySem.W.typeIn K (.ref (He.ga K x)) = some (.type "type"))))
theorem clB_ok {K : PySem.W.Frag} {x : Str} (h : clB K x = true) : PySem.W.nsIn K mainGlobals x = some (some (.ref (He.ga K x))) ∧ Cls K (He.ga K x) ∧ PySem.W.keepIn K (.ref (He.ga K x)) = true ∧ ((PySem.W.clsIn K (He.ga K x)).isSome = true ∧ PySem.W.typeIn K (.ref (He.ga K x)) = some (.type "type")) := by
  obtain ⟨h1, h⟩ := He.ba h
  obtain ⟨h2, h⟩ := He.ba h
  obtain ⟨h3, h4⟩ := He.ba h
  have c := He.cls_ok h2
  have hd : PySem.W.hasDictIn K (He.ga K x) = true := (He.ba (He.ba h2).2).1
  exact ⟨He.eqO_ok h1, c, h3, cls_some hd, of_decide_eq_true h4⟩
/-! ### errors -/
def excB (K : PySem.W.Frag) (C : Addr) : Bool := match K.lookup C with
  | some ⟨cl, _, .cls cd, sl⟩ => (match cd.mro, sl.toList with
    | .ref C' :: bm, [_, _, _, _, some (.builtin n), _] => decide (cl = .type "type") && (C' == C && (decide (n = "ValueError.__new__") && (!cd.hasDel && (cd.hasDict && PySem.HandSPX.refsVE bm))))
    | _, _ => false)
  | _ => false
theorem excB_ok {K : PySem.W.Frag} {C : Addr} (h : excB K C = true) : ∃ nm q N bs bm sn sub ab col dd k0 k1 k2 k3 k5, K.lookup C = some (excClassObj nm q C N bs bm true sn sub ab col dd k0 k1 k2 k3 k5 "ValueError.__new__") ∧ PySem.HandSPX.refsVE bm = true := by
  unfold excB at h
  split at h
  · rename_i cl dd cd sl ho
    split at h
    · rename_i C' bm k0 k1 k2 k3 n k5 hm hs
      obtain ⟨h1, h⟩ := He.ba h
      obtain ⟨h2, h⟩ := He.ba h
      obtain ⟨h3, h⟩ := He.ba h
      obtain ⟨h4, h⟩ := He.ba h
      obtain ⟨h5, h6⟩ := He.ba h
      obtain ⟨nm, bs, mro, ns, q, hd, sn, sub, ab, col, del⟩ := cd
      dsimp only at hm h4 h5
      have e1 := of_decide_eq_true h1
      have e2 : C' = C := beq_iff_eq.mp h2
      have e3 := of_decide_eq_true h3
      have e4 : del = false := by simpa using h4
      have e6 : sl = #[k0, k1, k2, k3, some (.builtin n), k5] := by
        apply Array.toList_inj.mp
        exact hs
      subst e1 e2 e3 e4 h5 hm e6
      exact ⟨_, _, _, _, _, _, _, _, _, _, _, _, _, _, _, ho, h6⟩
    · cases h
  · cases h
/-- the file that a code object tells -/
def fileB (K : PySem.W.Frag) (c : Addr) (file : Str) : Bool := match K.lookup c with
  | some ⟨_, _, .fields vs, _⟩ => (match (vs[2]? : Option Value) with
    | some (.str f _) => file == f
    | _ => false)
  | _ => false
theorem fileB_ok {K : PySem.W.Frag} {c : Addr} {file : Str} (h : fileB K c file = true) : ∃ ccl cdd vs ccs f tf, K.lookup c = some ⟨ccl, cdd, .fields vs, ccs⟩ ∧ vs[2]? = some (.str f tf) ∧ (file == f) = true := by
  unfold fileB at h
  split at h
  · rename_i ccl cdd vs ccs ho
    split at h
    · rename_i f tf hv
      exact ⟨_, _, _, _, _, _, ho, hv, h⟩
    · cases h
  · cases h
def cellB (K : PySem.W.Frag) (c C : Addr) : Bool := match K.lookup c with
  | some ⟨_, _, .cell (some (.ref D)), _⟩ => D == C
  | _ => false
theorem cellB_ok {K : PySem.W.Frag} {c C : Addr} (h : cellB K c C = true) : ∃ cl cld csl, K.lookup c = some ⟨cl, cld, .cell (some (.ref C)), csl⟩ := by
  unfold cellB at h
  split at h
  · rename_i cl cld D csl ho
    rw [beq_iff_eq.mp h] at ho
    exact ⟨_, _, _, ho⟩
  · cases h
/-- defaults, their items told -/
def DfI (K : PySem.W.Frag) (dV : Value) (dvs : List V) (its : List Value) : Prop := (dvs = [] ∧ dV = .none ∧ its = []) ∨ (dvs ≠ [] ∧ ∃ (T : Addr) (o : Obj) (n : Nat), dV = .ref T ∧ K.lookup T = some o ∧ o.data = .seq its.toArray n)
theorem DfI.of {K : PySem.W.Frag} {dV : Value} {dvs : List V} (h : DflV K dV dvs) : ∃ its, DfI K dV dvs its ∧ Vals dvs its := by
  rcases h with ⟨rfl, rfl⟩ | ⟨hn, T, o, its, n, h1, h2, h3, h4⟩
  · exact ⟨[], .inl ⟨rfl, rfl, rfl⟩, .nil⟩
  · exact ⟨its, .inr ⟨hn, T, o, n, h1, h2, h3⟩, h4⟩
/-- what is asked of any error class -/
def ercB (K : PySem.W.Frag) (x : Str) : Bool := He.eqO (PySem.W.nsIn K mainGlobals x) (some (some (.ref (He.ga K x)))) && (excB K (He.ga K x) && (He.eqO (PySem.W.findIn K (.ref (He.ga K x)) "__init__") (some (some (.ref (He.ma K (He.ga K x) "__init__")))) &&
  (decide (PySem.W.typeIn K (.ref (He.ma K (He.ga K x) "__init__")) = some (.type "function")) && (He.eqO (PySem.W.ks_superIn K (He.ga K x) (He.ga K x) "__init__") (some (some (.builtin "ValueError.__init__"))) &&
  (decide (PySem.W.subIn K (.ref (He.ga K x)) (.type "ValueError") = some true) && (decide (PySem.W.mroIn K (He.ga K x) (.ref (He.ga K x)) = some true) && (PySem.W.keepIn K (.ref (He.ga K x)) &&
  (decide (PySem.W.subIn K (.ref (He.ga K x)) (.type "BaseException") = some true) && (PySem.W.hasDictIn K (He.ga K x) && (He.eqO (PySem.W.findIn K (.ref (He.ga K x)) "__getattribute__") (some (some (.builtin "BaseException.__getattribute__"))) &&
  (He.eqO (PySem.W.findIn K (.ref (He.ga K x)) "__getattr__") (some none) && (He.eqO (PySem.W.findIn K (.ref (He.ga K x)) "__class__") (some (some (.builtin "object.__class__"))) && (decide (PySem.W.mroIn K (He.ga K x) (.type "object") = some true) &&
  (decide (PySem.W.subIn K (.ref (He.ga K x)) (.ref (He.ga K "TapeError")) = some true) && (decide (PySem.W.kitOne K (.ref (He.ga K x)) (.type "ValueError") = some true) && (decide (PySem.W.typeIn K (.ref (He.ga K x)) = some (.type "type")) &&
  He.eqO (PySem.W.findIn K (.ref (He.ga K x)) "__setattr__") (some (some (.builtin "object.__setattr__")))))))))))))))))))
structure ErcOk (K : PySem.W.Frag) (x : Str) : Prop where
  a : PySem.W.nsIn K mainGlobals x = some (some (.ref (He.ga K x)))
  cls : ∃ nm q N bs bm sn sub ab col dd k0 k1 k2 k3 k5, K.lookup (He.ga K x) = some (excClassObj nm q (He.ga K x) N bs bm true sn sub ab col dd k0 k1 k2 k3 k5 "ValueError.__new__") ∧ PySem.HandSPX.refsVE bm = true
  iC : PySem.W.findIn K (.ref (He.ga K x)) "__init__" = some (some (.ref (He.ma K (He.ga K x) "__init__")))
  tI : PySem.W.typeIn K (.ref (He.ma K (He.ga K x) "__init__")) = some (.type "function")
  sup : PySem.W.ks_superIn K (He.ga K x) (He.ga K x) "__init__" = some (some (.builtin "ValueError.__init__"))
  sB : PySem.W.subIn K (.ref (He.ga K x)) (.type "ValueError") = some true
  mC : PySem.W.mroIn K (He.ga K x) (.ref (He.ga K x)) = some true
  kC : PySem.W.keepIn K (.ref (He.ga K x)) = true
  bE : PySem.W.subIn K (.ref (He.ga K x)) (.type "BaseException") = some true
  hd : PySem.W.hasDictIn K (He.ga K x) = true
  ga : PySem.W.findIn K (.ref (He.ga K x)) "__getattribute__" = some (some (.builtin "BaseException.__getattribute__"))
  gg : PySem.W.findIn K (.ref (He.ga K x)) "__getattr__" = some none
  cc : PySem.W.findIn K (.ref (He.ga K x)) "__class__" = some (some (.builtin "object.__class__"))
  cm : PySem.W.mroIn K (He.ga K x) (.type "object") = some true
  te : PySem.W.subIn K (.ref (He.ga K x)) (.ref (He.ga K "TapeError")) = some true
  ve : PySem.W.kitOne K (.ref (He.ga K x)) (.type "ValueError") = some true
  tC : PySem.W.typeIn K (.ref (He.ga K x)) = some (.type "type")
  sa : PySem.W.findIn K (.ref (He.ga K x)) "__setattr__" = some (some (.builtin "object.__setattr__"))
theorem ercB_ok {K : PySem.W.Frag} {x : Str} (h : ercB K x = true) : ErcOk K x := by
  unfold ercB at h
  simp only [Bool.and_eq_true, decide_eq_true_eq, He.eqO] at h
  obtain ⟨h1, h2, h3, h4, h5, h6, h7, h8, h9, h10, h11, h12, h13, h14, h15, h16, h17, h18⟩ := h
  exact ⟨h1, excB_ok h2, h3, h4, h5, h6, h7, h8, h9, h10, h11, h12, h13, h14, h15, h16, h17, h18⟩
/-- what all errors share -/
def errsB (K : PySem.W.Frag) : Bool := He.eqO (PySem.W.nsIn K mainGlobals "super") (some none) && (He.eqO (PySem.W.nsIn K cStatics "thirdparty.any") (some none) && (He.eqO (PySem.W.specialIn K (.builtin "object.__class__") "__get__") (some (some (.builtin "getset_descriptor.__get__"))) &&
  (decide (PySem.W.takesIn K (.builtin "object.__class__") = some true) && (PySem.W.hasDictIn K (He.ga K "TapeError") && (decide (PySem.W.typeIn K (.ref (He.ga K "TapeError")) = some (.type "type")) && (decide (PySem.W.subIn K (.ref (He.ga K "TapeError")) (.type "BaseException") = some true) &&
  He.eqO (PySem.W.nsIn K mainGlobals "TapeError") (some (some (.ref (He.ga K "TapeError"))))))))))
structure ErrsOk (K : PySem.W.Frag) : Prop where
  nS : PySem.W.nsIn K mainGlobals "super" = some none
  tp : PySem.W.nsIn K cStatics "thirdparty.any" = some none
  cg : PySem.W.specialIn K (.builtin "object.__class__") "__get__" = some (some (.builtin "getset_descriptor.__get__"))
  ct : PySem.W.takesIn K (.builtin "object.__class__") = some true
  td : PySem.W.hasDictIn K (He.ga K "TapeError") = true
  tt : PySem.W.typeIn K (.ref (He.ga K "TapeError")) = some (.type "type")
  tb : PySem.W.subIn K (.ref (He.ga K "TapeError")) (.type "BaseException") = some true
  ta : PySem.W.nsIn K mainGlobals "TapeError" = some (some (.ref (He.ga K "TapeError")))
theorem errsB_ok {K : PySem.W.Frag} (h : errsB K = true) : ErrsOk K := by
  unfold errsB at h
  simp only [Bool.and_eq_true, decide_eq_true_eq, He.eqO] at h
  obtain ⟨h1, h2, h3, h4, h5, h6, h7, h8⟩ := h
  exact ⟨h1, h2, h3, h4, h5, h6, h7, h8⟩
theorem ErcOk.exc {K : PySem.W.Frag} {x : Str} (c : ErcOk K x) (g : ErrsOk K) : ExcC K (He.ga K x) := ⟨c.ga, c.gg, c.bE, c.hd, c.cc, g.cg, g.ct, c.cm⟩
theorem ErcOk.tape {K : PySem.W.Frag} {x : Str} (c : ErcOk K x) (g : ErrsOk K) : PySem.W.kitOne K (.ref (He.ga K x)) (.ref (He.ga K "TapeError")) = some true := kit_ref ⟨cls_some g.td, g.tt⟩ c.te fun _ => rfl
/-- an error's __init__ -/
def iniB (K : PySem.W.Frag) (file x qual : Str) (fs : List Str) (dvs : List V) : Bool := (match K.lookup (He.ma K (He.ga K x) "__init__") with
  | some ⟨_, _, .func fd, _⟩ => (match fd.closure, fd.code with
    | [(n, cc)], .ref cda => decide (n = "__class__") && (PySem.W.codeIn K (.ref cda) qual && (fileB K cda file && (cellB K cc (He.ga K x) && He.dflB K fd.defaults dvs)))
    | _, _ => false)
  | _ => false) && (fs.all fun f => He.eqO (PySem.W.findIn K (.ref (He.ga K x)) f) (some none))
theorem iniB_ok {K : PySem.W.Frag} {file x qual : Str} {fs : List Str} {dvs : List V} {params : Arguments} {body : List Stmt} {scope : Scope} (c : iniB K file x qual fs dvs = true) (e : fnY K (He.ma K (He.ga K x) "__init__") = (some (("__init__" : Str), qual, params, FuncBody.stmts body, scope, mainGlobals, builtinsNs) : FnY)) :
    (∃ (oc : Value) (od : Option Addr) (osl : Array (Option Value)) (dV kV doc pm : Value) (an : Option Addr) (cda : Addr) (ct : Value) (cc : Addr) (its : List Value),
      K.lookup (He.ma K (He.ga K x) "__init__") = some ⟨oc, od, .func (PySem.W.ksFn "__init__" qual params body scope dV kV doc pm an (.ref cda) ct cc), osl⟩ ∧ PySem.W.codeIn K (.ref cda) qual = true ∧
      (∃ ccl cdd vs ccs f tf, K.lookup cda = some ⟨ccl, cdd, .fields vs, ccs⟩ ∧ vs[2]? = some (.str f tf) ∧ (file == f) = true) ∧ (∃ cl cld csl, K.lookup cc = some ⟨cl, cld, .cell (some (.ref (He.ga K x))), csl⟩) ∧ DfI K dV dvs its ∧ Vals dvs its) ∧
    ∀ f ∈ fs, PySem.W.findIn K (.ref (He.ga K x)) f = some none := by
  obtain ⟨c1, c2⟩ := He.ba c
  refine ⟨?_, fun f hf => He.eqO_ok (List.all_eq_true.mp c2 f hf)⟩
  unfold fnY at e
  cases q : K.lookup (He.ma K (He.ga K x) "__init__") with
  | none =>
    rw [q] at c1
    cases c1
  | some o =>
    obtain ⟨oc, od, dt, osl⟩ := o
    rw [q] at c1 e
    cases dt with
    | func fd =>
      obtain ⟨n1, n2, n3, n4, n5, n6, n7, n8, n9, n10, n11, n12, n13, n14, n15⟩ := fd
      have e2 : (some (n1, n2, n3, n4, n5, n6, n15) : FnY) = some (("__init__" : Str), qual, params, FuncBody.stmts body, scope, mainGlobals, builtinsNs) := e
      simp only [Option.some.injEq, Prod.mk.injEq] at e2
      obtain ⟨h1, h2, h3, h4, h5, h6, h8⟩ := e2
      subst h1 h2 h3 h4 h5 h6 h8
      dsimp only at c1
      split at c1
      · rename_i n cc cda
        obtain ⟨k0, c1⟩ := He.ba c1
        obtain ⟨k1, c1⟩ := He.ba c1
        obtain ⟨k2, c1⟩ := He.ba c1
        obtain ⟨k3, k4⟩ := He.ba c1
        have en := of_decide_eq_true k0
        subst en
        obtain ⟨its, hi, hv⟩ := DfI.of (He.dflB_ok k4)
        exact ⟨oc, od, osl, n8, n9, n10, n11, n12, cda, n14, cc, its, rfl, k1, fileB_ok k2, cellB_ok k3, hi, hv⟩
      · cases c1
    | _ => cases c1
section
variable {P : Program} {K : PySem.W.Frag} {h : Heap} {mg : Str → Option Value} {x f qual : Str} {fs : List Str} {dvs : List V} {params : Arguments} {body : List Stmt} {scope : Scope}
open PySem.TPX in
theorem errV_of (X : K.In h) (G : h.Ns mainGlobals mg) (hP : (P.main.scope.names.lookup ("super" : Str)).isSome = false) (g : ErrsOk K) (c : ErcOk K x) (i : iniB K P.main.file x qual fs dvs = true)
    (e : fnY K (He.ma K (He.ga K x) "__init__") = (some (("__init__" : Str), qual, params, FuncBody.stmts body, scope, mainGlobals, builtinsNs) : FnY)) (hf : f ∈ fs) (hpar : ∃ ar : Arg, (params.posonlyargs ++ params.args).head? = some ar ∧ ar.arg = "self") (S : IniS fs scope)
    (hb : (∃ f q1 q2 q3 q4 q5 q6 r1 r2 r3 r4, (q3.endLine == q5.line) = true ∧ fs = [f] ∧ body = [supS f q1 q2 q3 q4 q5 q6, keepS f r1 r2 r3 r4]) ∨
      (∃ f g q1 q2 q3 q4 q5 q6 r1 r2 r3 r4 p1 p2 p3 p4, (q3.endLine == q5.line) = true ∧ fs = [f, g] ∧ f ≠ g ∧ body = [supS f q1 q2 q3 q4 q5 q6, keepS f r1 r2 r3 r4, keepS g p1 p2 p3 p4]))
    (b1 : ∀ (dV kV doc pm : Value) (an : Option Addr) (cdv ct : Value) (cc : Addr) (its : List Value), DfI K dV dvs its → Vals dvs its → ∀ (s : Shared) (x : Addr) (us : List Value), K.In s.heap → us.length = 1 → BindsTo s (PySem.W.ksFn "__init__" qual params body scope dV kV doc pm an cdv ct cc) ⟨.ref x :: us, []⟩ (("self", .ref x) :: fs.zip (us ++ its)))
    (b2 : ∀ (dV kV doc pm : Value) (an : Option Addr) (cdv ct : Value) (cc : Addr) (its : List Value), DfI K dV dvs its → Vals dvs its → ∀ (s : Shared) (x : Addr) (ws : List Value), K.In s.heap → ws.length = 1 → BindsTo s (PySem.W.ksFn "__init__" qual params body scope dV kV doc pm an cdv ct cc) ⟨[.ref x], [f].zip ws⟩ (("self", .ref x) :: fs.zip (ws ++ its))) :
    ErrV P K mg x f fs dvs (He.ga K "TapeError") (He.ga K x) := by
  obtain ⟨⟨oc, od, osl, dV, kV, doc, pm, an, cda, ct, cc, its, lk, hcd, hfile, hcell, hdf, hv⟩, nof⟩ := iniB_ok i e
  have T : ErrK P K fs (He.ga K x) (He.ma K (He.ga K x) "__init__") (PySem.W.ksFn "__init__" qual params body scope dV kV doc pm an (.ref cda) ct cc) :=
    ⟨c.cls, c.sa, c.iC, c.tI, c.sup, c.sB, c.mC, g.nS, g.tp, hP, nof, oc, od, osl, qual, params, body, scope, dV, kV, doc, pm, an, cda, ct, cc, rfl, lk, hcd, hfile, hcell, hpar, S, hb⟩
  have m := PySem.W.mg_of X G c.a
  exact ⟨⟨⟨_, _, its, T, hv, b1 _ _ _ _ _ _ _ _ _ hdf hv⟩, m, c.kC⟩, ⟨⟨_, _, its, T, hv, b2 _ _ _ _ _ _ _ _ _ hdf hv⟩, m, c.kC⟩, ⟨c.ga, c.gg, c.bE, c.hd⟩, nof f hf, c.exc g, c.tape g, c.ve⟩
open PySem.TPX in
theorem errZ_of (X : K.In h) (G : h.Ns mainGlobals mg) (hP : (P.main.scope.names.lookup ("super" : Str)).isSome = false) (g : ErrsOk K) (c : ErcOk K x) (i : iniB K P.main.file x qual [] [] = true)
    (e : fnY K (He.ma K (He.ga K x) "__init__") = (some (("__init__" : Str), qual, params, FuncBody.stmts body, scope, mainGlobals, builtinsNs) : FnY)) (hpar : ∃ ar : Arg, (params.posonlyargs ++ params.args).head? = some ar ∧ ar.arg = "self") (S : IniS [] scope)
    (hb : ∃ q1 q2 q3 q5 q6, (q3.endLine == q5.line) = true ∧ body = [supS0 q1 q2 q3 q5 q6])
    (b1 : ∀ (dV kV doc pm : Value) (an : Option Addr) (cdv ct : Value) (cc : Addr), dV = .none → ∀ (s : Shared) (x : Addr), K.In s.heap → BindsTo s (PySem.W.ksFn "__init__" qual params body scope dV kV doc pm an cdv ct cc) ⟨[.ref x], []⟩ [("self", .ref x)]) :
    ErrZ P K mg x (He.ga K "TapeError") (He.ga K x) := by
  obtain ⟨⟨oc, od, osl, dV, kV, doc, pm, an, cda, ct, cc, its, lk, hcd, hfile, hcell, hdf, hv⟩, nof⟩ := iniB_ok i e
  have dn : dV = .none := by
    rcases hdf with ⟨_, z, _⟩ | ⟨hn, _⟩
    · exact z
    · exact absurd rfl hn
  have T : ErrK0 P K (He.ga K x) (He.ma K (He.ga K x) "__init__") (PySem.W.ksFn "__init__" qual params body scope dV kV doc pm an (.ref cda) ct cc) :=
    ⟨c.cls, c.iC, c.tI, c.sup, c.sB, c.mC, g.nS, g.tp, hP, oc, od, osl, qual, params, body, scope, dV, kV, doc, pm, an, cda, ct, cc, rfl, lk, hcd, hfile, hcell, hpar, S, hb⟩
  exact ⟨⟨⟨_, _, T, b1 _ _ _ _ _ _ _ _ dn⟩, PySem.W.mg_of X G c.a, c.kC⟩, c.exc g, c.tape g, c.ve⟩
end
/-! ### the law's end -/
theorem walkLE {l : PySem.W.OpenLaw} {n k : Nat} {q : Program} {loose : List Str} {XP : (Str → Option Value) → Heap → Prop} {YP : World → Heap → Prop} {d : DefRec} {CX : CXT} {x : Str}
    (hn : l.most = some n) (hn2 : n ≤ sizeLine) (hdf : d.params.defaults = []) (hr : Room k callerA) (hi : importsNone q = true)
    (F : ∀ (w : World) (mg : Str → Option Value) (fa : Addr) (h : Heap), YP w h → (∀ d ∈ recsOf q, ∃ a o fd c P, mg d.name = some (.ref a) ∧ h.get? a = some o ∧ o.data = .func fd ∧ fd.code = .ref c ∧ h.IsCode c P #[] ∧ h.TableAt c P #[]) →
      h.Ns mainGlobals mg → mg d.name = some (.ref fa) → ∃ K : PySem.W.Frag, K.In h ∧ K.lookup sysModules = none ∧ LawL l w K CX k n x mg fa h)
    (hCX : ∀ (H : Hp) (s : Shared) (e : Value) (s' : Shared), CX [] H s (fun _ _ _ => False) e s' → False) :
    PySem.W.WalkO q loose XP YP l.row.toRowW d [] (fun f vs => PySem.call f vs) := by
  refine Att.attach_callB hn hdf fun w s0 s1 mg mb fa o pm cd doc a vs ns G Y ho hd hcd hmg hobj hints hlen hbits hg => ?_
  obtain ⟨K, KX, hm, fd, cs, sp, hT, nT, C, hb, hsp, hF⟩ := F w mg fa _ Y G.T.tab G.T.g hmg
  obtain ⟨mm, hmm, _⟩ := (G.T.seer hi).mods
  exact law_callL ⟨KX, G.T.g, G.T.b, G.T.builtins, G.T.nolimit, hT, nT, C, G.T.bmain, ⟨mm, hmm⟩, hm⟩ hobj hints (Nat.le_trans hlen hn2) hg hr hF hb (fun H oS h1 h2 h3 => hsp H oS a ns hlen h1 h2 h3) fun H e s' => hCX H s1 e s'
end L2.TP

/-! Layer X: rules with the written part said by its name (for use within comprehensions). -/
namespace L2.TP
open PySem PySem.Spec PyProof.Rows
section
variable {X : Cx} {K : PySem.W.Frag}
theorem call_isWK (h : X.K = K) : CallR X (.builtin "isinstance") (rIsW K) := by
  subst h
  exact call_isW
theorem call_isiK (h : X.K = K) : CallR X (.builtin "isinstance") (rIsi K) := by
  subst h
  exact call_isi
theorem pe_xfVK {e : Expr} {te : TE} {pos : Pos} {n : Str} (h : X.K = K) (he : PE X e te) (hb : attributeBase e n X.env (eval e X.env) = eval e X.env := by rfl) : PE X (.Attribute e n pos) (tXfV K n te) := by
  subst h
  exact pe_xfV he hb
theorem ix_listK (h : X.K = K) : IxR X (rIxL K) := by
  subst h
  exact ix_list
theorem ix_tupK (h : X.K = K) : IxR X (rIxT K) := by
  subst h
  exact ix_tup
end
end L2.TP

namespace K99
open PySem PySem.Spec PyProof.Rows L2 L2.TP
def topS (i : Nat) : Stmt := PySem.Challenge.pw_tapedonce_k99_errors_made_with_any_value.main.body.getD i (.Pass ⟨0, 0, 0, 0⟩)
/-- each of the classes Cs is a subclass of itself alone -/
def marksB (K : PySem.W.Frag) (Cs : List Addr) : Bool := Cs.all fun D => Cs.all fun C => PySem.W.kitOne K (.ref D) (.ref C) == some (D == C)
abbrev s__law_pot : Stmt := topS 39
abbrev N__law_pot : List Str := ["_law_script", "_law_k", "_law_cell", "_law_mine"]
theorem sc__law_pot : FnScope N__law_pot ["_law_script", "_law_k"] (defScope s__law_pot) := ⟨rfl, rfl, rfl, by decide +kernel, rfl, by decide +kernel, by decide +kernel⟩
abbrev s__law_take : Stmt := topS 40
abbrev N__law_take : List Str := ["_law_pot_here", "_law_upto", "_law_digit", "_law_prime", "_law_mixed"]
theorem sc__law_take : FnScope N__law_take ["_law_pot_here", "_law_upto"] (defScope s__law_take) := ⟨rfl, rfl, rfl, by decide +kernel, rfl, by decide +kernel, by decide +kernel⟩
abbrev s__law_of : Stmt := topS 41
abbrev N__law_of : List Str := ["_law_pot_here", "_law_some"]
theorem sc__law_of : FnScope N__law_of ["_law_pot_here", "_law_some"] (defScope s__law_of) := ⟨rfl, rfl, rfl, by decide +kernel, rfl, by decide +kernel, by decide +kernel⟩
abbrev s__law_any : Stmt := topS 42
abbrev N__law_any : List Str := ["_law_pot_here", "_law_some", "_law_found", "_law_turn"]
theorem sc__law_any : FnScope N__law_any ["_law_pot_here"] (defScope s__law_any) := ⟨rfl, rfl, rfl, by decide +kernel, rfl, by decide +kernel, by decide +kernel⟩
abbrev s__law_made : Stmt := topS 43
abbrev N__law_made : List Str := ["_law_thing", "_law_found"]
theorem sc__law_made : FnScope N__law_made ["_law_thing"] (defScope s__law_made) := ⟨rfl, rfl, rfl, by decide +kernel, rfl, by decide +kernel, by decide +kernel⟩
abbrev s__law_made_by_name : Stmt := topS 44
abbrev N__law_made_by_name : List Str := ["_law_thing", "_law_found"]
theorem sc__law_made_by_name : FnScope N__law_made_by_name ["_law_thing"] (defScope s__law_made_by_name) := ⟨rfl, rfl, rfl, by decide +kernel, rfl, by decide +kernel, by decide +kernel⟩
abbrev s__law_first_marks : Stmt := topS 45
abbrev N__law_first_marks : List Str := ["_law_e", "_law_found"]
theorem sc__law_first_marks : FnScope N__law_first_marks ["_law_e"] (defScope s__law_first_marks) := ⟨rfl, rfl, rfl, by decide +kernel, rfl, by decide +kernel, by decide +kernel⟩
abbrev s__law_later_marks : Stmt := topS 46
abbrev N__law_later_marks : List Str := ["_law_e", "_law_found"]
theorem sc__law_later_marks : FnScope N__law_later_marks ["_law_e"] (defScope s__law_later_marks) := ⟨rfl, rfl, rfl, by decide +kernel, rfl, by decide +kernel, by decide +kernel⟩
abbrev s__law_marks : Stmt := topS 47
abbrev N__law_marks : List Str := ["_law_error", "_law_place", "_law_is_so"]
theorem sc__law_marks : FnScope N__law_marks ["_law_error"] (defScope s__law_marks) := ⟨rfl, rfl, rfl, by decide +kernel, rfl, by decide +kernel, by decide +kernel⟩
abbrev s__law_others : Stmt := topS 48
abbrev N__law_others : List Str := ["_law_thing", "_law_found"]
theorem sc__law_others : FnScope N__law_others ["_law_thing"] (defScope s__law_others) := ⟨rfl, rfl, rfl, by decide +kernel, rfl, by decide +kernel, by decide +kernel⟩
abbrev s__law_right : Stmt := topS 49
abbrev N__law_right : List Str := ["_law_pot_here", "_law_thing", "_law_before", "_law_errors", "_law_trios", "_law_named", "_law_rest", "_law_trio", "_law_error", "_law_place"]
theorem sc__law_right : FnScope N__law_right ["_law_pot_here"] (defScope s__law_right) := ⟨rfl, rfl, rfl, by decide +kernel, rfl, by decide +kernel, by decide +kernel⟩
abbrev s_law : Stmt := topS 50
abbrev N_law : List Str := ["_law_script", "_law_k", "_law_pot_here", "_law_turn"]
theorem sc_law : FnScope N_law ["_law_script"] (defScope s_law) := ⟨rfl, rfl, rfl, by decide +kernel, rfl, by decide +kernel, by decide +kernel⟩
structure Tx (P : Program) (K : PySem.W.Frag) (mg : Str → Option Value) where
  mods : K.lookup sysModules = none
  C_BadSize : Addr
  BadSize_mg : mg "BadSize" = some (.ref C_BadSize)
  C_BadWorth : Addr
  BadWorth_mg : mg "BadWorth" = some (.ref C_BadWorth)
  C_BadMost : Addr
  BadMost_mg : mg "BadMost" = some (.ref C_BadMost)
  C_BadItems : Addr
  BadItems_mg : mg "BadItems" = some (.ref C_BadItems)
  C_BadWorld : Addr
  BadWorld_mg : mg "BadWorld" = some (.ref C_BadWorld)
  C_BadSetup : Addr
  BadSetup_mg : mg "BadSetup" = some (.ref C_BadSetup)
  C_BadStand : Addr
  BadStand_mg : mg "BadStand" = some (.ref C_BadStand)
  C_BadDeed : Addr
  BadDeed_mg : mg "BadDeed" = some (.ref C_BadDeed)
  C_BadPlan : Addr
  BadPlan_mg : mg "BadPlan" = some (.ref C_BadPlan)
  C_BadKinds : Addr
  BadKinds_mg : mg "BadKinds" = some (.ref C_BadKinds)
  C_BadSteps : Addr
  BadSteps_mg : mg "BadSteps" = some (.ref C_BadSteps)
  C_BadEnd : Addr
  BadEnd_mg : mg "BadEnd" = some (.ref C_BadEnd)
  C_NoWork : Addr
  NoWork_mg : mg "NoWork" = some (.ref C_NoWork)
  C_BadValues : Addr
  BadValues_mg : mg "BadValues" = some (.ref C_BadValues)
  C_BadState : Addr
  BadState_mg : mg "BadState" = some (.ref C_BadState)
  C_BadTape : Addr
  BadTape_mg : mg "BadTape" = some (.ref C_BadTape)
  C_BadStory : Addr
  BadStory_mg : mg "BadStory" = some (.ref C_BadStory)
  C_BadNames : Addr
  BadNames_mg : mg "BadNames" = some (.ref C_BadNames)
  C_BadPrices : Addr
  BadPrices_mg : mg "BadPrices" = some (.ref C_BadPrices)
  C_BadDoing : Addr
  BadDoing_mg : mg "BadDoing" = some (.ref C_BadDoing)
  C_NoKey : Addr
  NoKey_mg : mg "NoKey" = some (.ref C_NoKey)
  C_BadChecks : Addr
  BadChecks_mg : mg "BadChecks" = some (.ref C_BadChecks)
  C_BadPlace : Addr
  BadPlace_mg : mg "BadPlace" = some (.ref C_BadPlace)
  C_NoTape : Addr
  NoTape_mg : mg "NoTape" = some (.ref C_NoTape)
  C_NoName : Addr
  NoName_mg : mg "NoName" = some (.ref C_NoName)
  C_BadThing : Addr
  BadThing_mg : mg "BadThing" = some (.ref C_BadThing)
  C_BadRoom : Addr
  BadRoom_mg : mg "BadRoom" = some (.ref C_BadRoom)
  C_BadCommand : Addr
  BadCommand_mg : mg "BadCommand" = some (.ref C_BadCommand)
  C_Fault : Addr
  Fault_mg : mg "Fault" = some (.ref C_Fault)
  C_TooMany : Addr
  TooMany_mg : mg "TooMany" = some (.ref C_TooMany)
  C_BadLine : Addr
  BadLine_mg : mg "BadLine" = some (.ref C_BadLine)
  C_BadBytes : Addr
  BadBytes_mg : mg "BadBytes" = some (.ref C_BadBytes)
  C_Wrong : Addr
  Wrong_mg : mg "Wrong" = some (.ref C_Wrong)
  C_Empty : Addr
  Empty_mg : mg "Empty" = some (.ref C_Empty)
  C_NothingToUndo : Addr
  NothingToUndo_mg : mg "NothingToUndo" = some (.ref C_NothingToUndo)
  C_NothingToRedo : Addr
  NothingToRedo_mg : mg "NothingToRedo" = some (.ref C_NothingToRedo)
  C_TapeError : Addr
  TapeError_mg : mg "TapeError" = some (.ref C_TapeError)
  TapeError_ex : ∀ D : Addr, ∀ b : Bool, PySem.W.subIn K (.ref D) (.ref C_TapeError) = some b → PySem.W.exmOne K (.ref D) (.ref C_TapeError) = some b
  TapeError_ki : ∀ D : Addr, PySem.W.subIn K (.ref D) (.ref C_TapeError) = some true → PySem.W.kitOne K (.ref D) (.ref C_TapeError) = some true
  F__law_pot : Addr
  fd__law_pot : FuncData
  _law_pot_ok : Fun K "_law_pot" "_law_pot" s__law_pot F__law_pot fd__law_pot
  b__law_pot : Binds K fd__law_pot ["_law_script", "_law_k"] []
  _law_pot_mg : mg "_law_pot" = some (.ref F__law_pot)
  F__law_take : Addr
  fd__law_take : FuncData
  _law_take_ok : Fun K "_law_take" "_law_take" s__law_take F__law_take fd__law_take
  b__law_take : Binds K fd__law_take ["_law_pot_here", "_law_upto"] []
  _law_take_mg : mg "_law_take" = some (.ref F__law_take)
  F__law_of : Addr
  fd__law_of : FuncData
  _law_of_ok : Fun K "_law_of" "_law_of" s__law_of F__law_of fd__law_of
  b__law_of : Binds K fd__law_of ["_law_pot_here", "_law_some"] []
  _law_of_mg : mg "_law_of" = some (.ref F__law_of)
  F__law_any : Addr
  fd__law_any : FuncData
  _law_any_ok : Fun K "_law_any" "_law_any" s__law_any F__law_any fd__law_any
  b__law_any : Binds K fd__law_any ["_law_pot_here"] []
  _law_any_mg : mg "_law_any" = some (.ref F__law_any)
  F__law_made : Addr
  fd__law_made : FuncData
  _law_made_ok : Fun K "_law_made" "_law_made" s__law_made F__law_made fd__law_made
  b__law_made : Binds K fd__law_made ["_law_thing"] []
  _law_made_mg : mg "_law_made" = some (.ref F__law_made)
  F__law_made_by_name : Addr
  fd__law_made_by_name : FuncData
  _law_made_by_name_ok : Fun K "_law_made_by_name" "_law_made_by_name" s__law_made_by_name F__law_made_by_name fd__law_made_by_name
  b__law_made_by_name : Binds K fd__law_made_by_name ["_law_thing"] []
  _law_made_by_name_mg : mg "_law_made_by_name" = some (.ref F__law_made_by_name)
  F__law_first_marks : Addr
  fd__law_first_marks : FuncData
  _law_first_marks_ok : Fun K "_law_first_marks" "_law_first_marks" s__law_first_marks F__law_first_marks fd__law_first_marks
  b__law_first_marks : Binds K fd__law_first_marks ["_law_e"] []
  _law_first_marks_mg : mg "_law_first_marks" = some (.ref F__law_first_marks)
  F__law_later_marks : Addr
  fd__law_later_marks : FuncData
  _law_later_marks_ok : Fun K "_law_later_marks" "_law_later_marks" s__law_later_marks F__law_later_marks fd__law_later_marks
  b__law_later_marks : Binds K fd__law_later_marks ["_law_e"] []
  _law_later_marks_mg : mg "_law_later_marks" = some (.ref F__law_later_marks)
  F__law_marks : Addr
  fd__law_marks : FuncData
  _law_marks_ok : Fun K "_law_marks" "_law_marks" s__law_marks F__law_marks fd__law_marks
  b__law_marks : Binds K fd__law_marks ["_law_error"] []
  _law_marks_mg : mg "_law_marks" = some (.ref F__law_marks)
  F__law_others : Addr
  fd__law_others : FuncData
  _law_others_ok : Fun K "_law_others" "_law_others" s__law_others F__law_others fd__law_others
  b__law_others : Binds K fd__law_others ["_law_thing"] []
  _law_others_mg : mg "_law_others" = some (.ref F__law_others)
  F__law_right : Addr
  fd__law_right : FuncData
  _law_right_ok : Fun K "_law_right" "_law_right" s__law_right F__law_right fd__law_right
  b__law_right : Binds K fd__law_right ["_law_pot_here"] []
  _law_right_mg : mg "_law_right" = some (.ref F__law_right)
  F_law : Addr
  fd_law : FuncData
  law_ok : Fun K "law" "law" s_law F_law fd_law
  b_law : Binds K fd_law ["_law_script"] []
  law_mg : mg "law" = some (.ref F_law)
  BadSize_ev : ErrV P K mg "BadSize" "value" ["value"] [] C_TapeError C_BadSize
  BadWorth_ev : ErrV P K mg "BadWorth" "value" ["value"] [] C_TapeError C_BadWorth
  BadMost_ev : ErrV P K mg "BadMost" "value" ["value"] [] C_TapeError C_BadMost
  BadItems_ev : ErrV P K mg "BadItems" "value" ["value"] [] C_TapeError C_BadItems
  BadWorld_ev : ErrV P K mg "BadWorld" "value" ["value"] [] C_TapeError C_BadWorld
  BadSetup_ev : ErrV P K mg "BadSetup" "value" ["value"] [] C_TapeError C_BadSetup
  BadStand_ev : ErrV P K mg "BadStand" "value" ["value"] [] C_TapeError C_BadStand
  BadDeed_ev : ErrV P K mg "BadDeed" "value" ["value"] [] C_TapeError C_BadDeed
  BadPlan_ev : ErrV P K mg "BadPlan" "value" ["value"] [] C_TapeError C_BadPlan
  BadKinds_ev : ErrV P K mg "BadKinds" "value" ["value"] [] C_TapeError C_BadKinds
  BadSteps_ev : ErrV P K mg "BadSteps" "value" ["value"] [] C_TapeError C_BadSteps
  BadEnd_ev : ErrV P K mg "BadEnd" "value" ["value"] [] C_TapeError C_BadEnd
  NoWork_ev : ErrV P K mg "NoWork" "value" ["value"] [] C_TapeError C_NoWork
  BadValues_ev : ErrV P K mg "BadValues" "value" ["value"] [] C_TapeError C_BadValues
  BadState_ev : ErrV P K mg "BadState" "value" ["value"] [] C_TapeError C_BadState
  BadTape_ev : ErrV P K mg "BadTape" "value" ["value"] [] C_TapeError C_BadTape
  BadStory_ev : ErrV P K mg "BadStory" "value" ["value"] [] C_TapeError C_BadStory
  BadNames_ev : ErrV P K mg "BadNames" "value" ["value"] [] C_TapeError C_BadNames
  BadPrices_ev : ErrV P K mg "BadPrices" "value" ["value"] [] C_TapeError C_BadPrices
  BadDoing_ev : ErrV P K mg "BadDoing" "value" ["value"] [] C_TapeError C_BadDoing
  NoKey_ev : ErrV P K mg "NoKey" "value" ["value"] [] C_TapeError C_NoKey
  BadChecks_ev : ErrV P K mg "BadChecks" "value" ["value"] [] C_TapeError C_BadChecks
  BadPlace_ev : ErrV P K mg "BadPlace" "value" ["value"] [] C_TapeError C_BadPlace
  NoTape_ev : ErrV P K mg "NoTape" "value" ["value"] [] C_TapeError C_NoTape
  NoName_ev : ErrV P K mg "NoName" "value" ["value"] [] C_TapeError C_NoName
  BadThing_ev : ErrV P K mg "BadThing" "value" ["value"] [] C_TapeError C_BadThing
  BadRoom_ev : ErrV P K mg "BadRoom" "value" ["value"] [] C_TapeError C_BadRoom
  BadCommand_ev : ErrV P K mg "BadCommand" "value" ["value"] [] C_TapeError C_BadCommand
  Fault_ev : ErrV P K mg "Fault" "words" ["words", "what"] [.non] C_TapeError C_Fault
  TooMany_ev : ErrV P K mg "TooMany" "number" ["number"] [] C_TapeError C_TooMany
  BadLine_ev : ErrV P K mg "BadLine" "number" ["number"] [] C_TapeError C_BadLine
  BadBytes_ev : ErrV P K mg "BadBytes" "at" ["at"] [] C_TapeError C_BadBytes
  Wrong_ev : ErrV P K mg "Wrong" "story" ["story"] [] C_TapeError C_Wrong
  Empty_ev : ErrZ P K mg "Empty" C_TapeError C_Empty
  NothingToUndo_ev : ErrZ P K mg "NothingToUndo" C_TapeError C_NothingToUndo
  NothingToRedo_ev : ErrZ P K mg "NothingToRedo" C_TapeError C_NothingToRedo
  b_int : mg "int" = none
  b_bool : mg "bool" = none
  b_abs : mg "abs" = none
  b_len : mg "len" = none
  b_isinstance : mg "isinstance" = none
  b_repr : mg "repr" = none
  b_all : mg "all" = none
  b_range : mg "range" = none
  b_ValueError : mg "ValueError" = none
  b_enumerate : mg "enumerate" = none
  x_kerM : marksB K [C_BadSize, C_BadWorth, C_BadMost, C_BadItems, C_BadWorld, C_BadSetup, C_BadStand, C_BadDeed, C_BadPlan, C_BadKinds, C_BadSteps, C_BadEnd, C_NoWork, C_BadValues, C_BadState, C_BadTape, C_BadStory, C_BadNames, C_BadPrices, C_BadDoing, C_NoKey, C_BadChecks, C_BadPlace, C_NoTape, C_NoName, C_BadThing, C_BadRoom, C_BadCommand, C_Fault, C_TooMany, C_BadLine, C_BadBytes, C_Wrong, C_Empty, C_NothingToUndo, C_NothingToRedo] = true
  x_kerN : decide ([C_BadSize, C_BadWorth, C_BadMost, C_BadItems, C_BadWorld, C_BadSetup, C_BadStand, C_BadDeed, C_BadPlan, C_BadKinds, C_BadSteps, C_BadEnd, C_NoWork, C_BadValues, C_BadState, C_BadTape, C_BadStory, C_BadNames, C_BadPrices, C_BadDoing, C_NoKey, C_BadChecks, C_BadPlace, C_NoTape, C_NoName, C_BadThing, C_BadRoom, C_BadCommand, C_Fault, C_TooMany, C_BadLine, C_BadBytes, C_Wrong, C_Empty, C_NothingToUndo, C_NothingToRedo] : List Addr).Nodup = true
def FILE : Str := PySem.Challenge.pw_tapedonce_k99_errors_made_with_any_value.main.file
def chk : List (PySem.W.Frag → Bool) := [
  fun K => errsB K,
  fun K => (K.lookup sysModules).isNone,
  fun K => ercB K "BadSize",
  fun K => ercB K "BadWorth",
  fun K => ercB K "BadMost",
  fun K => ercB K "BadItems",
  fun K => ercB K "BadWorld",
  fun K => ercB K "BadSetup",
  fun K => ercB K "BadStand",
  fun K => ercB K "BadDeed",
  fun K => ercB K "BadPlan",
  fun K => ercB K "BadKinds",
  fun K => ercB K "BadSteps",
  fun K => ercB K "BadEnd",
  fun K => ercB K "NoWork",
  fun K => ercB K "BadValues",
  fun K => ercB K "BadState",
  fun K => ercB K "BadTape",
  fun K => ercB K "BadStory",
  fun K => ercB K "BadNames",
  fun K => ercB K "BadPrices",
  fun K => ercB K "BadDoing",
  fun K => ercB K "NoKey",
  fun K => ercB K "BadChecks",
  fun K => ercB K "BadPlace",
  fun K => ercB K "NoTape",
  fun K => ercB K "NoName",
  fun K => ercB K "BadThing",
  fun K => ercB K "BadRoom",
  fun K => ercB K "BadCommand",
  fun K => ercB K "Fault",
  fun K => ercB K "TooMany",
  fun K => ercB K "BadLine",
  fun K => ercB K "BadBytes",
  fun K => ercB K "Wrong",
  fun K => ercB K "Empty",
  fun K => ercB K "NothingToUndo",
  fun K => ercB K "NothingToRedo",
  fun K => fnB K (He.ga K "_law_pot") "_law_pot" [] [],
  fun K => He.eqO (PySem.W.nsIn K mainGlobals "_law_pot") (some (some (.ref (He.ga K "_law_pot")))),
  fun K => fnB K (He.ga K "_law_take") "_law_take" [] [],
  fun K => He.eqO (PySem.W.nsIn K mainGlobals "_law_take") (some (some (.ref (He.ga K "_law_take")))),
  fun K => fnB K (He.ga K "_law_of") "_law_of" [] [],
  fun K => He.eqO (PySem.W.nsIn K mainGlobals "_law_of") (some (some (.ref (He.ga K "_law_of")))),
  fun K => fnB K (He.ga K "_law_any") "_law_any" [] [],
  fun K => He.eqO (PySem.W.nsIn K mainGlobals "_law_any") (some (some (.ref (He.ga K "_law_any")))),
  fun K => fnB K (He.ga K "_law_made") "_law_made" [] [],
  fun K => He.eqO (PySem.W.nsIn K mainGlobals "_law_made") (some (some (.ref (He.ga K "_law_made")))),
  fun K => fnB K (He.ga K "_law_made_by_name") "_law_made_by_name" [] [],
  fun K => He.eqO (PySem.W.nsIn K mainGlobals "_law_made_by_name") (some (some (.ref (He.ga K "_law_made_by_name")))),
  fun K => fnB K (He.ga K "_law_first_marks") "_law_first_marks" [] [],
  fun K => He.eqO (PySem.W.nsIn K mainGlobals "_law_first_marks") (some (some (.ref (He.ga K "_law_first_marks")))),
  fun K => fnB K (He.ga K "_law_later_marks") "_law_later_marks" [] [],
  fun K => He.eqO (PySem.W.nsIn K mainGlobals "_law_later_marks") (some (some (.ref (He.ga K "_law_later_marks")))),
  fun K => fnB K (He.ga K "_law_marks") "_law_marks" [] [],
  fun K => He.eqO (PySem.W.nsIn K mainGlobals "_law_marks") (some (some (.ref (He.ga K "_law_marks")))),
  fun K => fnB K (He.ga K "_law_others") "_law_others" [] [],
  fun K => He.eqO (PySem.W.nsIn K mainGlobals "_law_others") (some (some (.ref (He.ga K "_law_others")))),
  fun K => fnB K (He.ga K "_law_right") "_law_right" [] [],
  fun K => He.eqO (PySem.W.nsIn K mainGlobals "_law_right") (some (some (.ref (He.ga K "_law_right")))),
  fun K => fnB K (He.ga K "law") "law" [] [],
  fun K => He.eqO (PySem.W.nsIn K mainGlobals "law") (some (some (.ref (He.ga K "law")))),
  fun K => iniB K FILE "BadSize" "BadSize.__init__" ["value"] [],
  fun K => iniB K FILE "BadWorth" "BadWorth.__init__" ["value"] [],
  fun K => iniB K FILE "BadMost" "BadMost.__init__" ["value"] [],
  fun K => iniB K FILE "BadItems" "BadItems.__init__" ["value"] [],
  fun K => iniB K FILE "BadWorld" "BadWorld.__init__" ["value"] [],
  fun K => iniB K FILE "BadSetup" "BadSetup.__init__" ["value"] [],
  fun K => iniB K FILE "BadStand" "BadStand.__init__" ["value"] [],
  fun K => iniB K FILE "BadDeed" "BadDeed.__init__" ["value"] [],
  fun K => iniB K FILE "BadPlan" "BadPlan.__init__" ["value"] [],
  fun K => iniB K FILE "BadKinds" "BadKinds.__init__" ["value"] [],
  fun K => iniB K FILE "BadSteps" "BadSteps.__init__" ["value"] [],
  fun K => iniB K FILE "BadEnd" "BadEnd.__init__" ["value"] [],
  fun K => iniB K FILE "NoWork" "NoWork.__init__" ["value"] [],
  fun K => iniB K FILE "BadValues" "BadValues.__init__" ["value"] [],
  fun K => iniB K FILE "BadState" "BadState.__init__" ["value"] [],
  fun K => iniB K FILE "BadTape" "BadTape.__init__" ["value"] [],
  fun K => iniB K FILE "BadStory" "BadStory.__init__" ["value"] [],
  fun K => iniB K FILE "BadNames" "BadNames.__init__" ["value"] [],
  fun K => iniB K FILE "BadPrices" "BadPrices.__init__" ["value"] [],
  fun K => iniB K FILE "BadDoing" "BadDoing.__init__" ["value"] [],
  fun K => iniB K FILE "NoKey" "NoKey.__init__" ["value"] [],
  fun K => iniB K FILE "BadChecks" "BadChecks.__init__" ["value"] [],
  fun K => iniB K FILE "BadPlace" "BadPlace.__init__" ["value"] [],
  fun K => iniB K FILE "NoTape" "NoTape.__init__" ["value"] [],
  fun K => iniB K FILE "NoName" "NoName.__init__" ["value"] [],
  fun K => iniB K FILE "BadThing" "BadThing.__init__" ["value"] [],
  fun K => iniB K FILE "BadRoom" "BadRoom.__init__" ["value"] [],
  fun K => iniB K FILE "BadCommand" "BadCommand.__init__" ["value"] [],
  fun K => iniB K FILE "Fault" "Fault.__init__" ["words", "what"] [.non],
  fun K => iniB K FILE "TooMany" "TooMany.__init__" ["number"] [],
  fun K => iniB K FILE "BadLine" "BadLine.__init__" ["number"] [],
  fun K => iniB K FILE "BadBytes" "BadBytes.__init__" ["at"] [],
  fun K => iniB K FILE "Wrong" "Wrong.__init__" ["story"] [],
  fun K => iniB K FILE "Empty" "Empty.__init__" [] [],
  fun K => iniB K FILE "NothingToUndo" "NothingToUndo.__init__" [] [],
  fun K => iniB K FILE "NothingToRedo" "NothingToRedo.__init__" [] [],
  fun K => He.eqO (PySem.W.nsIn K mainGlobals "int") (some none),
  fun K => He.eqO (PySem.W.nsIn K mainGlobals "bool") (some none),
  fun K => He.eqO (PySem.W.nsIn K mainGlobals "abs") (some none),
  fun K => He.eqO (PySem.W.nsIn K mainGlobals "len") (some none),
  fun K => He.eqO (PySem.W.nsIn K mainGlobals "isinstance") (some none),
  fun K => He.eqO (PySem.W.nsIn K mainGlobals "repr") (some none),
  fun K => He.eqO (PySem.W.nsIn K mainGlobals "all") (some none),
  fun K => He.eqO (PySem.W.nsIn K mainGlobals "range") (some none),
  fun K => He.eqO (PySem.W.nsIn K mainGlobals "ValueError") (some none),
  fun K => He.eqO (PySem.W.nsIn K mainGlobals "enumerate") (some none),
  fun K => decide (marksB K [(He.ga K "BadSize"), (He.ga K "BadWorth"), (He.ga K "BadMost"), (He.ga K "BadItems"), (He.ga K "BadWorld"), (He.ga K "BadSetup"), (He.ga K "BadStand"), (He.ga K "BadDeed"), (He.ga K "BadPlan"), (He.ga K "BadKinds"), (He.ga K "BadSteps"), (He.ga K "BadEnd"), (He.ga K "NoWork"), (He.ga K "BadValues"), (He.ga K "BadState"), (He.ga K "BadTape"), (He.ga K "BadStory"), (He.ga K "BadNames"), (He.ga K "BadPrices"), (He.ga K "BadDoing"), (He.ga K "NoKey"), (He.ga K "BadChecks"), (He.ga K "BadPlace"), (He.ga K "NoTape"), (He.ga K "NoName"), (He.ga K "BadThing"), (He.ga K "BadRoom"), (He.ga K "BadCommand"), (He.ga K "Fault"), (He.ga K "TooMany"), (He.ga K "BadLine"), (He.ga K "BadBytes"), (He.ga K "Wrong"), (He.ga K "Empty"), (He.ga K "NothingToUndo"), (He.ga K "NothingToRedo")] = true),
  fun K => decide (decide ([(He.ga K "BadSize"), (He.ga K "BadWorth"), (He.ga K "BadMost"), (He.ga K "BadItems"), (He.ga K "BadWorld"), (He.ga K "BadSetup"), (He.ga K "BadStand"), (He.ga K "BadDeed"), (He.ga K "BadPlan"), (He.ga K "BadKinds"), (He.ga K "BadSteps"), (He.ga K "BadEnd"), (He.ga K "NoWork"), (He.ga K "BadValues"), (He.ga K "BadState"), (He.ga K "BadTape"), (He.ga K "BadStory"), (He.ga K "BadNames"), (He.ga K "BadPrices"), (He.ga K "BadDoing"), (He.ga K "NoKey"), (He.ga K "BadChecks"), (He.ga K "BadPlace"), (He.ga K "NoTape"), (He.ga K "NoName"), (He.ga K "BadThing"), (He.ga K "BadRoom"), (He.ga K "BadCommand"), (He.ga K "Fault"), (He.ga K "TooMany"), (He.ga K "BadLine"), (He.ga K "BadBytes"), (He.ga K "Wrong"), (He.ga K "Empty"), (He.ga K "NothingToUndo"), (He.ga K "NothingToRedo")] : List Addr).Nodup = true)]
def fnl : List DfY := [
  ⟨fun K => (He.ga K "_law_pot"), "_law_pot", "_law_pot", defArgs s__law_pot, defBody s__law_pot, defScope s__law_pot⟩,
  ⟨fun K => (He.ga K "_law_take"), "_law_take", "_law_take", defArgs s__law_take, defBody s__law_take, defScope s__law_take⟩,
  ⟨fun K => (He.ga K "_law_of"), "_law_of", "_law_of", defArgs s__law_of, defBody s__law_of, defScope s__law_of⟩,
  ⟨fun K => (He.ga K "_law_any"), "_law_any", "_law_any", defArgs s__law_any, defBody s__law_any, defScope s__law_any⟩,
  ⟨fun K => (He.ga K "_law_made"), "_law_made", "_law_made", defArgs s__law_made, defBody s__law_made, defScope s__law_made⟩,
  ⟨fun K => (He.ga K "_law_made_by_name"), "_law_made_by_name", "_law_made_by_name", defArgs s__law_made_by_name, defBody s__law_made_by_name, defScope s__law_made_by_name⟩,
  ⟨fun K => (He.ga K "_law_first_marks"), "_law_first_marks", "_law_first_marks", defArgs s__law_first_marks, defBody s__law_first_marks, defScope s__law_first_marks⟩,
  ⟨fun K => (He.ga K "_law_later_marks"), "_law_later_marks", "_law_later_marks", defArgs s__law_later_marks, defBody s__law_later_marks, defScope s__law_later_marks⟩,
  ⟨fun K => (He.ga K "_law_marks"), "_law_marks", "_law_marks", defArgs s__law_marks, defBody s__law_marks, defScope s__law_marks⟩,
  ⟨fun K => (He.ga K "_law_others"), "_law_others", "_law_others", defArgs s__law_others, defBody s__law_others, defScope s__law_others⟩,
  ⟨fun K => (He.ga K "_law_right"), "_law_right", "_law_right", defArgs s__law_right, defBody s__law_right, defScope s__law_right⟩,
  ⟨fun K => (He.ga K "law"), "law", "law", defArgs s_law, defBody s_law, defScope s_law⟩,
  ⟨fun K => He.ma K (He.ga K "BadSize") "__init__", "__init__", "BadSize.__init__", defArgs (inClass (topS 10) 0), defBody (inClass (topS 10) 0), defScope (inClass (topS 10) 0)⟩,
  ⟨fun K => He.ma K (He.ga K "BadWorth") "__init__", "__init__", "BadWorth.__init__", defArgs (inClass (topS 11) 0), defBody (inClass (topS 11) 0), defScope (inClass (topS 11) 0)⟩,
  ⟨fun K => He.ma K (He.ga K "BadMost") "__init__", "__init__", "BadMost.__init__", defArgs (inClass (topS 12) 0), defBody (inClass (topS 12) 0), defScope (inClass (topS 12) 0)⟩,
  ⟨fun K => He.ma K (He.ga K "BadItems") "__init__", "__init__", "BadItems.__init__", defArgs (inClass (topS 13) 0), defBody (inClass (topS 13) 0), defScope (inClass (topS 13) 0)⟩,
  ⟨fun K => He.ma K (He.ga K "BadWorld") "__init__", "__init__", "BadWorld.__init__", defArgs (inClass (topS 14) 0), defBody (inClass (topS 14) 0), defScope (inClass (topS 14) 0)⟩,
  ⟨fun K => He.ma K (He.ga K "BadSetup") "__init__", "__init__", "BadSetup.__init__", defArgs (inClass (topS 15) 0), defBody (inClass (topS 15) 0), defScope (inClass (topS 15) 0)⟩,
  ⟨fun K => He.ma K (He.ga K "BadStand") "__init__", "__init__", "BadStand.__init__", defArgs (inClass (topS 16) 0), defBody (inClass (topS 16) 0), defScope (inClass (topS 16) 0)⟩,
  ⟨fun K => He.ma K (He.ga K "BadDeed") "__init__", "__init__", "BadDeed.__init__", defArgs (inClass (topS 17) 0), defBody (inClass (topS 17) 0), defScope (inClass (topS 17) 0)⟩,
  ⟨fun K => He.ma K (He.ga K "BadPlan") "__init__", "__init__", "BadPlan.__init__", defArgs (inClass (topS 18) 0), defBody (inClass (topS 18) 0), defScope (inClass (topS 18) 0)⟩,
  ⟨fun K => He.ma K (He.ga K "BadKinds") "__init__", "__init__", "BadKinds.__init__", defArgs (inClass (topS 19) 0), defBody (inClass (topS 19) 0), defScope (inClass (topS 19) 0)⟩,
  ⟨fun K => He.ma K (He.ga K "BadSteps") "__init__", "__init__", "BadSteps.__init__", defArgs (inClass (topS 20) 0), defBody (inClass (topS 20) 0), defScope (inClass (topS 20) 0)⟩,
  ⟨fun K => He.ma K (He.ga K "BadEnd") "__init__", "__init__", "BadEnd.__init__", defArgs (inClass (topS 21) 0), defBody (inClass (topS 21) 0), defScope (inClass (topS 21) 0)⟩,
  ⟨fun K => He.ma K (He.ga K "NoWork") "__init__", "__init__", "NoWork.__init__", defArgs (inClass (topS 22) 0), defBody (inClass (topS 22) 0), defScope (inClass (topS 22) 0)⟩,
  ⟨fun K => He.ma K (He.ga K "BadValues") "__init__", "__init__", "BadValues.__init__", defArgs (inClass (topS 23) 0), defBody (inClass (topS 23) 0), defScope (inClass (topS 23) 0)⟩,
  ⟨fun K => He.ma K (He.ga K "BadState") "__init__", "__init__", "BadState.__init__", defArgs (inClass (topS 24) 0), defBody (inClass (topS 24) 0), defScope (inClass (topS 24) 0)⟩,
  ⟨fun K => He.ma K (He.ga K "BadTape") "__init__", "__init__", "BadTape.__init__", defArgs (inClass (topS 25) 0), defBody (inClass (topS 25) 0), defScope (inClass (topS 25) 0)⟩,
  ⟨fun K => He.ma K (He.ga K "BadStory") "__init__", "__init__", "BadStory.__init__", defArgs (inClass (topS 26) 0), defBody (inClass (topS 26) 0), defScope (inClass (topS 26) 0)⟩,
  ⟨fun K => He.ma K (He.ga K "BadNames") "__init__", "__init__", "BadNames.__init__", defArgs (inClass (topS 27) 0), defBody (inClass (topS 27) 0), defScope (inClass (topS 27) 0)⟩,
  ⟨fun K => He.ma K (He.ga K "BadPrices") "__init__", "__init__", "BadPrices.__init__", defArgs (inClass (topS 28) 0), defBody (inClass (topS 28) 0), defScope (inClass (topS 28) 0)⟩,
  ⟨fun K => He.ma K (He.ga K "BadDoing") "__init__", "__init__", "BadDoing.__init__", defArgs (inClass (topS 29) 0), defBody (inClass (topS 29) 0), defScope (inClass (topS 29) 0)⟩,
  ⟨fun K => He.ma K (He.ga K "NoKey") "__init__", "__init__", "NoKey.__init__", defArgs (inClass (topS 30) 0), defBody (inClass (topS 30) 0), defScope (inClass (topS 30) 0)⟩,
  ⟨fun K => He.ma K (He.ga K "BadChecks") "__init__", "__init__", "BadChecks.__init__", defArgs (inClass (topS 31) 0), defBody (inClass (topS 31) 0), defScope (inClass (topS 31) 0)⟩,
  ⟨fun K => He.ma K (He.ga K "BadPlace") "__init__", "__init__", "BadPlace.__init__", defArgs (inClass (topS 32) 0), defBody (inClass (topS 32) 0), defScope (inClass (topS 32) 0)⟩,
  ⟨fun K => He.ma K (He.ga K "NoTape") "__init__", "__init__", "NoTape.__init__", defArgs (inClass (topS 33) 0), defBody (inClass (topS 33) 0), defScope (inClass (topS 33) 0)⟩,
  ⟨fun K => He.ma K (He.ga K "NoName") "__init__", "__init__", "NoName.__init__", defArgs (inClass (topS 34) 0), defBody (inClass (topS 34) 0), defScope (inClass (topS 34) 0)⟩,
  ⟨fun K => He.ma K (He.ga K "BadThing") "__init__", "__init__", "BadThing.__init__", defArgs (inClass (topS 35) 0), defBody (inClass (topS 35) 0), defScope (inClass (topS 35) 0)⟩,
  ⟨fun K => He.ma K (He.ga K "BadRoom") "__init__", "__init__", "BadRoom.__init__", defArgs (inClass (topS 36) 0), defBody (inClass (topS 36) 0), defScope (inClass (topS 36) 0)⟩,
  ⟨fun K => He.ma K (He.ga K "BadCommand") "__init__", "__init__", "BadCommand.__init__", defArgs (inClass (topS 37) 0), defBody (inClass (topS 37) 0), defScope (inClass (topS 37) 0)⟩,
  ⟨fun K => He.ma K (He.ga K "Fault") "__init__", "__init__", "Fault.__init__", defArgs (inClass (topS 2) 0), defBody (inClass (topS 2) 0), defScope (inClass (topS 2) 0)⟩,
  ⟨fun K => He.ma K (He.ga K "TooMany") "__init__", "__init__", "TooMany.__init__", defArgs (inClass (topS 4) 0), defBody (inClass (topS 4) 0), defScope (inClass (topS 4) 0)⟩,
  ⟨fun K => He.ma K (He.ga K "BadLine") "__init__", "__init__", "BadLine.__init__", defArgs (inClass (topS 5) 0), defBody (inClass (topS 5) 0), defScope (inClass (topS 5) 0)⟩,
  ⟨fun K => He.ma K (He.ga K "BadBytes") "__init__", "__init__", "BadBytes.__init__", defArgs (inClass (topS 6) 0), defBody (inClass (topS 6) 0), defScope (inClass (topS 6) 0)⟩,
  ⟨fun K => He.ma K (He.ga K "Wrong") "__init__", "__init__", "Wrong.__init__", defArgs (inClass (topS 3) 0), defBody (inClass (topS 3) 0), defScope (inClass (topS 3) 0)⟩,
  ⟨fun K => He.ma K (He.ga K "Empty") "__init__", "__init__", "Empty.__init__", defArgs (inClass (topS 7) 0), defBody (inClass (topS 7) 0), defScope (inClass (topS 7) 0)⟩,
  ⟨fun K => He.ma K (He.ga K "NothingToUndo") "__init__", "__init__", "NothingToUndo.__init__", defArgs (inClass (topS 8) 0), defBody (inClass (topS 8) 0), defScope (inClass (topS 8) 0)⟩,
  ⟨fun K => He.ma K (He.ga K "NothingToRedo") "__init__", "__init__", "NothingToRedo.__init__", defArgs (inClass (topS 9) 0), defBody (inClass (topS 9) 0), defScope (inClass (topS 9) 0)⟩]
theorem tx_of {P : Program} {K : PySem.W.Frag} {h : Heap} {mg : Str → Option Value} (X : K.In h) (G : h.Ns mainGlobals mg) (hF : P.main.file = FILE) (hP : (P.main.scope.names.lookup ("super" : Str)).isSome = false) (c : SaysY chk fnl K) : Nonempty (Tx P K mg) := by
  have gE := errsB_ok (c.fact 0 rfl)
  have er_BadSize := ercB_ok (x := "BadSize") (c.fact 2 rfl)
  have er_BadWorth := ercB_ok (x := "BadWorth") (c.fact 3 rfl)
  have er_BadMost := ercB_ok (x := "BadMost") (c.fact 4 rfl)
  have er_BadItems := ercB_ok (x := "BadItems") (c.fact 5 rfl)
  have er_BadWorld := ercB_ok (x := "BadWorld") (c.fact 6 rfl)
  have er_BadSetup := ercB_ok (x := "BadSetup") (c.fact 7 rfl)
  have er_BadStand := ercB_ok (x := "BadStand") (c.fact 8 rfl)
  have er_BadDeed := ercB_ok (x := "BadDeed") (c.fact 9 rfl)
  have er_BadPlan := ercB_ok (x := "BadPlan") (c.fact 10 rfl)
  have er_BadKinds := ercB_ok (x := "BadKinds") (c.fact 11 rfl)
  have er_BadSteps := ercB_ok (x := "BadSteps") (c.fact 12 rfl)
  have er_BadEnd := ercB_ok (x := "BadEnd") (c.fact 13 rfl)
  have er_NoWork := ercB_ok (x := "NoWork") (c.fact 14 rfl)
  have er_BadValues := ercB_ok (x := "BadValues") (c.fact 15 rfl)
  have er_BadState := ercB_ok (x := "BadState") (c.fact 16 rfl)
  have er_BadTape := ercB_ok (x := "BadTape") (c.fact 17 rfl)
  have er_BadStory := ercB_ok (x := "BadStory") (c.fact 18 rfl)
  have er_BadNames := ercB_ok (x := "BadNames") (c.fact 19 rfl)
  have er_BadPrices := ercB_ok (x := "BadPrices") (c.fact 20 rfl)
  have er_BadDoing := ercB_ok (x := "BadDoing") (c.fact 21 rfl)
  have er_NoKey := ercB_ok (x := "NoKey") (c.fact 22 rfl)
  have er_BadChecks := ercB_ok (x := "BadChecks") (c.fact 23 rfl)
  have er_BadPlace := ercB_ok (x := "BadPlace") (c.fact 24 rfl)
  have er_NoTape := ercB_ok (x := "NoTape") (c.fact 25 rfl)
  have er_NoName := ercB_ok (x := "NoName") (c.fact 26 rfl)
  have er_BadThing := ercB_ok (x := "BadThing") (c.fact 27 rfl)
  have er_BadRoom := ercB_ok (x := "BadRoom") (c.fact 28 rfl)
  have er_BadCommand := ercB_ok (x := "BadCommand") (c.fact 29 rfl)
  have er_Fault := ercB_ok (x := "Fault") (c.fact 30 rfl)
  have er_TooMany := ercB_ok (x := "TooMany") (c.fact 31 rfl)
  have er_BadLine := ercB_ok (x := "BadLine") (c.fact 32 rfl)
  have er_BadBytes := ercB_ok (x := "BadBytes") (c.fact 33 rfl)
  have er_Wrong := ercB_ok (x := "Wrong") (c.fact 34 rfl)
  have er_Empty := ercB_ok (x := "Empty") (c.fact 35 rfl)
  have er_NothingToUndo := ercB_ok (x := "NothingToUndo") (c.fact 36 rfl)
  have er_NothingToRedo := ercB_ok (x := "NothingToRedo") (c.fact 37 rfl)
  obtain ⟨fd__law_pot, o__law_pot⟩ := fun_of (st := s__law_pot) (c.def_ 0 rfl) (c.fact 38 rfl) rfl rfl rfl
  obtain ⟨fd__law_take, o__law_take⟩ := fun_of (st := s__law_take) (c.def_ 1 rfl) (c.fact 40 rfl) rfl rfl rfl
  obtain ⟨fd__law_of, o__law_of⟩ := fun_of (st := s__law_of) (c.def_ 2 rfl) (c.fact 42 rfl) rfl rfl rfl
  obtain ⟨fd__law_any, o__law_any⟩ := fun_of (st := s__law_any) (c.def_ 3 rfl) (c.fact 44 rfl) rfl rfl rfl
  obtain ⟨fd__law_made, o__law_made⟩ := fun_of (st := s__law_made) (c.def_ 4 rfl) (c.fact 46 rfl) rfl rfl rfl
  obtain ⟨fd__law_made_by_name, o__law_made_by_name⟩ := fun_of (st := s__law_made_by_name) (c.def_ 5 rfl) (c.fact 48 rfl) rfl rfl rfl
  obtain ⟨fd__law_first_marks, o__law_first_marks⟩ := fun_of (st := s__law_first_marks) (c.def_ 6 rfl) (c.fact 50 rfl) rfl rfl rfl
  obtain ⟨fd__law_later_marks, o__law_later_marks⟩ := fun_of (st := s__law_later_marks) (c.def_ 7 rfl) (c.fact 52 rfl) rfl rfl rfl
  obtain ⟨fd__law_marks, o__law_marks⟩ := fun_of (st := s__law_marks) (c.def_ 8 rfl) (c.fact 54 rfl) rfl rfl rfl
  obtain ⟨fd__law_others, o__law_others⟩ := fun_of (st := s__law_others) (c.def_ 9 rfl) (c.fact 56 rfl) rfl rfl rfl
  obtain ⟨fd__law_right, o__law_right⟩ := fun_of (st := s__law_right) (c.def_ 10 rfl) (c.fact 58 rfl) rfl rfl rfl
  obtain ⟨fd_law, o_law⟩ := fun_of (st := s_law) (c.def_ 11 rfl) (c.fact 60 rfl) rfl rfl rfl
  have ev_BadSize : ErrV P K mg "BadSize" "value" ["value"] [] (He.ga K "TapeError") (He.ga K "BadSize") := errV_of X G hP gE er_BadSize (by rw [hF]; exact (c.fact 62 rfl)) (c.def_ 12 rfl) (by decide) ⟨_, rfl, rfl⟩ ⟨rfl, rfl, rfl, by decide +kernel, by decide +kernel, by decide +kernel, by decide +kernel, by decide +kernel, by decide +kernel, by decide +kernel⟩ (.inl ⟨_, _, _, _, _, _, _, _, _, _, _, rfl, rfl, rfl⟩) (fun _ _ _ _ _ _ _ _ _ h _ s x us _ hl => by rcases h with ⟨_, rfl, rfl⟩ | ⟨hn, _⟩; (match us, hl with | [_], _ => exact .of_eq rfl); exact absurd rfl hn) (fun _ _ _ _ _ _ _ _ _ h _ s x us _ hl => by rcases h with ⟨_, rfl, rfl⟩ | ⟨hn, _⟩; (match us, hl with | [_], _ => exact .of_eq rfl); exact absurd rfl hn)
  have ev_BadWorth : ErrV P K mg "BadWorth" "value" ["value"] [] (He.ga K "TapeError") (He.ga K "BadWorth") := errV_of X G hP gE er_BadWorth (by rw [hF]; exact (c.fact 63 rfl)) (c.def_ 13 rfl) (by decide) ⟨_, rfl, rfl⟩ ⟨rfl, rfl, rfl, by decide +kernel, by decide +kernel, by decide +kernel, by decide +kernel, by decide +kernel, by decide +kernel, by decide +kernel⟩ (.inl ⟨_, _, _, _, _, _, _, _, _, _, _, rfl, rfl, rfl⟩) (fun _ _ _ _ _ _ _ _ _ h _ s x us _ hl => by rcases h with ⟨_, rfl, rfl⟩ | ⟨hn, _⟩; (match us, hl with | [_], _ => exact .of_eq rfl); exact absurd rfl hn) (fun _ _ _ _ _ _ _ _ _ h _ s x us _ hl => by rcases h with ⟨_, rfl, rfl⟩ | ⟨hn, _⟩; (match us, hl with | [_], _ => exact .of_eq rfl); exact absurd rfl hn)
  have ev_BadMost : ErrV P K mg "BadMost" "value" ["value"] [] (He.ga K "TapeError") (He.ga K "BadMost") := errV_of X G hP gE er_BadMost (by rw [hF]; exact (c.fact 64 rfl)) (c.def_ 14 rfl) (by decide) ⟨_, rfl, rfl⟩ ⟨rfl, rfl, rfl, by decide +kernel, by decide +kernel, by decide +kernel, by decide +kernel, by decide +kernel, by decide +kernel, by decide +kernel⟩ (.inl ⟨_, _, _, _, _, _, _, _, _, _, _, rfl, rfl, rfl⟩) (fun _ _ _ _ _ _ _ _ _ h _ s x us _ hl => by rcases h with ⟨_, rfl, rfl⟩ | ⟨hn, _⟩; (match us, hl with | [_], _ => exact .of_eq rfl); exact absurd rfl hn) (fun _ _ _ _ _ _ _ _ _ h _ s x us _ hl => by rcases h with ⟨_, rfl, rfl⟩ | ⟨hn, _⟩; (match us, hl with | [_], _ => exact .of_eq rfl); exact absurd rfl hn)
  have ev_BadItems : ErrV P K mg "BadItems" "value" ["value"] [] (He.ga K "TapeError") (He.ga K "BadItems") := errV_of X G hP gE er_BadItems (by rw [hF]; exact (c.fact 65 rfl)) (c.def_ 15 rfl) (by decide) ⟨_, rfl, rfl⟩ ⟨rfl, rfl, rfl, by decide +kernel, by decide +kernel, by decide +kernel, by decide +kernel, by decide +kernel, by decide +kernel, by decide +kernel⟩ (.inl ⟨_, _, _, _, _, _, _, _, _, _, _, rfl, rfl, rfl⟩) (fun _ _ _ _ _ _ _ _ _ h _ s x us _ hl => by rcases h with ⟨_, rfl, rfl⟩ | ⟨hn, _⟩; (match us, hl with | [_], _ => exact .of_eq rfl); exact absurd rfl hn) (fun _ _ _ _ _ _ _ _ _ h _ s x us _ hl => by rcases h with ⟨_, rfl, rfl⟩ | ⟨hn, _⟩; (match us, hl with | [_], _ => exact .of_eq rfl); exact absurd rfl hn)
  have ev_BadWorld : ErrV P K mg "BadWorld" "value" ["value"] [] (He.ga K "TapeError") (He.ga K "BadWorld") := errV_of X G hP gE er_BadWorld (by rw [hF]; exact (c.fact 66 rfl)) (c.def_ 16 rfl) (by decide) ⟨_, rfl, rfl⟩ ⟨rfl, rfl, rfl, by decide +kernel, by decide +kernel, by decide +kernel, by decide +kernel, by decide +kernel, by decide +kernel, by decide +kernel⟩ (.inl ⟨_, _, _, _, _, _, _, _, _, _, _, rfl, rfl, rfl⟩) (fun _ _ _ _ _ _ _ _ _ h _ s x us _ hl => by rcases h with ⟨_, rfl, rfl⟩ | ⟨hn, _⟩; (match us, hl with | [_], _ => exact .of_eq rfl); exact absurd rfl hn) (fun _ _ _ _ _ _ _ _ _ h _ s x us _ hl => by rcases h with ⟨_, rfl, rfl⟩ | ⟨hn, _⟩; (match us, hl with | [_], _ => exact .of_eq rfl); exact absurd rfl hn)
  have ev_BadSetup : ErrV P K mg "BadSetup" "value" ["value"] [] (He.ga K "TapeError") (He.ga K "BadSetup") := errV_of X G hP gE er_BadSetup (by rw [hF]; exact (c.fact 67 rfl)) (c.def_ 17 rfl) (by decide) ⟨_, rfl, rfl⟩ ⟨rfl, rfl, rfl, by decide +kernel, by decide +kernel, by decide +kernel, by decide +kernel, by decide +kernel, by decide +kernel, by decide +kernel⟩ (.inl ⟨_, _, _, _, _, _, _, _, _, _, _, rfl, rfl, rfl⟩) (fun _ _ _ _ _ _ _ _ _ h _ s x us _ hl => by rcases h with ⟨_, rfl, rfl⟩ | ⟨hn, _⟩; (match us, hl with | [_], _ => exact .of_eq rfl); exact absurd rfl hn) (fun _ _ _ _ _ _ _ _ _ h _ s x us _ hl => by rcases h with ⟨_, rfl, rfl⟩ | ⟨hn, _⟩; (match us, hl with | [_], _ => exact .of_eq rfl); exact absurd rfl hn)
  have ev_BadStand : ErrV P K mg "BadStand" "value" ["value"] [] (He.ga K "TapeError") (He.ga K "BadStand") := errV_of X G hP gE er_BadStand (by rw [hF]; exact (c.fact 68 rfl)) (c.def_ 18 rfl) (by decide) ⟨_, rfl, rfl⟩ ⟨rfl, rfl, rfl, by decide +kernel, by decide +kernel, by decide +kernel, by decide +kernel, by decide +kernel, by decide +kernel, by decide +kernel⟩ (.inl ⟨_, _, _, _, _, _, _, _, _, _, _, rfl, rfl, rfl⟩) (fun _ _ _ _ _ _ _ _ _ h _ s x us _ hl => by rcases h with ⟨_, rfl, rfl⟩ | ⟨hn, _⟩; (match us, hl with | [_], _ => exact .of_eq rfl); exact absurd rfl hn) (fun _ _ _ _ _ _ _ _ _ h _ s x us _ hl => by rcases h with ⟨_, rfl, rfl⟩ | ⟨hn, _⟩; (match us, hl with | [_], _ => exact .of_eq rfl); exact absurd rfl hn)
  have ev_BadDeed : ErrV P K mg "BadDeed" "value" ["value"] [] (He.ga K "TapeError") (He.ga K "BadDeed") := errV_of X G hP gE er_BadDeed (by rw [hF]; exact (c.fact 69 rfl)) (c.def_ 19 rfl) (by decide) ⟨_, rfl, rfl⟩ ⟨rfl, rfl, rfl, by decide +kernel, by decide +kernel, by decide +kernel, by decide +kernel, by decide +kernel, by decide +kernel, by decide +kernel⟩ (.inl ⟨_, _, _, _, _, _, _, _, _, _, _, rfl, rfl, rfl⟩) (fun _ _ _ _ _ _ _ _ _ h _ s x us _ hl => by rcases h with ⟨_, rfl, rfl⟩ | ⟨hn, _⟩; (match us, hl with | [_], _ => exact .of_eq rfl); exact absurd rfl hn) (fun _ _ _ _ _ _ _ _ _ h _ s x us _ hl => by rcases h with ⟨_, rfl, rfl⟩ | ⟨hn, _⟩; (match us, hl with | [_], _ => exact .of_eq rfl); exact absurd rfl hn)
  have ev_BadPlan : ErrV P K mg "BadPlan" "value" ["value"] [] (He.ga K "TapeError") (He.ga K "BadPlan") := errV_of X G hP gE er_BadPlan (by rw [hF]; exact (c.fact 70 rfl)) (c.def_ 20 rfl) (by decide) ⟨_, rfl, rfl⟩ ⟨rfl, rfl, rfl, by decide +kernel, by decide +kernel, by decide +kernel, by decide +kernel, by decide +kernel, by decide +kernel, by decide +kernel⟩ (.inl ⟨_, _, _, _, _, _, _, _, _, _, _, rfl, rfl, rfl⟩) (fun _ _ _ _ _ _ _ _ _ h _ s x us _ hl => by rcases h with ⟨_, rfl, rfl⟩ | ⟨hn, _⟩; (match us, hl with | [_], _ => exact .of_eq rfl); exact absurd rfl hn) (fun _ _ _ _ _ _ _ _ _ h _ s x us _ hl => by rcases h with ⟨_, rfl, rfl⟩ | ⟨hn, _⟩; (match us, hl with | [_], _ => exact .of_eq rfl); exact absurd rfl hn)
  have ev_BadKinds : ErrV P K mg "BadKinds" "value" ["value"] [] (He.ga K "TapeError") (He.ga K "BadKinds") := errV_of X G hP gE er_BadKinds (by rw [hF]; exact (c.fact 71 rfl)) (c.def_ 21 rfl) (by decide) ⟨_, rfl, rfl⟩ ⟨rfl, rfl, rfl, by decide +kernel, by decide +kernel, by decide +kernel, by decide +kernel, by decide +kernel, by decide +kernel, by decide +kernel⟩ (.inl ⟨_, _, _, _, _, _, _, _, _, _, _, rfl, rfl, rfl⟩) (fun _ _ _ _ _ _ _ _ _ h _ s x us _ hl => by rcases h with ⟨_, rfl, rfl⟩ | ⟨hn, _⟩; (match us, hl with | [_], _ => exact .of_eq rfl); exact absurd rfl hn) (fun _ _ _ _ _ _ _ _ _ h _ s x us _ hl => by rcases h with ⟨_, rfl, rfl⟩ | ⟨hn, _⟩; (match us, hl with | [_], _ => exact .of_eq rfl); exact absurd rfl hn)
  have ev_BadSteps : ErrV P K mg "BadSteps" "value" ["value"] [] (He.ga K "TapeError") (He.ga K "BadSteps") := errV_of X G hP gE er_BadSteps (by rw [hF]; exact (c.fact 72 rfl)) (c.def_ 22 rfl) (by decide) ⟨_, rfl, rfl⟩ ⟨rfl, rfl, rfl, by decide +kernel, by decide +kernel, by decide +kernel, by decide +kernel, by decide +kernel, by decide +kernel, by decide +kernel⟩ (.inl ⟨_, _, _, _, _, _, _, _, _, _, _, rfl, rfl, rfl⟩) (fun _ _ _ _ _ _ _ _ _ h _ s x us _ hl => by rcases h with ⟨_, rfl, rfl⟩ | ⟨hn, _⟩; (match us, hl with | [_], _ => exact .of_eq rfl); exact absurd rfl hn) (fun _ _ _ _ _ _ _ _ _ h _ s x us _ hl => by rcases h with ⟨_, rfl, rfl⟩ | ⟨hn, _⟩; (match us, hl with | [_], _ => exact .of_eq rfl); exact absurd rfl hn)
  have ev_BadEnd : ErrV P K mg "BadEnd" "value" ["value"] [] (He.ga K "TapeError") (He.ga K "BadEnd") := errV_of X G hP gE er_BadEnd (by rw [hF]; exact (c.fact 73 rfl)) (c.def_ 23 rfl) (by decide) ⟨_, rfl, rfl⟩ ⟨rfl, rfl, rfl, by decide +kernel, by decide +kernel, by decide +kernel, by decide +kernel, by decide +kernel, by decide +kernel, by decide +kernel⟩ (.inl ⟨_, _, _, _, _, _, _, _, _, _, _, rfl, rfl, rfl⟩) (fun _ _ _ _ _ _ _ _ _ h _ s x us _ hl => by rcases h with ⟨_, rfl, rfl⟩ | ⟨hn, _⟩; (match us, hl with | [_], _ => exact .of_eq rfl); exact absurd rfl hn) (fun _ _ _ _ _ _ _ _ _ h _ s x us _ hl => by rcases h with ⟨_, rfl, rfl⟩ | ⟨hn, _⟩; (match us, hl with | [_], _ => exact .of_eq rfl); exact absurd rfl hn)
  have ev_NoWork : ErrV P K mg "NoWork" "value" ["value"] [] (He.ga K "TapeError") (He.ga K "NoWork") := errV_of X G hP gE er_NoWork (by rw [hF]; exact (c.fact 74 rfl)) (c.def_ 24 rfl) (by decide) ⟨_, rfl, rfl⟩ ⟨rfl, rfl, rfl, by decide +kernel, by decide +kernel, by decide +kernel, by decide +kernel, by decide +kernel, by decide +kernel, by decide +kernel⟩ (.inl ⟨_, _, _, _, _, _, _, _, _, _, _, rfl, rfl, rfl⟩) (fun _ _ _ _ _ _ _ _ _ h _ s x us _ hl => by rcases h with ⟨_, rfl, rfl⟩ | ⟨hn, _⟩; (match us, hl with | [_], _ => exact .of_eq rfl); exact absurd rfl hn) (fun _ _ _ _ _ _ _ _ _ h _ s x us _ hl => by rcases h with ⟨_, rfl, rfl⟩ | ⟨hn, _⟩; (match us, hl with | [_], _ => exact .of_eq rfl); exact absurd rfl hn)
  have ev_BadValues : ErrV P K mg "BadValues" "value" ["value"] [] (He.ga K "TapeError") (He.ga K "BadValues") := errV_of X G hP gE er_BadValues (by rw [hF]; exact (c.fact 75 rfl)) (c.def_ 25 rfl) (by decide) ⟨_, rfl, rfl⟩ ⟨rfl, rfl, rfl, by decide +kernel, by decide +kernel, by decide +kernel, by decide +kernel, by decide +kernel, by decide +kernel, by decide +kernel⟩ (.inl ⟨_, _, _, _, _, _, _, _, _, _, _, rfl, rfl, rfl⟩) (fun _ _ _ _ _ _ _ _ _ h _ s x us _ hl => by rcases h with ⟨_, rfl, rfl⟩ | ⟨hn, _⟩; (match us, hl with | [_], _ => exact .of_eq rfl); exact absurd rfl hn) (fun _ _ _ _ _ _ _ _ _ h _ s x us _ hl => by rcases h with ⟨_, rfl, rfl⟩ | ⟨hn, _⟩; (match us, hl with | [_], _ => exact .of_eq rfl); exact absurd rfl hn)
  have ev_BadState : ErrV P K mg "BadState" "value" ["value"] [] (He.ga K "TapeError") (He.ga K "BadState") := errV_of X G hP gE er_BadState (by rw [hF]; exact (c.fact 76 rfl)) (c.def_ 26 rfl) (by decide) ⟨_, rfl, rfl⟩ ⟨rfl, rfl, rfl, by decide +kernel, by decide +kernel, by decide +kernel, by decide +kernel, by decide +kernel, by decide +kernel, by decide +kernel⟩ (.inl ⟨_, _, _, _, _, _, _, _, _, _, _, rfl, rfl, rfl⟩) (fun _ _ _ _ _ _ _ _ _ h _ s x us _ hl => by rcases h with ⟨_, rfl, rfl⟩ | ⟨hn, _⟩; (match us, hl with | [_], _ => exact .of_eq rfl); exact absurd rfl hn) (fun _ _ _ _ _ _ _ _ _ h _ s x us _ hl => by rcases h with ⟨_, rfl, rfl⟩ | ⟨hn, _⟩; (match us, hl with | [_], _ => exact .of_eq rfl); exact absurd rfl hn)
  have ev_BadTape : ErrV P K mg "BadTape" "value" ["value"] [] (He.ga K "TapeError") (He.ga K "BadTape") := errV_of X G hP gE er_BadTape (by rw [hF]; exact (c.fact 77 rfl)) (c.def_ 27 rfl) (by decide) ⟨_, rfl, rfl⟩ ⟨rfl, rfl, rfl, by decide +kernel, by decide +kernel, by decide +kernel, by decide +kernel, by decide +kernel, by decide +kernel, by decide +kernel⟩ (.inl ⟨_, _, _, _, _, _, _, _, _, _, _, rfl, rfl, rfl⟩) (fun _ _ _ _ _ _ _ _ _ h _ s x us _ hl => by rcases h with ⟨_, rfl, rfl⟩ | ⟨hn, _⟩; (match us, hl with | [_], _ => exact .of_eq rfl); exact absurd rfl hn) (fun _ _ _ _ _ _ _ _ _ h _ s x us _ hl => by rcases h with ⟨_, rfl, rfl⟩ | ⟨hn, _⟩; (match us, hl with | [_], _ => exact .of_eq rfl); exact absurd rfl hn)
  have ev_BadStory : ErrV P K mg "BadStory" "value" ["value"] [] (He.ga K "TapeError") (He.ga K "BadStory") := errV_of X G hP gE er_BadStory (by rw [hF]; exact (c.fact 78 rfl)) (c.def_ 28 rfl) (by decide) ⟨_, rfl, rfl⟩ ⟨rfl, rfl, rfl, by decide +kernel, by decide +kernel, by decide +kernel, by decide +kernel, by decide +kernel, by decide +kernel, by decide +kernel⟩ (.inl ⟨_, _, _, _, _, _, _, _, _, _, _, rfl, rfl, rfl⟩) (fun _ _ _ _ _ _ _ _ _ h _ s x us _ hl => by rcases h with ⟨_, rfl, rfl⟩ | ⟨hn, _⟩; (match us, hl with | [_], _ => exact .of_eq rfl); exact absurd rfl hn) (fun _ _ _ _ _ _ _ _ _ h _ s x us _ hl => by rcases h with ⟨_, rfl, rfl⟩ | ⟨hn, _⟩; (match us, hl with | [_], _ => exact .of_eq rfl); exact absurd rfl hn)
  have ev_BadNames : ErrV P K mg "BadNames" "value" ["value"] [] (He.ga K "TapeError") (He.ga K "BadNames") := errV_of X G hP gE er_BadNames (by rw [hF]; exact (c.fact 79 rfl)) (c.def_ 29 rfl) (by decide) ⟨_, rfl, rfl⟩ ⟨rfl, rfl, rfl, by decide +kernel, by decide +kernel, by decide +kernel, by decide +kernel, by decide +kernel, by decide +kernel, by decide +kernel⟩ (.inl ⟨_, _, _, _, _, _, _, _, _, _, _, rfl, rfl, rfl⟩) (fun _ _ _ _ _ _ _ _ _ h _ s x us _ hl => by rcases h with ⟨_, rfl, rfl⟩ | ⟨hn, _⟩; (match us, hl with | [_], _ => exact .of_eq rfl); exact absurd rfl hn) (fun _ _ _ _ _ _ _ _ _ h _ s x us _ hl => by rcases h with ⟨_, rfl, rfl⟩ | ⟨hn, _⟩; (match us, hl with | [_], _ => exact .of_eq rfl); exact absurd rfl hn)
  have ev_BadPrices : ErrV P K mg "BadPrices" "value" ["value"] [] (He.ga K "TapeError") (He.ga K "BadPrices") := errV_of X G hP gE er_BadPrices (by rw [hF]; exact (c.fact 80 rfl)) (c.def_ 30 rfl) (by decide) ⟨_, rfl, rfl⟩ ⟨rfl, rfl, rfl, by decide +kernel, by decide +kernel, by decide +kernel, by decide +kernel, by decide +kernel, by decide +kernel, by decide +kernel⟩ (.inl ⟨_, _, _, _, _, _, _, _, _, _, _, rfl, rfl, rfl⟩) (fun _ _ _ _ _ _ _ _ _ h _ s x us _ hl => by rcases h with ⟨_, rfl, rfl⟩ | ⟨hn, _⟩; (match us, hl with | [_], _ => exact .of_eq rfl); exact absurd rfl hn) (fun _ _ _ _ _ _ _ _ _ h _ s x us _ hl => by rcases h with ⟨_, rfl, rfl⟩ | ⟨hn, _⟩; (match us, hl with | [_], _ => exact .of_eq rfl); exact absurd rfl hn)
  have ev_BadDoing : ErrV P K mg "BadDoing" "value" ["value"] [] (He.ga K "TapeError") (He.ga K "BadDoing") := errV_of X G hP gE er_BadDoing (by rw [hF]; exact (c.fact 81 rfl)) (c.def_ 31 rfl) (by decide) ⟨_, rfl, rfl⟩ ⟨rfl, rfl, rfl, by decide +kernel, by decide +kernel, by decide +kernel, by decide +kernel, by decide +kernel, by decide +kernel, by decide +kernel⟩ (.inl ⟨_, _, _, _, _, _, _, _, _, _, _, rfl, rfl, rfl⟩) (fun _ _ _ _ _ _ _ _ _ h _ s x us _ hl => by rcases h with ⟨_, rfl, rfl⟩ | ⟨hn, _⟩; (match us, hl with | [_], _ => exact .of_eq rfl); exact absurd rfl hn) (fun _ _ _ _ _ _ _ _ _ h _ s x us _ hl => by rcases h with ⟨_, rfl, rfl⟩ | ⟨hn, _⟩; (match us, hl with | [_], _ => exact .of_eq rfl); exact absurd rfl hn)
  have ev_NoKey : ErrV P K mg "NoKey" "value" ["value"] [] (He.ga K "TapeError") (He.ga K "NoKey") := errV_of X G hP gE er_NoKey (by rw [hF]; exact (c.fact 82 rfl)) (c.def_ 32 rfl) (by decide) ⟨_, rfl, rfl⟩ ⟨rfl, rfl, rfl, by decide +kernel, by decide +kernel, by decide +kernel, by decide +kernel, by decide +kernel, by decide +kernel, by decide +kernel⟩ (.inl ⟨_, _, _, _, _, _, _, _, _, _, _, rfl, rfl, rfl⟩) (fun _ _ _ _ _ _ _ _ _ h _ s x us _ hl => by rcases h with ⟨_, rfl, rfl⟩ | ⟨hn, _⟩; (match us, hl with | [_], _ => exact .of_eq rfl); exact absurd rfl hn) (fun _ _ _ _ _ _ _ _ _ h _ s x us _ hl => by rcases h with ⟨_, rfl, rfl⟩ | ⟨hn, _⟩; (match us, hl with | [_], _ => exact .of_eq rfl); exact absurd rfl hn)
  have ev_BadChecks : ErrV P K mg "BadChecks" "value" ["value"] [] (He.ga K "TapeError") (He.ga K "BadChecks") := errV_of X G hP gE er_BadChecks (by rw [hF]; exact (c.fact 83 rfl)) (c.def_ 33 rfl) (by decide) ⟨_, rfl, rfl⟩ ⟨rfl, rfl, rfl, by decide +kernel, by decide +kernel, by decide +kernel, by decide +kernel, by decide +kernel, by decide +kernel, by decide +kernel⟩ (.inl ⟨_, _, _, _, _, _, _, _, _, _, _, rfl, rfl, rfl⟩) (fun _ _ _ _ _ _ _ _ _ h _ s x us _ hl => by rcases h with ⟨_, rfl, rfl⟩ | ⟨hn, _⟩; (match us, hl with | [_], _ => exact .of_eq rfl); exact absurd rfl hn) (fun _ _ _ _ _ _ _ _ _ h _ s x us _ hl => by rcases h with ⟨_, rfl, rfl⟩ | ⟨hn, _⟩; (match us, hl with | [_], _ => exact .of_eq rfl); exact absurd rfl hn)
  have ev_BadPlace : ErrV P K mg "BadPlace" "value" ["value"] [] (He.ga K "TapeError") (He.ga K "BadPlace") := errV_of X G hP gE er_BadPlace (by rw [hF]; exact (c.fact 84 rfl)) (c.def_ 34 rfl) (by decide) ⟨_, rfl, rfl⟩ ⟨rfl, rfl, rfl, by decide +kernel, by decide +kernel, by decide +kernel, by decide +kernel, by decide +kernel, by decide +kernel, by decide +kernel⟩ (.inl ⟨_, _, _, _, _, _, _, _, _, _, _, rfl, rfl, rfl⟩) (fun _ _ _ _ _ _ _ _ _ h _ s x us _ hl => by rcases h with ⟨_, rfl, rfl⟩ | ⟨hn, _⟩; (match us, hl with | [_], _ => exact .of_eq rfl); exact absurd rfl hn) (fun _ _ _ _ _ _ _ _ _ h _ s x us _ hl => by rcases h with ⟨_, rfl, rfl⟩ | ⟨hn, _⟩; (match us, hl with | [_], _ => exact .of_eq rfl); exact absurd rfl hn)
  have ev_NoTape : ErrV P K mg "NoTape" "value" ["value"] [] (He.ga K "TapeError") (He.ga K "NoTape") := errV_of X G hP gE er_NoTape (by rw [hF]; exact (c.fact 85 rfl)) (c.def_ 35 rfl) (by decide) ⟨_, rfl, rfl⟩ ⟨rfl, rfl, rfl, by decide +kernel, by decide +kernel, by decide +kernel, by decide +kernel, by decide +kernel, by decide +kernel, by decide +kernel⟩ (.inl ⟨_, _, _, _, _, _, _, _, _, _, _, rfl, rfl, rfl⟩) (fun _ _ _ _ _ _ _ _ _ h _ s x us _ hl => by rcases h with ⟨_, rfl, rfl⟩ | ⟨hn, _⟩; (match us, hl with | [_], _ => exact .of_eq rfl); exact absurd rfl hn) (fun _ _ _ _ _ _ _ _ _ h _ s x us _ hl => by rcases h with ⟨_, rfl, rfl⟩ | ⟨hn, _⟩; (match us, hl with | [_], _ => exact .of_eq rfl); exact absurd rfl hn)
  have ev_NoName : ErrV P K mg "NoName" "value" ["value"] [] (He.ga K "TapeError") (He.ga K "NoName") := errV_of X G hP gE er_NoName (by rw [hF]; exact (c.fact 86 rfl)) (c.def_ 36 rfl) (by decide) ⟨_, rfl, rfl⟩ ⟨rfl, rfl, rfl, by decide +kernel, by decide +kernel, by decide +kernel, by decide +kernel, by decide +kernel, by decide +kernel, by decide +kernel⟩ (.inl ⟨_, _, _, _, _, _, _, _, _, _, _, rfl, rfl, rfl⟩) (fun _ _ _ _ _ _ _ _ _ h _ s x us _ hl => by rcases h with ⟨_, rfl, rfl⟩ | ⟨hn, _⟩; (match us, hl with | [_], _ => exact .of_eq rfl); exact absurd rfl hn) (fun _ _ _ _ _ _ _ _ _ h _ s x us _ hl => by rcases h with ⟨_, rfl, rfl⟩ | ⟨hn, _⟩; (match us, hl with | [_], _ => exact .of_eq rfl); exact absurd rfl hn)
  have ev_BadThing : ErrV P K mg "BadThing" "value" ["value"] [] (He.ga K "TapeError") (He.ga K "BadThing") := errV_of X G hP gE er_BadThing (by rw [hF]; exact (c.fact 87 rfl)) (c.def_ 37 rfl) (by decide) ⟨_, rfl, rfl⟩ ⟨rfl, rfl, rfl, by decide +kernel, by decide +kernel, by decide +kernel, by decide +kernel, by decide +kernel, by decide +kernel, by decide +kernel⟩ (.inl ⟨_, _, _, _, _, _, _, _, _, _, _, rfl, rfl, rfl⟩) (fun _ _ _ _ _ _ _ _ _ h _ s x us _ hl => by rcases h with ⟨_, rfl, rfl⟩ | ⟨hn, _⟩; (match us, hl with | [_], _ => exact .of_eq rfl); exact absurd rfl hn) (fun _ _ _ _ _ _ _ _ _ h _ s x us _ hl => by rcases h with ⟨_, rfl, rfl⟩ | ⟨hn, _⟩; (match us, hl with | [_], _ => exact .of_eq rfl); exact absurd rfl hn)
  have ev_BadRoom : ErrV P K mg "BadRoom" "value" ["value"] [] (He.ga K "TapeError") (He.ga K "BadRoom") := errV_of X G hP gE er_BadRoom (by rw [hF]; exact (c.fact 88 rfl)) (c.def_ 38 rfl) (by decide) ⟨_, rfl, rfl⟩ ⟨rfl, rfl, rfl, by decide +kernel, by decide +kernel, by decide +kernel, by decide +kernel, by decide +kernel, by decide +kernel, by decide +kernel⟩ (.inl ⟨_, _, _, _, _, _, _, _, _, _, _, rfl, rfl, rfl⟩) (fun _ _ _ _ _ _ _ _ _ h _ s x us _ hl => by rcases h with ⟨_, rfl, rfl⟩ | ⟨hn, _⟩; (match us, hl with | [_], _ => exact .of_eq rfl); exact absurd rfl hn) (fun _ _ _ _ _ _ _ _ _ h _ s x us _ hl => by rcases h with ⟨_, rfl, rfl⟩ | ⟨hn, _⟩; (match us, hl with | [_], _ => exact .of_eq rfl); exact absurd rfl hn)
  have ev_BadCommand : ErrV P K mg "BadCommand" "value" ["value"] [] (He.ga K "TapeError") (He.ga K "BadCommand") := errV_of X G hP gE er_BadCommand (by rw [hF]; exact (c.fact 89 rfl)) (c.def_ 39 rfl) (by decide) ⟨_, rfl, rfl⟩ ⟨rfl, rfl, rfl, by decide +kernel, by decide +kernel, by decide +kernel, by decide +kernel, by decide +kernel, by decide +kernel, by decide +kernel⟩ (.inl ⟨_, _, _, _, _, _, _, _, _, _, _, rfl, rfl, rfl⟩) (fun _ _ _ _ _ _ _ _ _ h _ s x us _ hl => by rcases h with ⟨_, rfl, rfl⟩ | ⟨hn, _⟩; (match us, hl with | [_], _ => exact .of_eq rfl); exact absurd rfl hn) (fun _ _ _ _ _ _ _ _ _ h _ s x us _ hl => by rcases h with ⟨_, rfl, rfl⟩ | ⟨hn, _⟩; (match us, hl with | [_], _ => exact .of_eq rfl); exact absurd rfl hn)
  have ev_Fault : ErrV P K mg "Fault" "words" ["words", "what"] [.non] (He.ga K "TapeError") (He.ga K "Fault") := errV_of X G hP gE er_Fault (by rw [hF]; exact (c.fact 90 rfl)) (c.def_ 40 rfl) (by decide) ⟨_, rfl, rfl⟩ ⟨rfl, rfl, rfl, by decide +kernel, by decide +kernel, by decide +kernel, by decide +kernel, by decide +kernel, by decide +kernel, by decide +kernel⟩ (.inr ⟨_, _, _, _, _, _, _, _, _, _, _, _, _, _, _, _, rfl, rfl, by decide +kernel, rfl⟩) (fun _ _ _ _ _ _ _ _ _ h hv s x us XX hl => by rcases h with ⟨hn, _⟩ | ⟨_, T, o, n, rfl, dV2, dV3⟩; cases hn; (cases hv with | cons r t => cases t; (match us, hl with | [_], _ => exact BindsTo.of_looks fun M => looks_items XX dV2 dV3 (.of_pure rfl)))) (fun _ _ _ _ _ _ _ _ _ h hv s x us XX hl => by rcases h with ⟨hn, _⟩ | ⟨_, T, o, n, rfl, dV2, dV3⟩; cases hn; (cases hv with | cons r t => cases t; (match us, hl with | [_], _ => exact BindsTo.of_looks fun M => looks_items XX dV2 dV3 (.of_pure rfl))))
  have ev_TooMany : ErrV P K mg "TooMany" "number" ["number"] [] (He.ga K "TapeError") (He.ga K "TooMany") := errV_of X G hP gE er_TooMany (by rw [hF]; exact (c.fact 91 rfl)) (c.def_ 41 rfl) (by decide) ⟨_, rfl, rfl⟩ ⟨rfl, rfl, rfl, by decide +kernel, by decide +kernel, by decide +kernel, by decide +kernel, by decide +kernel, by decide +kernel, by decide +kernel⟩ (.inl ⟨_, _, _, _, _, _, _, _, _, _, _, rfl, rfl, rfl⟩) (fun _ _ _ _ _ _ _ _ _ h _ s x us _ hl => by rcases h with ⟨_, rfl, rfl⟩ | ⟨hn, _⟩; (match us, hl with | [_], _ => exact .of_eq rfl); exact absurd rfl hn) (fun _ _ _ _ _ _ _ _ _ h _ s x us _ hl => by rcases h with ⟨_, rfl, rfl⟩ | ⟨hn, _⟩; (match us, hl with | [_], _ => exact .of_eq rfl); exact absurd rfl hn)
  have ev_BadLine : ErrV P K mg "BadLine" "number" ["number"] [] (He.ga K "TapeError") (He.ga K "BadLine") := errV_of X G hP gE er_BadLine (by rw [hF]; exact (c.fact 92 rfl)) (c.def_ 42 rfl) (by decide) ⟨_, rfl, rfl⟩ ⟨rfl, rfl, rfl, by decide +kernel, by decide +kernel, by decide +kernel, by decide +kernel, by decide +kernel, by decide +kernel, by decide +kernel⟩ (.inl ⟨_, _, _, _, _, _, _, _, _, _, _, rfl, rfl, rfl⟩) (fun _ _ _ _ _ _ _ _ _ h _ s x us _ hl => by rcases h with ⟨_, rfl, rfl⟩ | ⟨hn, _⟩; (match us, hl with | [_], _ => exact .of_eq rfl); exact absurd rfl hn) (fun _ _ _ _ _ _ _ _ _ h _ s x us _ hl => by rcases h with ⟨_, rfl, rfl⟩ | ⟨hn, _⟩; (match us, hl with | [_], _ => exact .of_eq rfl); exact absurd rfl hn)
  have ev_BadBytes : ErrV P K mg "BadBytes" "at" ["at"] [] (He.ga K "TapeError") (He.ga K "BadBytes") := errV_of X G hP gE er_BadBytes (by rw [hF]; exact (c.fact 93 rfl)) (c.def_ 43 rfl) (by decide) ⟨_, rfl, rfl⟩ ⟨rfl, rfl, rfl, by decide +kernel, by decide +kernel, by decide +kernel, by decide +kernel, by decide +kernel, by decide +kernel, by decide +kernel⟩ (.inl ⟨_, _, _, _, _, _, _, _, _, _, _, rfl, rfl, rfl⟩) (fun _ _ _ _ _ _ _ _ _ h _ s x us _ hl => by rcases h with ⟨_, rfl, rfl⟩ | ⟨hn, _⟩; (match us, hl with | [_], _ => exact .of_eq rfl); exact absurd rfl hn) (fun _ _ _ _ _ _ _ _ _ h _ s x us _ hl => by rcases h with ⟨_, rfl, rfl⟩ | ⟨hn, _⟩; (match us, hl with | [_], _ => exact .of_eq rfl); exact absurd rfl hn)
  have ev_Wrong : ErrV P K mg "Wrong" "story" ["story"] [] (He.ga K "TapeError") (He.ga K "Wrong") := errV_of X G hP gE er_Wrong (by rw [hF]; exact (c.fact 94 rfl)) (c.def_ 44 rfl) (by decide) ⟨_, rfl, rfl⟩ ⟨rfl, rfl, rfl, by decide +kernel, by decide +kernel, by decide +kernel, by decide +kernel, by decide +kernel, by decide +kernel, by decide +kernel⟩ (.inl ⟨_, _, _, _, _, _, _, _, _, _, _, rfl, rfl, rfl⟩) (fun _ _ _ _ _ _ _ _ _ h _ s x us _ hl => by rcases h with ⟨_, rfl, rfl⟩ | ⟨hn, _⟩; (match us, hl with | [_], _ => exact .of_eq rfl); exact absurd rfl hn) (fun _ _ _ _ _ _ _ _ _ h _ s x us _ hl => by rcases h with ⟨_, rfl, rfl⟩ | ⟨hn, _⟩; (match us, hl with | [_], _ => exact .of_eq rfl); exact absurd rfl hn)
  have ev_Empty : ErrZ P K mg "Empty" (He.ga K "TapeError") (He.ga K "Empty") := errZ_of X G hP gE er_Empty (by rw [hF]; exact (c.fact 95 rfl)) (c.def_ 45 rfl) ⟨_, rfl, rfl⟩ ⟨rfl, rfl, rfl, by decide +kernel, by decide +kernel, by decide +kernel, by decide +kernel, by decide +kernel, by decide +kernel, by decide +kernel⟩ ⟨_, _, _, _, _, rfl, rfl⟩ (fun _ _ _ _ _ _ _ _ h s x _ => by subst h; exact .of_eq rfl)
  have ev_NothingToUndo : ErrZ P K mg "NothingToUndo" (He.ga K "TapeError") (He.ga K "NothingToUndo") := errZ_of X G hP gE er_NothingToUndo (by rw [hF]; exact (c.fact 96 rfl)) (c.def_ 46 rfl) ⟨_, rfl, rfl⟩ ⟨rfl, rfl, rfl, by decide +kernel, by decide +kernel, by decide +kernel, by decide +kernel, by decide +kernel, by decide +kernel, by decide +kernel⟩ ⟨_, _, _, _, _, rfl, rfl⟩ (fun _ _ _ _ _ _ _ _ h s x _ => by subst h; exact .of_eq rfl)
  have ev_NothingToRedo : ErrZ P K mg "NothingToRedo" (He.ga K "TapeError") (He.ga K "NothingToRedo") := errZ_of X G hP gE er_NothingToRedo (by rw [hF]; exact (c.fact 97 rfl)) (c.def_ 47 rfl) ⟨_, rfl, rfl⟩ ⟨rfl, rfl, rfl, by decide +kernel, by decide +kernel, by decide +kernel, by decide +kernel, by decide +kernel, by decide +kernel, by decide +kernel⟩ ⟨_, _, _, _, _, rfl, rfl⟩ (fun _ _ _ _ _ _ _ _ h s x _ => by subst h; exact .of_eq rfl)
  exact ⟨{
    mods := (by simpa using (c.fact 1 rfl)),
    C_BadSize := (He.ga K "BadSize"),
    BadSize_mg := PySem.W.mg_of X G er_BadSize.a,
    C_BadWorth := (He.ga K "BadWorth"),
    BadWorth_mg := PySem.W.mg_of X G er_BadWorth.a,
    C_BadMost := (He.ga K "BadMost"),
    BadMost_mg := PySem.W.mg_of X G er_BadMost.a,
    C_BadItems := (He.ga K "BadItems"),
    BadItems_mg := PySem.W.mg_of X G er_BadItems.a,
    C_BadWorld := (He.ga K "BadWorld"),
    BadWorld_mg := PySem.W.mg_of X G er_BadWorld.a,
    C_BadSetup := (He.ga K "BadSetup"),
    BadSetup_mg := PySem.W.mg_of X G er_BadSetup.a,
    C_BadStand := (He.ga K "BadStand"),
    BadStand_mg := PySem.W.mg_of X G er_BadStand.a,
    C_BadDeed := (He.ga K "BadDeed"),
    BadDeed_mg := PySem.W.mg_of X G er_BadDeed.a,
    C_BadPlan := (He.ga K "BadPlan"),
    BadPlan_mg := PySem.W.mg_of X G er_BadPlan.a,
    C_BadKinds := (He.ga K "BadKinds"),
    BadKinds_mg := PySem.W.mg_of X G er_BadKinds.a,
    C_BadSteps := (He.ga K "BadSteps"),
    BadSteps_mg := PySem.W.mg_of X G er_BadSteps.a,
    C_BadEnd := (He.ga K "BadEnd"),
    BadEnd_mg := PySem.W.mg_of X G er_BadEnd.a,
    C_NoWork := (He.ga K "NoWork"),
    NoWork_mg := PySem.W.mg_of X G er_NoWork.a,
    C_BadValues := (He.ga K "BadValues"),
    BadValues_mg := PySem.W.mg_of X G er_BadValues.a,
    C_BadState := (He.ga K "BadState"),
    BadState_mg := PySem.W.mg_of X G er_BadState.a,
    C_BadTape := (He.ga K "BadTape"),
    BadTape_mg := PySem.W.mg_of X G er_BadTape.a,
    C_BadStory := (He.ga K "BadStory"),
    BadStory_mg := PySem.W.mg_of X G er_BadStory.a,
    C_BadNames := (He.ga K "BadNames"),
    BadNames_mg := PySem.W.mg_of X G er_BadNames.a,
    C_BadPrices := (He.ga K "BadPrices"),
    BadPrices_mg := PySem.W.mg_of X G er_BadPrices.a,
    C_BadDoing := (He.ga K "BadDoing"),
    BadDoing_mg := PySem.W.mg_of X G er_BadDoing.a,
    C_NoKey := (He.ga K "NoKey"),
    NoKey_mg := PySem.W.mg_of X G er_NoKey.a,
    C_BadChecks := (He.ga K "BadChecks"),
    BadChecks_mg := PySem.W.mg_of X G er_BadChecks.a,
    C_BadPlace := (He.ga K "BadPlace"),
    BadPlace_mg := PySem.W.mg_of X G er_BadPlace.a,
    C_NoTape := (He.ga K "NoTape"),
    NoTape_mg := PySem.W.mg_of X G er_NoTape.a,
    C_NoName := (He.ga K "NoName"),
    NoName_mg := PySem.W.mg_of X G er_NoName.a,
    C_BadThing := (He.ga K "BadThing"),
    BadThing_mg := PySem.W.mg_of X G er_BadThing.a,
    C_BadRoom := (He.ga K "BadRoom"),
    BadRoom_mg := PySem.W.mg_of X G er_BadRoom.a,
    C_BadCommand := (He.ga K "BadCommand"),
    BadCommand_mg := PySem.W.mg_of X G er_BadCommand.a,
    C_Fault := (He.ga K "Fault"),
    Fault_mg := PySem.W.mg_of X G er_Fault.a,
    C_TooMany := (He.ga K "TooMany"),
    TooMany_mg := PySem.W.mg_of X G er_TooMany.a,
    C_BadLine := (He.ga K "BadLine"),
    BadLine_mg := PySem.W.mg_of X G er_BadLine.a,
    C_BadBytes := (He.ga K "BadBytes"),
    BadBytes_mg := PySem.W.mg_of X G er_BadBytes.a,
    C_Wrong := (He.ga K "Wrong"),
    Wrong_mg := PySem.W.mg_of X G er_Wrong.a,
    C_Empty := (He.ga K "Empty"),
    Empty_mg := PySem.W.mg_of X G er_Empty.a,
    C_NothingToUndo := (He.ga K "NothingToUndo"),
    NothingToUndo_mg := PySem.W.mg_of X G er_NothingToUndo.a,
    C_NothingToRedo := (He.ga K "NothingToRedo"),
    NothingToRedo_mg := PySem.W.mg_of X G er_NothingToRedo.a,
    C_TapeError := (He.ga K "TapeError"),
    TapeError_mg := PySem.W.mg_of X G gE.ta,
    TapeError_ex := fun D b h => EXM gE.tb gE.td gE.tt h,
    TapeError_ki := fun D h => kit_ref ⟨cls_some gE.td, gE.tt⟩ h fun _ => rfl,
    F__law_pot := (He.ga K "_law_pot"),
    fd__law_pot := fd__law_pot,
    _law_pot_ok := o__law_pot,
    b__law_pot := Fun.binds (ps := ["_law_script", "_law_k"]) o__law_pot fun _ _ _ _ _ _ us hl => match us, hl with | [_, _], _ => rfl,
    _law_pot_mg := PySem.W.mg_of X G (He.eqO_ok (c.fact 39 rfl)),
    F__law_take := (He.ga K "_law_take"),
    fd__law_take := fd__law_take,
    _law_take_ok := o__law_take,
    b__law_take := Fun.binds (ps := ["_law_pot_here", "_law_upto"]) o__law_take fun _ _ _ _ _ _ us hl => match us, hl with | [_, _], _ => rfl,
    _law_take_mg := PySem.W.mg_of X G (He.eqO_ok (c.fact 41 rfl)),
    F__law_of := (He.ga K "_law_of"),
    fd__law_of := fd__law_of,
    _law_of_ok := o__law_of,
    b__law_of := Fun.binds (ps := ["_law_pot_here", "_law_some"]) o__law_of fun _ _ _ _ _ _ us hl => match us, hl with | [_, _], _ => rfl,
    _law_of_mg := PySem.W.mg_of X G (He.eqO_ok (c.fact 43 rfl)),
    F__law_any := (He.ga K "_law_any"),
    fd__law_any := fd__law_any,
    _law_any_ok := o__law_any,
    b__law_any := Fun.binds (ps := ["_law_pot_here"]) o__law_any fun _ _ _ _ _ _ us hl => match us, hl with | [_], _ => rfl,
    _law_any_mg := PySem.W.mg_of X G (He.eqO_ok (c.fact 45 rfl)),
    F__law_made := (He.ga K "_law_made"),
    fd__law_made := fd__law_made,
    _law_made_ok := o__law_made,
    b__law_made := Fun.binds (ps := ["_law_thing"]) o__law_made fun _ _ _ _ _ _ us hl => match us, hl with | [_], _ => rfl,
    _law_made_mg := PySem.W.mg_of X G (He.eqO_ok (c.fact 47 rfl)),
    F__law_made_by_name := (He.ga K "_law_made_by_name"),
    fd__law_made_by_name := fd__law_made_by_name,
    _law_made_by_name_ok := o__law_made_by_name,
    b__law_made_by_name := Fun.binds (ps := ["_law_thing"]) o__law_made_by_name fun _ _ _ _ _ _ us hl => match us, hl with | [_], _ => rfl,
    _law_made_by_name_mg := PySem.W.mg_of X G (He.eqO_ok (c.fact 49 rfl)),
    F__law_first_marks := (He.ga K "_law_first_marks"),
    fd__law_first_marks := fd__law_first_marks,
    _law_first_marks_ok := o__law_first_marks,
    b__law_first_marks := Fun.binds (ps := ["_law_e"]) o__law_first_marks fun _ _ _ _ _ _ us hl => match us, hl with | [_], _ => rfl,
    _law_first_marks_mg := PySem.W.mg_of X G (He.eqO_ok (c.fact 51 rfl)),
    F__law_later_marks := (He.ga K "_law_later_marks"),
    fd__law_later_marks := fd__law_later_marks,
    _law_later_marks_ok := o__law_later_marks,
    b__law_later_marks := Fun.binds (ps := ["_law_e"]) o__law_later_marks fun _ _ _ _ _ _ us hl => match us, hl with | [_], _ => rfl,
    _law_later_marks_mg := PySem.W.mg_of X G (He.eqO_ok (c.fact 53 rfl)),
    F__law_marks := (He.ga K "_law_marks"),
    fd__law_marks := fd__law_marks,
    _law_marks_ok := o__law_marks,
    b__law_marks := Fun.binds (ps := ["_law_error"]) o__law_marks fun _ _ _ _ _ _ us hl => match us, hl with | [_], _ => rfl,
    _law_marks_mg := PySem.W.mg_of X G (He.eqO_ok (c.fact 55 rfl)),
    F__law_others := (He.ga K "_law_others"),
    fd__law_others := fd__law_others,
    _law_others_ok := o__law_others,
    b__law_others := Fun.binds (ps := ["_law_thing"]) o__law_others fun _ _ _ _ _ _ us hl => match us, hl with | [_], _ => rfl,
    _law_others_mg := PySem.W.mg_of X G (He.eqO_ok (c.fact 57 rfl)),
    F__law_right := (He.ga K "_law_right"),
    fd__law_right := fd__law_right,
    _law_right_ok := o__law_right,
    b__law_right := Fun.binds (ps := ["_law_pot_here"]) o__law_right fun _ _ _ _ _ _ us hl => match us, hl with | [_], _ => rfl,
    _law_right_mg := PySem.W.mg_of X G (He.eqO_ok (c.fact 59 rfl)),
    F_law := (He.ga K "law"),
    fd_law := fd_law,
    law_ok := o_law,
    b_law := Fun.binds (ps := ["_law_script"]) o_law fun _ _ _ _ _ _ us hl => match us, hl with | [_], _ => rfl,
    law_mg := PySem.W.mg_of X G (He.eqO_ok (c.fact 61 rfl)),
    BadSize_ev := ev_BadSize,
    BadWorth_ev := ev_BadWorth,
    BadMost_ev := ev_BadMost,
    BadItems_ev := ev_BadItems,
    BadWorld_ev := ev_BadWorld,
    BadSetup_ev := ev_BadSetup,
    BadStand_ev := ev_BadStand,
    BadDeed_ev := ev_BadDeed,
    BadPlan_ev := ev_BadPlan,
    BadKinds_ev := ev_BadKinds,
    BadSteps_ev := ev_BadSteps,
    BadEnd_ev := ev_BadEnd,
    NoWork_ev := ev_NoWork,
    BadValues_ev := ev_BadValues,
    BadState_ev := ev_BadState,
    BadTape_ev := ev_BadTape,
    BadStory_ev := ev_BadStory,
    BadNames_ev := ev_BadNames,
    BadPrices_ev := ev_BadPrices,
    BadDoing_ev := ev_BadDoing,
    NoKey_ev := ev_NoKey,
    BadChecks_ev := ev_BadChecks,
    BadPlace_ev := ev_BadPlace,
    NoTape_ev := ev_NoTape,
    NoName_ev := ev_NoName,
    BadThing_ev := ev_BadThing,
    BadRoom_ev := ev_BadRoom,
    BadCommand_ev := ev_BadCommand,
    Fault_ev := ev_Fault,
    TooMany_ev := ev_TooMany,
    BadLine_ev := ev_BadLine,
    BadBytes_ev := ev_BadBytes,
    Wrong_ev := ev_Wrong,
    Empty_ev := ev_Empty,
    NothingToUndo_ev := ev_NothingToUndo,
    NothingToRedo_ev := ev_NothingToRedo,
    b_int := PySem.W.mg_none_of X G (He.eqO_ok (c.fact 98 rfl)),
    b_bool := PySem.W.mg_none_of X G (He.eqO_ok (c.fact 99 rfl)),
    b_abs := PySem.W.mg_none_of X G (He.eqO_ok (c.fact 100 rfl)),
    b_len := PySem.W.mg_none_of X G (He.eqO_ok (c.fact 101 rfl)),
    b_isinstance := PySem.W.mg_none_of X G (He.eqO_ok (c.fact 102 rfl)),
    b_repr := PySem.W.mg_none_of X G (He.eqO_ok (c.fact 103 rfl)),
    b_all := PySem.W.mg_none_of X G (He.eqO_ok (c.fact 104 rfl)),
    b_range := PySem.W.mg_none_of X G (He.eqO_ok (c.fact 105 rfl)),
    b_ValueError := PySem.W.mg_none_of X G (He.eqO_ok (c.fact 106 rfl)),
    b_enumerate := PySem.W.mg_none_of X G (He.eqO_ok (c.fact 107 rfl)),
    x_kerM := of_decide_eq_true (c.fact 108 rfl),
    x_kerN := of_decide_eq_true (c.fact 109 rfl) }⟩

end K99

namespace K99
open PySem PySem.Spec PyProof.Rows L2 L2.TP
section
variable {P : Program} {w : World} {K : PySem.W.Frag} {mg : Str → Option Value} {base : Heap}
theorem primes_at (i : Int) (h0 : 0 ≤ i) (h5 : i < 5) : ∃ q : Int, atI [V.int 2147483647, V.int 2147483629, V.int 2147483587, V.int 2147483579, V.int 2147483563] i = some (.int q) ∧ 0 < q ∧ q < 4294967296 := by
  have h : i = 0 ∨ i = 1 ∨ i = 2 ∨ i = 3 ∨ i = 4 := by omega
  rcases h with rfl | rfl | rfl | rfl | rfl
  all_goals exact ⟨_, rfl, by decide, by decide⟩
theorem fm_nn {x m : Int} (h : 0 < m) : 0 ≤ x.fmod m := by
  rw [Int.fmod_eq_emod_of_nonneg x (by omega)]
  exact Int.emod_nonneg x (by omega)
theorem fm_lt {x m : Int} (h : 0 < m) : x.fmod m < m := by
  rw [Int.fmod_eq_emod_of_nonneg x (by omega)]
  exact Int.emod_lt_of_pos x h
theorem fd_nn {x m : Int} (hx : 0 ≤ x) (h : 0 < m) : 0 ≤ x.fdiv m := by
  rw [Int.fdiv_eq_ediv_of_nonneg x (by omega)]
  exact Int.ediv_nonneg hx (by omega)
theorem sq_lt {c : Int} (h0 : 0 ≤ c) (h1 : c ≤ 100001) : 0 ≤ 98411 * c * c ∧ 98411 * c * c ≤ 98411 * 100001 * 100001 := by
  have a1 : 0 ≤ 98411 * c := by omega
  have a2 : 98411 * c ≤ 98411 * 100001 := by omega
  exact ⟨Int.mul_nonneg a1 h0, Int.mul_le_mul a2 h1 h0 (by decide)⟩
theorem ok__law_take (T : Tx P K mg) : FnOk P w K mg base CX0 1 T.F__law_take T.fd__law_take ["_law_pot_here", "_law_upto"] spTake := by
  refine T._law_take_ok.ok sc__law_take (fun vs H Q E h => ?_) (fun cdv A outer s H vs Q E hr h => ?_)
  · obtain ⟨G, p, n, m, rfl, _⟩ := h
    rfl
  · obtain ⟨G, p, n, m, rfl, wp, hn, m0, m1, k⟩ := h
    have nd := sc__law_take.nd
    obtain ⟨a, b, c, hp, a0, b0, b1, c0, c1⟩ := wp.pot.at_
    refine ⟨_, (pss_cons (ps_if (pt_cmpR op_gt (pe_ix ix_list (pv 0) pe_int (fun _ _ => rfl)) pe_int (nomark _)) (pss_cons (ps_set (i := 2) nd rfl (Or.inl rfl) (pe_op op_modN (pe_callTy call_int1 (by rfl) T.b_int (by decide +kernel) (pa_cons (pe_ix ix_list (pv 0) pe_int (fun _ _ => rfl)) pa_nil)) (pv 1))) (pss_cons (ps_asg (pe_op op_fdivN (pe_ix ix_list (pv 0) pe_int (fun _ _ => rfl)) (pv 1)) (pg_sub (pv 0) pe_int set_list)) (pss_one (ps_ret (pv 2))))) pss_nil) (pss_cons (ps_asg (pe_op op_add (pe_ix ix_list (pv 0) pe_int (fun _ _ => rfl)) pe_int) (pg_sub (pv 0) pe_int set_list)) (pss_cons (ps_set (i := 3) nd rfl (Or.inl rfl) (pe_ix ix_list (pe_lst (pa_cons pe_int (pa_cons pe_int (pa_cons pe_int (pa_cons pe_int (pa_cons pe_int pa_nil)))))) (pe_op op_modN (pe_callTy call_int1 (by rfl) T.b_int (by decide +kernel) (pa_cons (pe_ix ix_list (pv 0) pe_int (fun _ _ => rfl)) pa_nil)) pe_int) (fun _ _ => rfl))) (pss_cons (ps_set (i := 4) nd rfl (Or.inl rfl) (pe_op op_modN (pe_callTy call_int1 (by rfl) T.b_int (by decide +kernel) (pa_cons (pe_op op_pow (pe_callTy call_int1 (by rfl) T.b_int (by decide +kernel) (pa_cons (pe_op op_add (pe_op op_add (pe_ix ix_list (pv 0) pe_int (fun _ _ => rfl)) (pe_op op_mul (pe_op op_mul pe_int (pe_ix ix_list (pv 0) pe_int (fun _ _ => rfl))) (pe_ix ix_list (pv 0) pe_int (fun _ _ => rfl)))) pe_int) pa_nil)) pe_int) pa_nil)) (pv 3))) (pss_cons (ps_set (i := 4) nd rfl (Or.inl rfl) (pe_op op_modN (pe_callTy call_int1 (by rfl) T.b_int (by decide +kernel) (pa_cons (pe_op op_mul (pv 4) (pe_op op_add (pe_op op_modN (pe_callTy call_int1 (by rfl) T.b_int (by decide +kernel) (pa_cons (pv 4) pa_nil)) pe_int) (pe_op op_mul pe_int (pe_ix ix_list (pv 0) pe_int (fun _ _ => rfl))))) pa_nil)) pe_int)) (pss_one (ps_ret (pe_op op_modN (pe_callTy call_int1 (by rfl) T.b_int (by decide +kernel) (pa_cons (pe_op op_fdivN (pv 4) pe_int) pa_nil)) (pv 1))))))))), ?_⟩
    refine ⟨_, rfl, p, _, _, _, rfl, rfl, SqL.of hp, rfl, _, _, rfl, rfl, _, rfl, ?_⟩
    refine ite2 (fun _ => ?_) (fun _ => ?_)
    · refine ⟨_, rfl, p, _, _, _, rfl, rfl, SqL.of hp, rfl, .inl ⟨_, rfl, _, rfl, _, _, rfl, rfl, (by show m ≠ 0; omega), ?_⟩⟩
      refine ⟨_, rfl, p, _, _, _, rfl, rfl, SqL.of hp, rfl, _, rfl, _, _, rfl, rfl, ⟨by omega, by omega⟩, ?_⟩
      refine ⟨_, rfl, p, _, _, 0, rfl, rfl, hp, rfl, ?_⟩
      refine ⟨_, rfl, ?_⟩
      refine k _ _ (fm_nn m0) (fm_lt m0) ⟨ext_over wp.ext wp.no, wp.no, ⟨_, b, c, upd_same, fd_nn a0 m0, b0, b1, c0, by omega⟩⟩
    · refine ⟨_, rfl, p, _, _, _, rfl, rfl, SqL.of hp, rfl, _, _, rfl, rfl, _, rfl, p, _, _, 2, rfl, rfl, hp, rfl, ?_⟩
      refine ⟨by show 5 ≤ sizeLine; decide, fun l hl => ?_⟩
      have ne : p ≠ l := fun z => by
        rw [← z, upd_same] at hl
        cases hl
      have hp2 : upd (upd H p (.lst [.int a, .int b, .int (c + 1)])) l (.lst [V.int 2147483647, V.int 2147483629, V.int 2147483587, V.int 2147483579, V.int 2147483563]) p = some (.lst [.int a, .int b, .int (c + 1)]) := by
        rw [upd_ne ne]
        exact upd_same
      obtain ⟨q, hq, q0, q1⟩ := primes_at ((c + 1).fmod 5) (fm_nn (by decide)) (fm_lt (by decide))
      refine ⟨_, rfl, p, _, _, _, rfl, rfl, SqL.of hp2, rfl, .inl ⟨_, rfl, _, _, rfl, rfl, (by show (5 : Int) ≠ 0; decide), l, _, _, _, rfl, rfl, SqL.of upd_same, hq, ?_⟩⟩
      obtain ⟨s1, s2⟩ := sq_lt (c := c + 1) (by omega) (by omega)
      refine ⟨_, rfl, p, _, _, _, rfl, rfl, SqL.of hp2, rfl, _, rfl, p, _, _, _, rfl, rfl, SqL.of hp2, rfl, _, _, rfl, rfl, .inl ⟨by omega, by omega⟩, _, rfl, p, _, _, _, rfl, rfl, SqL.of hp2, rfl, _, _, rfl, rfl, .inr ⟨by omega, by omega⟩, _, _, rfl, rfl, _, _, rfl, rfl, .inl ⟨_, rfl, _, _, rfl, rfl, ⟨by decide, by decide, ?_⟩, .inl ⟨_, rfl, _, rfl, _, _, rfl, rfl, (by show q ≠ 0; omega), ?_⟩⟩⟩
      · show (b + 98411 * (c + 1) * (c + 1) + 139).natAbs < 2 ^ 64
        omega
      have x0 := fm_nn (x := (b + 98411 * (c + 1) * (c + 1) + 139) ^ (3 : Int).toNat) q0
      have x1 := fm_lt (x := (b + 98411 * (c + 1) * (c + 1) + 139) ^ (3 : Int).toNat) q0
      generalize hx : ((b + 98411 * (c + 1) * (c + 1) + 139) ^ (3 : Int).toNat).fmod q = x at x0 x1
      refine ⟨_, rfl, _, rfl, .inl ⟨_, rfl, _, _, rfl, rfl, (by show (10009 : Int) ≠ 0; decide), _, rfl, p, _, _, _, rfl, rfl, SqL.of hp2, rfl, _, _, rfl, rfl, .inl ⟨by omega, by omega⟩, _, _, rfl, rfl, _, _, rfl, rfl, ?_, .inl ⟨_, rfl, _, _, rfl, rfl, (by show (2305843009213693907 : Int) ≠ 0; decide), ?_⟩⟩⟩
      · refine .inl ⟨?_, ?_⟩
        · show -(2 ^ 64) < ((b + 98411 * (c + 1) * (c + 1) + 139) ^ (3 : Int).toNat).fmod q
          rw [hx]
          omega
        · show ((b + 98411 * (c + 1) * (c + 1) + 139) ^ (3 : Int).toNat).fmod q < 2 ^ 64
          rw [hx]
          omega
      refine ⟨_, rfl, _, _, rfl, rfl, ⟨by decide, by decide⟩, .inl ⟨_, rfl, _, rfl, _, _, rfl, rfl, (by show m ≠ 0; omega), ?_⟩⟩
      refine k _ _ (fm_nn m0) (fm_lt m0) ⟨ext_over (ext_over wp.ext wp.no) (ext_none (ext_over wp.ext wp.no) hl), wp.no, ⟨a, b, c + 1, hp2, a0, b0, b1, by omega, by omega⟩⟩

/-- the pot of a cell -/
def spPot (K : PySem.W.Frag) : Sp := fun vs H Q _ => ∃ (a : Addr) (ns : List Int) (k : Int), vs = [.ref a, .int k] ∧ SqL K H a (ns.map V.int) ∧ 0 ≤ k ∧ k ≤ 100 ∧
  ∀ (p : Addr) (x y : Int), H p = none → 0 ≤ x → 0 ≤ y → y < 2305843009213693952 → Q (.ref p) (upd H p (.lst [.int x, .int y, .int 0]))
theorem ok__law_pot (T : Tx P K mg) : FnOk P w K mg base CX0 1 T.F__law_pot T.fd__law_pot ["_law_script", "_law_k"] (spPot K) := by
  refine T._law_pot_ok.ok sc__law_pot (fun vs H Q E h => ?_) (fun cdv A outer s H vs Q E hr h => ?_)
  · obtain ⟨a, ns, k, rfl, _⟩ := h
    rfl
  · obtain ⟨a, ns, k, rfl, hS, k0, k1, q⟩ := h
    have nd := sc__law_pot.nd
    refine ⟨_, (Evl.pss_cut (ps_set (i := 2) nd rfl (Or.inl rfl) (pe_ifExp (pt_cmpR op_lt (pv 1) (pe_callB call_len_seq (by rfl) T.b_len (by decide +kernel) (pa_cons (pv 0) pa_nil)) (nomark _)) (pe_ix ix_list (pv 0) (pv 1) (fun _ _ => rfl)) (pe_op op_add (pe_op op_mul pe_int (pv 1)) pe_int))) (pss_cons (ps_set (i := 3) nd rfl (Or.inl rfl) (pe_op op_mul (pe_op op_modN (pe_callTy call_int1 (by rfl) T.b_int (by decide +kernel) (pa_cons (pe_callB call_abs (by rfl) T.b_abs (by decide +kernel) (pa_cons (pv 2) pa_nil)) pa_nil)) (pe_op op_powW (pe_op op_pow pe_int pe_int) pe_int)) (pe_callTy call_int1 (by rfl) T.b_int (by decide +kernel) (pa_cons (pe_cmpR op_ge (pe_callB call_abs (by rfl) T.b_abs (by decide +kernel) (pa_cons (pv 2) pa_nil)) (pe_op op_pow pe_int pe_int) (nomark _)) pa_nil)))) (pss_one (ps_ret (pe_lst (pa_cons (pv 3) (pa_cons (pe_op op_modN (pe_callTy call_int1 (by rfl) T.b_int (by decide +kernel) (pa_cons (pe_op op_add (pe_op op_add (pe_op op_mul (pe_op op_modN (pe_callTy call_int1 (by rfl) T.b_int (by decide +kernel) (pa_cons (pv 2) pa_nil)) pe_int) pe_int) (pe_op op_mul (pe_op op_mul pe_int (pv 1)) (pv 1))) pe_int) pa_nil)) pe_int) (pa_cons pe_int pa_nil)))))))), ?_⟩
    refine ⟨fun σ' H' => ∃ c : Int, σ' = [some (.ref a), some (.int k), some (.int c), none] ∧ H' = H, ?_, ?_⟩
    · refine ⟨_, rfl, _, rfl, a, _, rfl, .inl hS, _, _, rfl, rfl, _, rfl, ?_⟩
      refine ite2 (fun h => ?_) (fun _ => ?_)
      · have hk : k < ((ns.map V.int).length : Int) := of_decide_eq_true h
        rw [List.length_map] at hk
        obtain ⟨j, rfl⟩ : ∃ j : Nat, k = (j : Int) := ⟨k.toNat, by omega⟩
        have hj : j < ns.length := by omega
        refine ⟨_, rfl, _, rfl, a, _, _, _, rfl, rfl, hS, atI_nat (v := V.int ns[j]) ?_, ns[j], rfl, rfl⟩
        rw [List.getElem?_map, List.getElem?_eq_getElem hj]
        rfl
      · exact ⟨_, rfl, _, _, rfl, rfl, .inl ⟨by omega, by omega⟩, _, _, rfl, rfl, _, rfl, rfl⟩
    · rintro σ' H' ⟨c, rfl, rfl⟩
      refine ⟨_, rfl, _, rfl, .inl ⟨_, rfl, _, _, rfl, rfl, ⟨by decide, by decide, by decide⟩, _, _, rfl, rfl, ⟨by decide, by decide +kernel⟩, _, _, rfl, rfl, (by show ((10 : Int) ^ (60 : Int).toNat) ^ (5 : Int).toNat ≠ 0; decide +kernel), ?_⟩⟩
      generalize hA : (if c < 0 then -c else c) = A'
      have hb : (0 : Int) < (10 ^ (60 : Int).toNat) ^ (5 : Int).toNat := by decide +kernel
      refine ⟨_, rfl, _, rfl, _, _, rfl, rfl, ⟨by decide, by decide, by decide⟩, _, _, rfl, rfl, .inr ⟨_, rfl, _, _, rfl, rfl, .inr ?_, ?_⟩⟩
      · constructor <;> (split <;> omega)
      have own0 : 0 ≤ A'.fmod ((10 ^ (60 : Int).toNat) ^ (5 : Int).toNat) * (if decide ((10 : Int) ^ (18 : Int).toNat ≤ (if c < 0 then -c else c)) = true then (1 : Int) else 0) := by
        refine Int.mul_nonneg (fm_nn hb) ?_
        split <;> omega
      have y0 := fm_nn (x := c) (m := 2305843009213693951) (by decide)
      have y1 := fm_lt (x := c) (m := 2305843009213693951) (by decide)
      refine ⟨_, rfl, _, rfl, .inl ⟨_, rfl, _, _, rfl, rfl, (by show (2305843009213693951 : Int) ≠ 0; decide), _, _, rfl, rfl, .inr ⟨by decide, by decide⟩, _, rfl, _, _, rfl, rfl, .inl ⟨by decide, by decide⟩, _, rfl, _, _, rfl, rfl, .inr ⟨by omega, by omega⟩, _, _, rfl, rfl, _, _, rfl, rfl, .inl ⟨_, rfl, _, _, rfl, rfl, (by show (2305843009213693921 : Int) ≠ 0; decide), by show 3 ≤ sizeLine; decide, fun p hp => ?_⟩⟩⟩
      exact q p _ _ hp own0 (fm_nn (by decide)) (Int.lt_trans (fm_lt (by decide)) (by decide))

/-- one of some things -/
def spOf (K : PySem.W.Frag) : Sp := fun vs H Q _ => ∃ (G : Hp) (p l : Addr) (n : Nat) (xs : List V), vs = [.ref p, .ref l] ∧ WP G p n H ∧ n ≤ 100000 ∧ SqL K G l xs ∧ 0 < xs.length ∧ xs.length ≤ 1000 ∧
  ∀ (i : Nat) (v : V) (H' : Hp), xs[i]? = some v → WP G p (n + 1) H' → Q v H'
theorem ok__law_of (T : Tx P K mg) : FnOk P w K mg base CX0 2 T.F__law_of T.fd__law_of ["_law_pot_here", "_law_some"] (spOf K) := by
  refine T._law_of_ok.ok sc__law_of (fun vs H Q E h => ?_) (fun cdv A outer s H vs Q E hr h => ?_)
  · obtain ⟨G, p, l, n, xs, rfl, _⟩ := h
    rfl
  · obtain ⟨G, p, l, n, xs, rfl, wp, hn, hl, l0, l1, k⟩ := h
    have nd := sc__law_of.nd
    refine ⟨_, (pss_one (ps_ret (pe_ix ix_list (pv 1) (pe_call (ok__law_take T) (hr.mono (by decide)) rfl T._law_take_mg T._law_take_ok.kp T.b__law_take .nil pass0 (pa_cons (pv 0) (pa_cons (pe_callB call_len_seq (by rfl) T.b_len (by decide +kernel) (pa_cons (pv 1) pa_nil)) pa_nil))) (fun _ _ => rfl)))), ?_⟩
    refine ⟨_, rfl, _, rfl, _, rfl, l, _, rfl, .inl (hl.ext wp.ext), G, p, n, (xs.length : Int), rfl, wp, hn, by omega, by omega, fun r H' r0 r1 wp' => ?_⟩
    obtain ⟨j, rfl⟩ : ∃ j : Nat, r = (j : Int) := ⟨r.toNat, by omega⟩
    have hj : j < xs.length := by omega
    refine ⟨l, _, _, _, rfl, rfl, hl.ext wp'.ext, atI_nat (List.getElem?_eq_getElem hj), ?_⟩
    exact k j _ H' (List.getElem?_eq_getElem hj) wp'

theorem int_r {i : Nat} {v : V} (h : [V.int 0, V.int 0, V.int 1, V.int 2, V.int 14][i]? = some v) : ∃ r : Nat, v = .int r ∧ r ≤ 14 := by
  match i, h with
  | 0, h => cases h; exact ⟨0, rfl, by decide⟩
  | 1, h => cases h; exact ⟨0, rfl, by decide⟩
  | 2, h => cases h; exact ⟨1, rfl, by decide⟩
  | 3, h => cases h; exact ⟨2, rfl, by decide⟩
  | 4, h => cases h; exact ⟨14, rfl, by decide⟩
  | n + 5, h => simp at h
def spAny : Sp := fun vs H Q _ => ∃ (G : Hp) (p : Addr) (k : Nat), vs = [.ref p] ∧ WP G p k H ∧ k ≤ 50000 ∧ ∀ v G' H', Ext G G' → WP G' p (k + 16) H' → Val G' 14 v → Q v H'
theorem ok__law_any (T : Tx P K mg) : FnOk P w K mg base CX0 4 T.F__law_any T.fd__law_any ["_law_pot_here"] spAny := by
  refine T._law_any_ok.ok sc__law_any (fun vs H Q E h => ?_) (fun cdv A outer s H vs Q E hr h => ?_)
  · obtain ⟨G, p, k, rfl, _⟩ := h
    rfl
  · obtain ⟨G, p, k, rfl, wp, hk, q⟩ := h
    have nd := sc__law_any.nd
    refine ⟨_, (pss_cons (ps_set (i := 1) nd rfl (Or.inl rfl) (pe_lst (pa_cons pe_non (pa_cons pe_bl (pa_cons pe_bl (pa_cons pe_int (pa_cons pe_int (pa_cons (pe_un un_neg pe_int) (pa_cons (pe_op op_pow pe_int pe_int) (pa_cons pe_str (pa_cons pe_str (pa_cons (pe_tup pa_nil) (pa_cons (pe_tup (pa_cons pe_str pa_nil)) (pa_cons (pe_lst pa_nil) (pa_cons (pe_lst (pa_cons pe_int pa_nil)) (pa_cons pe_dnewK (pa_cons (pe_disp (pps_cons pe_str pe_int pps_nil) (by rfl) (by rfl) (fun z => by cases z) (by decide)) (pa_cons (pe_tup (pa_cons (pe_tup pa_nil) (pa_cons (pe_lst (pa_cons pe_non pa_nil)) pa_nil))) pa_nil)))))))))))))))))) (pss_cons (ps_set (i := 2) nd rfl (Or.inl rfl) (pe_call (ok__law_of T) (hr.mono (by decide)) rfl T._law_of_mg T._law_of_ok.kp T.b__law_of .nil pass0 (pa_cons (pv 0) (pa_cons (pv 1) pa_nil)))) (pss_cons (ps_for PassesOwn.never rfl (pi_range1 (by rfl) T.b_range (pa_cons (pe_call (ok__law_of T) (hr.mono (by decide)) rfl T._law_of_mg T._law_of_ok.kp T.b__law_of .nil pass0 (pa_cons (pv 0) (pa_cons (pe_lst (pa_cons pe_int (pa_cons pe_int (pa_cons pe_int (pa_cons pe_int (pa_cons pe_int pa_nil)))))) pa_nil))) pa_nil)) (pg_name (i := 3) nd rfl (Or.inl rfl)) (pss_one (ps_set (i := 2) nd rfl (Or.inl rfl) (pe_call (ok__law_of T) (hr.mono (by decide)) rfl T._law_of_mg T._law_of_ok.kp T.b__law_of .nil pass0 (pa_cons (pv 0) (pa_cons (pe_lst (pa_cons (pe_tup (pa_cons (pv 2) pa_nil)) (pa_cons (pe_lst (pa_cons (pv 2) pa_nil)) (pa_cons (pe_disp (pps_cons pe_str (pv 2) pps_nil) (by rfl) (by rfl) (fun z => by cases z) (by decide)) (pa_cons (pe_tup (pa_cons (pv 2) (pa_cons pe_int pa_nil))) pa_nil))))) pa_nil)))))) (pss_one (ps_ret (pv 2)))))), ?_⟩
    refine ⟨_, rfl, _, _, rfl, rfl, ⟨by decide, by decide, by decide⟩, by show 0 ≤ sizeLine; decide, fun a1 h1 => ?_⟩
    obtain ⟨G1, e1, f1, w1⟩ := wp.newG (.tup []) h1
    refine ⟨by show 1 ≤ sizeLine; decide, fun a2 h2 => ?_⟩
    obtain ⟨G2, e2, f2, w2⟩ := w1.newG (.tup [.str "a"]) h2
    refine ⟨by show 0 ≤ sizeLine; decide, fun a3 h3 => ?_⟩
    obtain ⟨G3, e3, f3, w3⟩ := w2.newG (.lst []) h3
    refine ⟨by show 1 ≤ sizeLine; decide, fun a4 h4 => ?_⟩
    obtain ⟨G4, e4, f4, w4⟩ := w3.newG (.lst [.int 0]) h4
    intro a5 h5
    obtain ⟨G5, e5, f5, w5⟩ := w4.newG (.dK []) h5
    intro a6 h6
    refine ⟨upd_same, [(.inr "a", .int 1)], rfl, by show 1 ≤ 15; decide, ?_⟩
    obtain ⟨G6, e6, f6, w6⟩ := w5.newD (.dK []) (.dK (mergeK [] [(.inr "a", .int 1)])) h6
    have em : mergeK [] [(Sum.inr "a", V.int 1)] = ([(Sum.inr "a", .int 1)] : List (Key × V)) := rfl
    rw [em] at f6
    refine ⟨by show 0 ≤ sizeLine; decide, fun a7 h7 => ?_⟩
    obtain ⟨G7, e7, f7, w7⟩ := w6.newG (.tup []) h7
    refine ⟨by show 1 ≤ sizeLine; decide, fun a8 h8 => ?_⟩
    obtain ⟨G8, e8, f8, w8⟩ := w7.newG (.lst [.non]) h8
    refine ⟨by show 2 ≤ sizeLine; decide, fun a9 h9 => ?_⟩
    obtain ⟨G9, e9, f9, w9⟩ := w8.newG (.tup [.ref a7, .ref a8]) h9
    have y8 := e9
    have y7 := e8.trans y8
    have y6 := e7.trans y7
    have y5 := e6.trans y6
    have y4 := e5.trans y5
    have y3 := e4.trans y4
    have y2 := e3.trans y3
    have y1 := e2.trans y2
    have y0 := e1.trans y1
    have f1 := y1 _ _ f1
    have f2 := y2 _ _ f2
    have f3 := y3 _ _ f3
    have f4 := y4 _ _ f4
    have f5 := y5 _ _ f5
    have f6 := y6 _ _ f6
    have f7 := y7 _ _ f7
    have f8 := y8 _ _ f8
    clear y1 y2 y3 y4 y5 y6 y7 y8 e1 e2 e3 e4 e5 e6 e7 e8 e9 w1 w2 w3 w4 w5 w6 w7 w8 h1 h2 h3 h4 h5 h6 h7 h8 h9
    revert w9
    generalize upd _ a9 (HO.tup [.ref a7, .ref a8]) = H9
    intro w9
    refine ⟨by show 16 ≤ sizeLine; decide, fun l hl => ?_⟩
    obtain ⟨G0, e0, f0, w0⟩ := w9.newG (.lst [V.non, .bl true, .bl false, .int 0, .int 1, .int (-3), .int (10 ^ 17), .str "", .str "x", .ref a1, .ref a2, .ref a3, .ref a4, .ref a5, .ref a6, .ref a9]) hl
    refine ⟨_, rfl, _, rfl, _, p, l, _, [V.non, .bl true, .bl false, .int 0, .int 1, .int (-3), .int (10 ^ 17), .str "", .str "x", .ref a1, .ref a2, .ref a3, .ref a4, .ref a5, .ref a6, .ref a9], rfl, w0, by omega, SqL.of f0, (by show 0 < 16; decide), (by show 16 ≤ 1000; decide), fun j v H10 hj w10 => ?_⟩
    have hv : Val G9 0 v := by
      match j, hj with
      | 0, hj => cases hj; exact val_of _ .non (by decide +kernel)
      | 1, hj => cases hj; exact val_of _ (.bl _) (by decide +kernel)
      | 2, hj => cases hj; exact val_of _ (.bl _) (by decide +kernel)
      | 3, hj => cases hj; exact val_of _ (.int _) (by decide +kernel)
      | 4, hj => cases hj; exact val_of _ (.int _) (by decide +kernel)
      | 5, hj => cases hj; exact val_of _ (.int _) (by decide +kernel)
      | 6, hj => cases hj; exact val_of _ (.int _) (by decide +kernel)
      | 7, hj => cases hj; exact val_of _ (.str _) (by decide +kernel)
      | 8, hj => cases hj; exact val_of _ (.str _) (by decide +kernel)
      | 9, hj => cases hj; exact val_of _ (.tup f1 .nil) (by decide +kernel)
      | 10, hj => cases hj; exact val_of _ (.tup f2 (.cons (.str _) .nil)) (by decide +kernel)
      | 11, hj => cases hj; exact val_of _ (.lst f3 .nil) (by decide +kernel)
      | 12, hj => cases hj; exact val_of _ (.lst f4 (.cons (.int _) .nil)) (by decide +kernel)
      | 13, hj => cases hj; exact val_of _ (.dct f5 .nil) (by decide +kernel)
      | 14, hj => cases hj; exact val_of _ (.dct f6 (.cons (.int _) .nil)) (by decide +kernel)
      | 15, hj => cases hj; exact val_of _ (.tup f9 (.cons (.tup f7 .nil) (.cons (.lst f8 (.cons .non .nil)) .nil))) (by decide +kernel)
      | n + 16, hj => simp at hj
    have hv9 := hv.ext e0
    clear hj w9
    refine ⟨_, rfl, by show 5 ≤ sizeLine; decide, fun l4 hl4 => ?_⟩
    obtain ⟨G11, e11, f11, w11⟩ := w10.newG (.lst [.int 0, .int 0, .int 1, .int 2, .int 14]) hl4
    refine ⟨_, p, l4, _, [.int 0, .int 0, .int 1, .int 2, .int 14], rfl, w11, by omega, SqL.of f11, by decide, by decide, fun j r H12 hj w12 => ?_⟩
    obtain ⟨r, rfl, r12⟩ := int_r hj
    refine ⟨_, rfl, by omega, by omega, ?_⟩
    refine for_range (n := ((r : Int)).toNat) (lo := 0) (fun i σ H' => ∃ (G' : Hp) (v : V) (v1 v3 : Option V), σ = [some (.ref p), v1, some v, v3] ∧ Ext G G' ∧ WP G' p (k + 2 + i) H' ∧ Val G' i v)
      ⟨_, v, _, _, rfl, y0.trans (e0.trans e11), w12, hv9.ext e11⟩ ?_ ?_
    · rintro i σ H' hi ⟨G', v, v1, v3, rfl, xg, wi, vi⟩
      have i12 : i < 14 := by
        have : ((r : Int)).toNat = r := rfl
        omega
      refine ⟨_, rfl, _, rfl, by show 1 ≤ sizeLine; decide, fun b1 hb1 => ?_⟩
      obtain ⟨J1, z1, g1, u1⟩ := wi.newG (.tup [v]) hb1
      refine ⟨_, rfl, by show 1 ≤ sizeLine; decide, fun b2 hb2 => ?_⟩
      obtain ⟨J2, z2, g2, u2⟩ := u1.newG (.lst [v]) hb2
      intro b3 hb3
      refine ⟨_, rfl, upd_same, [(.inr "a", v)], rfl, by show 1 ≤ 15; decide, ?_⟩
      obtain ⟨J3, z3, g3, u3⟩ := u2.newD (.dK []) (.dK (mergeK [] [(.inr "a", v)])) hb3
      have em : mergeK [] [(Sum.inr "a", v)] = ([(Sum.inr "a", v)] : List (Key × V)) := rfl
      rw [em] at g3
      refine ⟨_, rfl, by show 2 ≤ sizeLine; decide, fun b5 hb5 => ?_⟩
      obtain ⟨J5, z5, g5, u5⟩ := u3.newG (.tup [v, .int 1]) hb5
      refine ⟨by show 4 ≤ sizeLine; decide, fun b4 hb4 => ?_⟩
      obtain ⟨J4, z4, g4, u4⟩ := u5.newG (.lst [.ref b1, .ref b2, .ref b3, .ref b5]) hb4
      refine ⟨_, p, b4, _, [.ref b1, .ref b2, .ref b3, .ref b5], rfl, u4, by omega, SqL.of g4, (by show 0 < 4; decide), (by show 4 ≤ 1000; decide), fun j u H13 hj w13 => ?_⟩
      have zz := z1.trans (z2.trans (z3.trans (z5.trans z4)))
      refine ⟨_, u, _, _, rfl, xg.trans zz, w13, ?_⟩
      obtain ⟨d, hd, sd⟩ := vi.ext zz
      match j, hj with
      | 0, hj =>
        cases hj
        exact ⟨_, .tup ((z2.trans (z3.trans (z5.trans z4))) _ _ g1) (.cons hd .nil), (Sd.tup (SdA.cons sd (SdA.nil (w := 0)))).mono (by omega) (by omega)⟩
      | 1, hj =>
        cases hj
        exact ⟨_, .lst ((z3.trans (z5.trans z4)) _ _ g2) (.cons hd .nil), (Sd.lst (SdA.cons sd (SdA.nil (w := 0)))).mono (by omega) (by omega)⟩
      | 2, hj =>
        cases hj
        exact ⟨.dict [(.str "a", d)], .dct ((z5.trans z4) _ _ g3) (.cons hd .nil), (Sd.dct1 (x := "a") sd (by decide +kernel)).mono (by omega) (by show 1 + (60 + 10 * i) + 2 ≤ _; omega)⟩
      | 3, hj =>
        cases hj
        exact ⟨_, .tup (z4 _ _ g5) (.cons hd (.cons (.int _) .nil)), (Sd.tup (SdA.cons sd (SdA.cons ((sd_int (i := 1) (by decide) (by decide)).mono (Nat.zero_le _) (Nat.le_refl _)) (SdA.nil (w := 0))))).mono (by omega) (by omega)⟩
      | n + 4, hj => simp at hj
    · rintro σ H' ⟨G', v, v1, v3, rfl, xg, wi, vi⟩
      have rr : ((r : Int)).toNat = r := rfl
      refine ⟨_, rfl, ?_⟩
      exact q v G' H' xg (wi.mono (by omega)) (vi.mono (by omega))
end
end K99

namespace K99
open PySem PySem.Spec PyProof.Rows L2 L2.TP
section
variable {P : Program} {w : World} {K : PySem.W.Frag} {mg : Str → Option Value} {base : Heap}
def cs (T : Tx P K mg) : List Addr := [T.C_BadSize, T.C_BadWorth, T.C_BadMost, T.C_BadItems, T.C_BadWorld, T.C_BadSetup, T.C_BadStand, T.C_BadDeed, T.C_BadPlan, T.C_BadKinds, T.C_BadSteps, T.C_BadEnd, T.C_NoWork, T.C_BadValues, T.C_BadState, T.C_BadTape, T.C_BadStory, T.C_BadNames, T.C_BadPrices, T.C_BadDoing, T.C_NoKey, T.C_BadChecks, T.C_BadPlace, T.C_NoTape, T.C_NoName, T.C_BadThing, T.C_BadRoom, T.C_BadCommand, T.C_Fault, T.C_TooMany, T.C_BadLine, T.C_BadBytes, T.C_Wrong, T.C_Empty, T.C_NothingToUndo, T.C_NothingToRedo]
def cv (T : Tx P K mg) : List Addr := [T.C_BadSize, T.C_BadWorth, T.C_BadMost, T.C_BadItems, T.C_BadWorld, T.C_BadSetup, T.C_BadStand, T.C_BadDeed, T.C_BadPlan, T.C_BadKinds, T.C_BadSteps, T.C_BadEnd, T.C_NoWork, T.C_BadValues, T.C_BadState, T.C_BadTape, T.C_BadStory, T.C_BadNames, T.C_BadPrices, T.C_BadDoing, T.C_NoKey, T.C_BadChecks, T.C_BadPlace, T.C_NoTape, T.C_NoName, T.C_BadThing, T.C_BadRoom, T.C_BadCommand]
def fst_ (T : Tx P K mg) : List Addr := [T.C_BadSize, T.C_BadWorth, T.C_BadMost, T.C_BadItems, T.C_BadWorld, T.C_BadSetup, T.C_BadStand, T.C_BadDeed, T.C_BadPlan, T.C_BadKinds, T.C_BadSteps, T.C_BadEnd, T.C_NoWork, T.C_BadValues, T.C_BadState]
def ltr_ (T : Tx P K mg) : List Addr := [T.C_BadTape, T.C_BadStory, T.C_BadNames, T.C_BadPrices, T.C_BadDoing, T.C_NoKey, T.C_BadChecks, T.C_BadPlace, T.C_NoTape, T.C_NoName, T.C_BadThing, T.C_BadRoom, T.C_BadCommand, T.C_Fault, T.C_TooMany, T.C_BadLine, T.C_BadBytes, T.C_Wrong, T.C_Empty, T.C_NothingToUndo, T.C_NothingToRedo]
theorem kit_cs (T : Tx P K mg) {D C : Addr} (hD : D ∈ cs T) (hC : C ∈ cs T) : PySem.W.kitOne K (.ref D) (.ref C) = some (D == C) := by
  have h := T.x_kerM
  have h1 := List.all_eq_true.mp h D hD
  exact beq_iff_eq.mp (List.all_eq_true.mp h1 C hC)
theorem nodup_cs (T : Tx P K mg) : (cs T).Nodup := of_decide_eq_true T.x_kerN
theorem cs_two (T : Tx P K mg) : cs T = fst_ T ++ ltr_ T := rfl
def spMade (Cs : List Addr) : Sp := fun vs H Q _ => ∃ v, vs = [v] ∧ ∀ as l H', Ext H H' → H' l = some (.lst (as.map V.ref)) → Ers H' ["value"] [v] Cs as → Q (.ref l) H'
theorem ok__law_made (T : Tx P K mg) : FnOk P w K mg base CX0 2 T.F__law_made T.fd__law_made ["_law_thing"] (spMade (cv T)) := by
  refine T._law_made_ok.ok sc__law_made (fun vs H Q E h => ?_) (fun cdv A outer s H vs Q E hr h => ?_)
  · obtain ⟨v, rfl, _⟩ := h
    rfl
  · obtain ⟨v, rfl, k⟩ := h
    have nd := sc__law_made.nd
    refine ⟨_, (pss_cons (ps_set (i := 1) nd rfl (Or.inl rfl) (pe_lst (pa_cons (pe_errP T.BadSize_ev.ep (by decide) rfl hr (pa_cons (pv 0) pa_nil)) (pa_cons (pe_errP T.BadWorth_ev.ep (by decide) rfl hr (pa_cons (pv 0) pa_nil)) (pa_cons (pe_errP T.BadMost_ev.ep (by decide) rfl hr (pa_cons (pv 0) pa_nil)) (pa_cons (pe_errP T.BadItems_ev.ep (by decide) rfl hr (pa_cons (pv 0) pa_nil)) (pa_cons (pe_errP T.BadWorld_ev.ep (by decide) rfl hr (pa_cons (pv 0) pa_nil)) (pa_cons (pe_errP T.BadSetup_ev.ep (by decide) rfl hr (pa_cons (pv 0) pa_nil)) pa_nil)))))))) (pss_cons (ps_set (i := 1) nd rfl (Or.inl rfl) (pe_op op_cat (pv 1) (pe_lst (pa_cons (pe_errP T.BadStand_ev.ep (by decide) rfl hr (pa_cons (pv 0) pa_nil)) (pa_cons (pe_errP T.BadDeed_ev.ep (by decide) rfl hr (pa_cons (pv 0) pa_nil)) (pa_cons (pe_errP T.BadPlan_ev.ep (by decide) rfl hr (pa_cons (pv 0) pa_nil)) (pa_cons (pe_errP T.BadKinds_ev.ep (by decide) rfl hr (pa_cons (pv 0) pa_nil)) (pa_cons (pe_errP T.BadSteps_ev.ep (by decide) rfl hr (pa_cons (pv 0) pa_nil)) (pa_cons (pe_errP T.BadEnd_ev.ep (by decide) rfl hr (pa_cons (pv 0) pa_nil)) pa_nil))))))))) (pss_cons (ps_set (i := 1) nd rfl (Or.inl rfl) (pe_op op_cat (pv 1) (pe_lst (pa_cons (pe_errP T.NoWork_ev.ep (by decide) rfl hr (pa_cons (pv 0) pa_nil)) (pa_cons (pe_errP T.BadValues_ev.ep (by decide) rfl hr (pa_cons (pv 0) pa_nil)) (pa_cons (pe_errP T.BadState_ev.ep (by decide) rfl hr (pa_cons (pv 0) pa_nil)) (pa_cons (pe_errP T.BadTape_ev.ep (by decide) rfl hr (pa_cons (pv 0) pa_nil)) (pa_cons (pe_errP T.BadStory_ev.ep (by decide) rfl hr (pa_cons (pv 0) pa_nil)) pa_nil)))))))) (pss_cons (ps_set (i := 1) nd rfl (Or.inl rfl) (pe_op op_cat (pv 1) (pe_lst (pa_cons (pe_errP T.BadNames_ev.ep (by decide) rfl hr (pa_cons (pv 0) pa_nil)) (pa_cons (pe_errP T.BadPrices_ev.ep (by decide) rfl hr (pa_cons (pv 0) pa_nil)) (pa_cons (pe_errP T.BadDoing_ev.ep (by decide) rfl hr (pa_cons (pv 0) pa_nil)) (pa_cons (pe_errP T.NoKey_ev.ep (by decide) rfl hr (pa_cons (pv 0) pa_nil)) (pa_cons (pe_errP T.BadChecks_ev.ep (by decide) rfl hr (pa_cons (pv 0) pa_nil)) pa_nil)))))))) (pss_one (ps_ret (pe_op op_cat (pv 1) (pe_lst (pa_cons (pe_errP T.BadPlace_ev.ep (by decide) rfl hr (pa_cons (pv 0) pa_nil)) (pa_cons (pe_errP T.NoTape_ev.ep (by decide) rfl hr (pa_cons (pv 0) pa_nil)) (pa_cons (pe_errP T.NoName_ev.ep (by decide) rfl hr (pa_cons (pv 0) pa_nil)) (pa_cons (pe_errP T.BadThing_ev.ep (by decide) rfl hr (pa_cons (pv 0) pa_nil)) (pa_cons (pe_errP T.BadRoom_ev.ep (by decide) rfl hr (pa_cons (pv 0) pa_nil)) (pa_cons (pe_errP T.BadCommand_ev.ep (by decide) rfl hr (pa_cons (pv 0) pa_nil)) pa_nil)))))))))))))), ?_⟩
    refine ⟨_, rfl, rfl, rfl, fun a1 d1 na nd ne => ?_⟩
    obtain ⟨x, h⟩ := er_new (fs := ["value"]) (vs := [v] ++ []) (C := T.C_BadSize) na nd ne
    generalize upd (upd _ d1 _) a1 _ = H1 at x h ⊢
    have X := x
    have E : Ers H1 ["value"] [v] _ _ := .cons h .nil
    clear x h na nd ne
    refine ⟨_, rfl, rfl, rfl, fun a2 d2 na nd ne => ?_⟩
    obtain ⟨x, h⟩ := er_new (fs := ["value"]) (vs := [v] ++ []) (C := T.C_BadWorth) na nd ne
    generalize upd (upd _ d2 _) a2 _ = H2 at x h ⊢
    replace E := (E.ext x).app (.cons h .nil)
    replace X := X.trans x
    clear x h na nd ne
    refine ⟨_, rfl, rfl, rfl, fun a3 d3 na nd ne => ?_⟩
    obtain ⟨x, h⟩ := er_new (fs := ["value"]) (vs := [v] ++ []) (C := T.C_BadMost) na nd ne
    generalize upd (upd _ d3 _) a3 _ = H3 at x h ⊢
    replace E := (E.ext x).app (.cons h .nil)
    replace X := X.trans x
    clear x h na nd ne
    refine ⟨_, rfl, rfl, rfl, fun a4 d4 na nd ne => ?_⟩
    obtain ⟨x, h⟩ := er_new (fs := ["value"]) (vs := [v] ++ []) (C := T.C_BadItems) na nd ne
    generalize upd (upd _ d4 _) a4 _ = H4 at x h ⊢
    replace E := (E.ext x).app (.cons h .nil)
    replace X := X.trans x
    clear x h na nd ne
    refine ⟨_, rfl, rfl, rfl, fun a5 d5 na nd ne => ?_⟩
    obtain ⟨x, h⟩ := er_new (fs := ["value"]) (vs := [v] ++ []) (C := T.C_BadWorld) na nd ne
    generalize upd (upd _ d5 _) a5 _ = H5 at x h ⊢
    replace E := (E.ext x).app (.cons h .nil)
    replace X := X.trans x
    clear x h na nd ne
    refine ⟨_, rfl, rfl, rfl, fun a6 d6 na nd ne => ?_⟩
    obtain ⟨x, h⟩ := er_new (fs := ["value"]) (vs := [v] ++ []) (C := T.C_BadSetup) na nd ne
    generalize upd (upd _ d6 _) a6 _ = H6 at x h ⊢
    replace E := (E.ext x).app (.cons h .nil)
    replace X := X.trans x
    clear x h na nd ne
    refine ⟨by show 6 ≤ sizeLine; decide, fun l0 hl => ?_⟩
    generalize hJ : upd _ l0 _ = J0
    obtain ⟨x, f⟩ := new_of hJ hl
    clear hJ
    replace E := E.ext x
    replace X := X.trans x
    have F := f
    clear x hl f
    refine ⟨_, rfl, ?_⟩
    refine ⟨_, rfl, rfl, rfl, fun a7 d7 na nd ne => ?_⟩
    obtain ⟨x, h⟩ := er_new (fs := ["value"]) (vs := [v] ++ []) (C := T.C_BadStand) na nd ne
    generalize upd (upd _ d7 _) a7 _ = H7 at x h ⊢
    replace E := (E.ext x).app (.cons h .nil)
    replace X := X.trans x
    replace F := x _ _ F
    clear x h na nd ne
    refine ⟨_, rfl, rfl, rfl, fun a8 d8 na nd ne => ?_⟩
    obtain ⟨x, h⟩ := er_new (fs := ["value"]) (vs := [v] ++ []) (C := T.C_BadDeed) na nd ne
    generalize upd (upd _ d8 _) a8 _ = H8 at x h ⊢
    replace E := (E.ext x).app (.cons h .nil)
    replace X := X.trans x
    replace F := x _ _ F
    clear x h na nd ne
    refine ⟨_, rfl, rfl, rfl, fun a9 d9 na nd ne => ?_⟩
    obtain ⟨x, h⟩ := er_new (fs := ["value"]) (vs := [v] ++ []) (C := T.C_BadPlan) na nd ne
    generalize upd (upd _ d9 _) a9 _ = H9 at x h ⊢
    replace E := (E.ext x).app (.cons h .nil)
    replace X := X.trans x
    replace F := x _ _ F
    clear x h na nd ne
    refine ⟨_, rfl, rfl, rfl, fun a10 d10 na nd ne => ?_⟩
    obtain ⟨x, h⟩ := er_new (fs := ["value"]) (vs := [v] ++ []) (C := T.C_BadKinds) na nd ne
    generalize upd (upd _ d10 _) a10 _ = H10 at x h ⊢
    replace E := (E.ext x).app (.cons h .nil)
    replace X := X.trans x
    replace F := x _ _ F
    clear x h na nd ne
    refine ⟨_, rfl, rfl, rfl, fun a11 d11 na nd ne => ?_⟩
    obtain ⟨x, h⟩ := er_new (fs := ["value"]) (vs := [v] ++ []) (C := T.C_BadSteps) na nd ne
    generalize upd (upd _ d11 _) a11 _ = H11 at x h ⊢
    replace E := (E.ext x).app (.cons h .nil)
    replace X := X.trans x
    replace F := x _ _ F
    clear x h na nd ne
    refine ⟨_, rfl, rfl, rfl, fun a12 d12 na nd ne => ?_⟩
    obtain ⟨x, h⟩ := er_new (fs := ["value"]) (vs := [v] ++ []) (C := T.C_BadEnd) na nd ne
    generalize upd (upd _ d12 _) a12 _ = H12 at x h ⊢
    replace E := (E.ext x).app (.cons h .nil)
    replace X := X.trans x
    replace F := x _ _ F
    clear x h na nd ne
    refine ⟨by show 6 ≤ sizeLine; decide, fun l1 hl => ?_⟩
    generalize hJ : upd _ l1 _ = J1
    obtain ⟨x, f⟩ := new_of hJ hl
    clear hJ
    replace E := E.ext x
    replace X := X.trans x
    replace F := x _ _ F
    clear x hl
    refine ⟨_, l1, _, _, rfl, rfl, F, f, by show 6 + 6 ≤ sizeLine; decide, fun m1 hl => ?_⟩
    generalize hJ : upd _ m1 _ = M1
    obtain ⟨x, f2⟩ := new_of hJ hl
    clear hJ
    simp only [List.cons_append, List.nil_append] at f2
    replace E := E.ext x
    replace X := X.trans x
    replace F := f2
    clear f2
    clear x hl f
    refine ⟨_, rfl, ?_⟩
    refine ⟨_, rfl, rfl, rfl, fun a13 d13 na nd ne => ?_⟩
    obtain ⟨x, h⟩ := er_new (fs := ["value"]) (vs := [v] ++ []) (C := T.C_NoWork) na nd ne
    generalize upd (upd _ d13 _) a13 _ = H13 at x h ⊢
    replace E := (E.ext x).app (.cons h .nil)
    replace X := X.trans x
    replace F := x _ _ F
    clear x h na nd ne
    refine ⟨_, rfl, rfl, rfl, fun a14 d14 na nd ne => ?_⟩
    obtain ⟨x, h⟩ := er_new (fs := ["value"]) (vs := [v] ++ []) (C := T.C_BadValues) na nd ne
    generalize upd (upd _ d14 _) a14 _ = H14 at x h ⊢
    replace E := (E.ext x).app (.cons h .nil)
    replace X := X.trans x
    replace F := x _ _ F
    clear x h na nd ne
    refine ⟨_, rfl, rfl, rfl, fun a15 d15 na nd ne => ?_⟩
    obtain ⟨x, h⟩ := er_new (fs := ["value"]) (vs := [v] ++ []) (C := T.C_BadState) na nd ne
    generalize upd (upd _ d15 _) a15 _ = H15 at x h ⊢
    replace E := (E.ext x).app (.cons h .nil)
    replace X := X.trans x
    replace F := x _ _ F
    clear x h na nd ne
    refine ⟨_, rfl, rfl, rfl, fun a16 d16 na nd ne => ?_⟩
    obtain ⟨x, h⟩ := er_new (fs := ["value"]) (vs := [v] ++ []) (C := T.C_BadTape) na nd ne
    generalize upd (upd _ d16 _) a16 _ = H16 at x h ⊢
    replace E := (E.ext x).app (.cons h .nil)
    replace X := X.trans x
    replace F := x _ _ F
    clear x h na nd ne
    refine ⟨_, rfl, rfl, rfl, fun a17 d17 na nd ne => ?_⟩
    obtain ⟨x, h⟩ := er_new (fs := ["value"]) (vs := [v] ++ []) (C := T.C_BadStory) na nd ne
    generalize upd (upd _ d17 _) a17 _ = H17 at x h ⊢
    replace E := (E.ext x).app (.cons h .nil)
    replace X := X.trans x
    replace F := x _ _ F
    clear x h na nd ne
    refine ⟨by show 5 ≤ sizeLine; decide, fun l2 hl => ?_⟩
    generalize hJ : upd _ l2 _ = J2
    obtain ⟨x, f⟩ := new_of hJ hl
    clear hJ
    replace E := E.ext x
    replace X := X.trans x
    replace F := x _ _ F
    clear x hl
    refine ⟨_, l2, _, _, rfl, rfl, F, f, by show 12 + 5 ≤ sizeLine; decide, fun m2 hl => ?_⟩
    generalize hJ : upd _ m2 _ = M2
    obtain ⟨x, f2⟩ := new_of hJ hl
    clear hJ
    simp only [List.cons_append, List.nil_append] at f2
    replace E := E.ext x
    replace X := X.trans x
    replace F := f2
    clear f2
    clear x hl f
    refine ⟨_, rfl, ?_⟩
    refine ⟨_, rfl, rfl, rfl, fun a18 d18 na nd ne => ?_⟩
    obtain ⟨x, h⟩ := er_new (fs := ["value"]) (vs := [v] ++ []) (C := T.C_BadNames) na nd ne
    generalize upd (upd _ d18 _) a18 _ = H18 at x h ⊢
    replace E := (E.ext x).app (.cons h .nil)
    replace X := X.trans x
    replace F := x _ _ F
    clear x h na nd ne
    refine ⟨_, rfl, rfl, rfl, fun a19 d19 na nd ne => ?_⟩
    obtain ⟨x, h⟩ := er_new (fs := ["value"]) (vs := [v] ++ []) (C := T.C_BadPrices) na nd ne
    generalize upd (upd _ d19 _) a19 _ = H19 at x h ⊢
    replace E := (E.ext x).app (.cons h .nil)
    replace X := X.trans x
    replace F := x _ _ F
    clear x h na nd ne
    refine ⟨_, rfl, rfl, rfl, fun a20 d20 na nd ne => ?_⟩
    obtain ⟨x, h⟩ := er_new (fs := ["value"]) (vs := [v] ++ []) (C := T.C_BadDoing) na nd ne
    generalize upd (upd _ d20 _) a20 _ = H20 at x h ⊢
    replace E := (E.ext x).app (.cons h .nil)
    replace X := X.trans x
    replace F := x _ _ F
    clear x h na nd ne
    refine ⟨_, rfl, rfl, rfl, fun a21 d21 na nd ne => ?_⟩
    obtain ⟨x, h⟩ := er_new (fs := ["value"]) (vs := [v] ++ []) (C := T.C_NoKey) na nd ne
    generalize upd (upd _ d21 _) a21 _ = H21 at x h ⊢
    replace E := (E.ext x).app (.cons h .nil)
    replace X := X.trans x
    replace F := x _ _ F
    clear x h na nd ne
    refine ⟨_, rfl, rfl, rfl, fun a22 d22 na nd ne => ?_⟩
    obtain ⟨x, h⟩ := er_new (fs := ["value"]) (vs := [v] ++ []) (C := T.C_BadChecks) na nd ne
    generalize upd (upd _ d22 _) a22 _ = H22 at x h ⊢
    replace E := (E.ext x).app (.cons h .nil)
    replace X := X.trans x
    replace F := x _ _ F
    clear x h na nd ne
    refine ⟨by show 5 ≤ sizeLine; decide, fun l3 hl => ?_⟩
    generalize hJ : upd _ l3 _ = J3
    obtain ⟨x, f⟩ := new_of hJ hl
    clear hJ
    replace E := E.ext x
    replace X := X.trans x
    replace F := x _ _ F
    clear x hl
    refine ⟨_, l3, _, _, rfl, rfl, F, f, by show 17 + 5 ≤ sizeLine; decide, fun m3 hl => ?_⟩
    generalize hJ : upd _ m3 _ = M3
    obtain ⟨x, f2⟩ := new_of hJ hl
    clear hJ
    simp only [List.cons_append, List.nil_append] at f2
    replace E := E.ext x
    replace X := X.trans x
    replace F := f2
    clear f2
    clear x hl f
    refine ⟨_, rfl, ?_⟩
    refine ⟨_, rfl, rfl, rfl, fun a23 d23 na nd ne => ?_⟩
    obtain ⟨x, h⟩ := er_new (fs := ["value"]) (vs := [v] ++ []) (C := T.C_BadPlace) na nd ne
    generalize upd (upd _ d23 _) a23 _ = H23 at x h ⊢
    replace E := (E.ext x).app (.cons h .nil)
    replace X := X.trans x
    replace F := x _ _ F
    clear x h na nd ne
    refine ⟨_, rfl, rfl, rfl, fun a24 d24 na nd ne => ?_⟩
    obtain ⟨x, h⟩ := er_new (fs := ["value"]) (vs := [v] ++ []) (C := T.C_NoTape) na nd ne
    generalize upd (upd _ d24 _) a24 _ = H24 at x h ⊢
    replace E := (E.ext x).app (.cons h .nil)
    replace X := X.trans x
    replace F := x _ _ F
    clear x h na nd ne
    refine ⟨_, rfl, rfl, rfl, fun a25 d25 na nd ne => ?_⟩
    obtain ⟨x, h⟩ := er_new (fs := ["value"]) (vs := [v] ++ []) (C := T.C_NoName) na nd ne
    generalize upd (upd _ d25 _) a25 _ = H25 at x h ⊢
    replace E := (E.ext x).app (.cons h .nil)
    replace X := X.trans x
    replace F := x _ _ F
    clear x h na nd ne
    refine ⟨_, rfl, rfl, rfl, fun a26 d26 na nd ne => ?_⟩
    obtain ⟨x, h⟩ := er_new (fs := ["value"]) (vs := [v] ++ []) (C := T.C_BadThing) na nd ne
    generalize upd (upd _ d26 _) a26 _ = H26 at x h ⊢
    replace E := (E.ext x).app (.cons h .nil)
    replace X := X.trans x
    replace F := x _ _ F
    clear x h na nd ne
    refine ⟨_, rfl, rfl, rfl, fun a27 d27 na nd ne => ?_⟩
    obtain ⟨x, h⟩ := er_new (fs := ["value"]) (vs := [v] ++ []) (C := T.C_BadRoom) na nd ne
    generalize upd (upd _ d27 _) a27 _ = H27 at x h ⊢
    replace E := (E.ext x).app (.cons h .nil)
    replace X := X.trans x
    replace F := x _ _ F
    clear x h na nd ne
    refine ⟨_, rfl, rfl, rfl, fun a28 d28 na nd ne => ?_⟩
    obtain ⟨x, h⟩ := er_new (fs := ["value"]) (vs := [v] ++ []) (C := T.C_BadCommand) na nd ne
    generalize upd (upd _ d28 _) a28 _ = H28 at x h ⊢
    replace E := (E.ext x).app (.cons h .nil)
    replace X := X.trans x
    replace F := x _ _ F
    clear x h na nd ne
    refine ⟨by show 6 ≤ sizeLine; decide, fun l4 hl => ?_⟩
    generalize hJ : upd _ l4 _ = J4
    obtain ⟨x, f⟩ := new_of hJ hl
    clear hJ
    replace E := E.ext x
    replace X := X.trans x
    replace F := x _ _ F
    clear x hl
    refine ⟨_, l4, _, _, rfl, rfl, F, f, by show 22 + 6 ≤ sizeLine; decide, fun m4 hl => ?_⟩
    generalize hJ : upd _ m4 _ = M4
    obtain ⟨x, f2⟩ := new_of hJ hl
    clear hJ
    simp only [List.cons_append, List.nil_append] at f2
    replace E := E.ext x
    replace X := X.trans x
    replace F := f2
    clear f2
    clear x hl f
    simp only [List.cons_append, List.nil_append] at E
    exact k [a1, a2, a3, a4, a5, a6, a7, a8, a9, a10, a11, a12, a13, a14, a15, a16, a17, a18, a19, a20, a21, a22, a23, a24, a25, a26, a27, a28] _ _ X F E
theorem ok__law_made_by_name (T : Tx P K mg) : FnOk P w K mg base CX0 2 T.F__law_made_by_name T.fd__law_made_by_name ["_law_thing"] (spMade (cv T)) := by
  refine T._law_made_by_name_ok.ok sc__law_made_by_name (fun vs H Q E h => ?_) (fun cdv A outer s H vs Q E hr h => ?_)
  · obtain ⟨v, rfl, _⟩ := h
    rfl
  · obtain ⟨v, rfl, k⟩ := h
    have nd := sc__law_made_by_name.nd
    refine ⟨_, (pss_cons (ps_set (i := 1) nd rfl (Or.inl rfl) (pe_lst (pa_cons (pe_errK T.BadSize_ev.ew rfl hr (pk_cons (pv 0) pk_nil)) (pa_cons (pe_errK T.BadWorth_ev.ew rfl hr (pk_cons (pv 0) pk_nil)) (pa_cons (pe_errK T.BadMost_ev.ew rfl hr (pk_cons (pv 0) pk_nil)) (pa_cons (pe_errK T.BadItems_ev.ew rfl hr (pk_cons (pv 0) pk_nil)) pa_nil)))))) (pss_cons (ps_set (i := 1) nd rfl (Or.inl rfl) (pe_op op_cat (pv 1) (pe_lst (pa_cons (pe_errK T.BadWorld_ev.ew rfl hr (pk_cons (pv 0) pk_nil)) (pa_cons (pe_errK T.BadSetup_ev.ew rfl hr (pk_cons (pv 0) pk_nil)) (pa_cons (pe_errK T.BadStand_ev.ew rfl hr (pk_cons (pv 0) pk_nil)) (pa_cons (pe_errK T.BadDeed_ev.ew rfl hr (pk_cons (pv 0) pk_nil)) pa_nil))))))) (pss_cons (ps_set (i := 1) nd rfl (Or.inl rfl) (pe_op op_cat (pv 1) (pe_lst (pa_cons (pe_errK T.BadPlan_ev.ew rfl hr (pk_cons (pv 0) pk_nil)) (pa_cons (pe_errK T.BadKinds_ev.ew rfl hr (pk_cons (pv 0) pk_nil)) (pa_cons (pe_errK T.BadSteps_ev.ew rfl hr (pk_cons (pv 0) pk_nil)) (pa_cons (pe_errK T.BadEnd_ev.ew rfl hr (pk_cons (pv 0) pk_nil)) pa_nil))))))) (pss_cons (ps_set (i := 1) nd rfl (Or.inl rfl) (pe_op op_cat (pv 1) (pe_lst (pa_cons (pe_errK T.NoWork_ev.ew rfl hr (pk_cons (pv 0) pk_nil)) (pa_cons (pe_errK T.BadValues_ev.ew rfl hr (pk_cons (pv 0) pk_nil)) (pa_cons (pe_errK T.BadState_ev.ew rfl hr (pk_cons (pv 0) pk_nil)) (pa_cons (pe_errK T.BadTape_ev.ew rfl hr (pk_cons (pv 0) pk_nil)) pa_nil))))))) (pss_cons (ps_set (i := 1) nd rfl (Or.inl rfl) (pe_op op_cat (pv 1) (pe_lst (pa_cons (pe_errK T.BadStory_ev.ew rfl hr (pk_cons (pv 0) pk_nil)) (pa_cons (pe_errK T.BadNames_ev.ew rfl hr (pk_cons (pv 0) pk_nil)) (pa_cons (pe_errK T.BadPrices_ev.ew rfl hr (pk_cons (pv 0) pk_nil)) (pa_cons (pe_errK T.BadDoing_ev.ew rfl hr (pk_cons (pv 0) pk_nil)) pa_nil))))))) (pss_cons (ps_set (i := 1) nd rfl (Or.inl rfl) (pe_op op_cat (pv 1) (pe_lst (pa_cons (pe_errK T.NoKey_ev.ew rfl hr (pk_cons (pv 0) pk_nil)) (pa_cons (pe_errK T.BadChecks_ev.ew rfl hr (pk_cons (pv 0) pk_nil)) (pa_cons (pe_errK T.BadPlace_ev.ew rfl hr (pk_cons (pv 0) pk_nil)) (pa_cons (pe_errK T.NoTape_ev.ew rfl hr (pk_cons (pv 0) pk_nil)) pa_nil))))))) (pss_cons (ps_set (i := 1) nd rfl (Or.inl rfl) (pe_op op_cat (pv 1) (pe_lst (pa_cons (pe_errK T.NoName_ev.ew rfl hr (pk_cons (pv 0) pk_nil)) (pa_cons (pe_errK T.BadThing_ev.ew rfl hr (pk_cons (pv 0) pk_nil)) (pa_cons (pe_errK T.BadRoom_ev.ew rfl hr (pk_cons (pv 0) pk_nil)) (pa_cons (pe_errK T.BadCommand_ev.ew rfl hr (pk_cons (pv 0) pk_nil)) pa_nil))))))) (pss_one (ps_ret (pv 1)))))))))), ?_⟩
    refine ⟨_, rfl, rfl, rfl, fun a1 d1 na nd ne => ?_⟩
    obtain ⟨x, h⟩ := er_new (fs := ["value"]) (vs := [v] ++ []) (C := T.C_BadSize) na nd ne
    generalize upd (upd _ d1 _) a1 _ = H1 at x h ⊢
    have X := x
    have E : Ers H1 ["value"] [v] _ _ := .cons h .nil
    clear x h na nd ne
    refine ⟨_, rfl, rfl, rfl, fun a2 d2 na nd ne => ?_⟩
    obtain ⟨x, h⟩ := er_new (fs := ["value"]) (vs := [v] ++ []) (C := T.C_BadWorth) na nd ne
    generalize upd (upd _ d2 _) a2 _ = H2 at x h ⊢
    replace E := (E.ext x).app (.cons h .nil)
    replace X := X.trans x
    clear x h na nd ne
    refine ⟨_, rfl, rfl, rfl, fun a3 d3 na nd ne => ?_⟩
    obtain ⟨x, h⟩ := er_new (fs := ["value"]) (vs := [v] ++ []) (C := T.C_BadMost) na nd ne
    generalize upd (upd _ d3 _) a3 _ = H3 at x h ⊢
    replace E := (E.ext x).app (.cons h .nil)
    replace X := X.trans x
    clear x h na nd ne
    refine ⟨_, rfl, rfl, rfl, fun a4 d4 na nd ne => ?_⟩
    obtain ⟨x, h⟩ := er_new (fs := ["value"]) (vs := [v] ++ []) (C := T.C_BadItems) na nd ne
    generalize upd (upd _ d4 _) a4 _ = H4 at x h ⊢
    replace E := (E.ext x).app (.cons h .nil)
    replace X := X.trans x
    clear x h na nd ne
    refine ⟨by show 4 ≤ sizeLine; decide, fun l0 hl => ?_⟩
    generalize hJ : upd _ l0 _ = J0
    obtain ⟨x, f⟩ := new_of hJ hl
    clear hJ
    replace E := E.ext x
    replace X := X.trans x
    have F := f
    clear x hl f
    refine ⟨_, rfl, ?_⟩
    refine ⟨_, rfl, rfl, rfl, fun a5 d5 na nd ne => ?_⟩
    obtain ⟨x, h⟩ := er_new (fs := ["value"]) (vs := [v] ++ []) (C := T.C_BadWorld) na nd ne
    generalize upd (upd _ d5 _) a5 _ = H5 at x h ⊢
    replace E := (E.ext x).app (.cons h .nil)
    replace X := X.trans x
    replace F := x _ _ F
    clear x h na nd ne
    refine ⟨_, rfl, rfl, rfl, fun a6 d6 na nd ne => ?_⟩
    obtain ⟨x, h⟩ := er_new (fs := ["value"]) (vs := [v] ++ []) (C := T.C_BadSetup) na nd ne
    generalize upd (upd _ d6 _) a6 _ = H6 at x h ⊢
    replace E := (E.ext x).app (.cons h .nil)
    replace X := X.trans x
    replace F := x _ _ F
    clear x h na nd ne
    refine ⟨_, rfl, rfl, rfl, fun a7 d7 na nd ne => ?_⟩
    obtain ⟨x, h⟩ := er_new (fs := ["value"]) (vs := [v] ++ []) (C := T.C_BadStand) na nd ne
    generalize upd (upd _ d7 _) a7 _ = H7 at x h ⊢
    replace E := (E.ext x).app (.cons h .nil)
    replace X := X.trans x
    replace F := x _ _ F
    clear x h na nd ne
    refine ⟨_, rfl, rfl, rfl, fun a8 d8 na nd ne => ?_⟩
    obtain ⟨x, h⟩ := er_new (fs := ["value"]) (vs := [v] ++ []) (C := T.C_BadDeed) na nd ne
    generalize upd (upd _ d8 _) a8 _ = H8 at x h ⊢
    replace E := (E.ext x).app (.cons h .nil)
    replace X := X.trans x
    replace F := x _ _ F
    clear x h na nd ne
    refine ⟨by show 4 ≤ sizeLine; decide, fun l1 hl => ?_⟩
    generalize hJ : upd _ l1 _ = J1
    obtain ⟨x, f⟩ := new_of hJ hl
    clear hJ
    replace E := E.ext x
    replace X := X.trans x
    replace F := x _ _ F
    clear x hl
    refine ⟨_, l1, _, _, rfl, rfl, F, f, by show 4 + 4 ≤ sizeLine; decide, fun m1 hl => ?_⟩
    generalize hJ : upd _ m1 _ = M1
    obtain ⟨x, f2⟩ := new_of hJ hl
    clear hJ
    simp only [List.cons_append, List.nil_append] at f2
    replace E := E.ext x
    replace X := X.trans x
    replace F := f2
    clear f2
    clear x hl f
    refine ⟨_, rfl, ?_⟩
    refine ⟨_, rfl, rfl, rfl, fun a9 d9 na nd ne => ?_⟩
    obtain ⟨x, h⟩ := er_new (fs := ["value"]) (vs := [v] ++ []) (C := T.C_BadPlan) na nd ne
    generalize upd (upd _ d9 _) a9 _ = H9 at x h ⊢
    replace E := (E.ext x).app (.cons h .nil)
    replace X := X.trans x
    replace F := x _ _ F
    clear x h na nd ne
    refine ⟨_, rfl, rfl, rfl, fun a10 d10 na nd ne => ?_⟩
    obtain ⟨x, h⟩ := er_new (fs := ["value"]) (vs := [v] ++ []) (C := T.C_BadKinds) na nd ne
    generalize upd (upd _ d10 _) a10 _ = H10 at x h ⊢
    replace E := (E.ext x).app (.cons h .nil)
    replace X := X.trans x
    replace F := x _ _ F
    clear x h na nd ne
    refine ⟨_, rfl, rfl, rfl, fun a11 d11 na nd ne => ?_⟩
    obtain ⟨x, h⟩ := er_new (fs := ["value"]) (vs := [v] ++ []) (C := T.C_BadSteps) na nd ne
    generalize upd (upd _ d11 _) a11 _ = H11 at x h ⊢
    replace E := (E.ext x).app (.cons h .nil)
    replace X := X.trans x
    replace F := x _ _ F
    clear x h na nd ne
    refine ⟨_, rfl, rfl, rfl, fun a12 d12 na nd ne => ?_⟩
    obtain ⟨x, h⟩ := er_new (fs := ["value"]) (vs := [v] ++ []) (C := T.C_BadEnd) na nd ne
    generalize upd (upd _ d12 _) a12 _ = H12 at x h ⊢
    replace E := (E.ext x).app (.cons h .nil)
    replace X := X.trans x
    replace F := x _ _ F
    clear x h na nd ne
    refine ⟨by show 4 ≤ sizeLine; decide, fun l2 hl => ?_⟩
    generalize hJ : upd _ l2 _ = J2
    obtain ⟨x, f⟩ := new_of hJ hl
    clear hJ
    replace E := E.ext x
    replace X := X.trans x
    replace F := x _ _ F
    clear x hl
    refine ⟨_, l2, _, _, rfl, rfl, F, f, by show 8 + 4 ≤ sizeLine; decide, fun m2 hl => ?_⟩
    generalize hJ : upd _ m2 _ = M2
    obtain ⟨x, f2⟩ := new_of hJ hl
    clear hJ
    simp only [List.cons_append, List.nil_append] at f2
    replace E := E.ext x
    replace X := X.trans x
    replace F := f2
    clear f2
    clear x hl f
    refine ⟨_, rfl, ?_⟩
    refine ⟨_, rfl, rfl, rfl, fun a13 d13 na nd ne => ?_⟩
    obtain ⟨x, h⟩ := er_new (fs := ["value"]) (vs := [v] ++ []) (C := T.C_NoWork) na nd ne
    generalize upd (upd _ d13 _) a13 _ = H13 at x h ⊢
    replace E := (E.ext x).app (.cons h .nil)
    replace X := X.trans x
    replace F := x _ _ F
    clear x h na nd ne
    refine ⟨_, rfl, rfl, rfl, fun a14 d14 na nd ne => ?_⟩
    obtain ⟨x, h⟩ := er_new (fs := ["value"]) (vs := [v] ++ []) (C := T.C_BadValues) na nd ne
    generalize upd (upd _ d14 _) a14 _ = H14 at x h ⊢
    replace E := (E.ext x).app (.cons h .nil)
    replace X := X.trans x
    replace F := x _ _ F
    clear x h na nd ne
    refine ⟨_, rfl, rfl, rfl, fun a15 d15 na nd ne => ?_⟩
    obtain ⟨x, h⟩ := er_new (fs := ["value"]) (vs := [v] ++ []) (C := T.C_BadState) na nd ne
    generalize upd (upd _ d15 _) a15 _ = H15 at x h ⊢
    replace E := (E.ext x).app (.cons h .nil)
    replace X := X.trans x
    replace F := x _ _ F
    clear x h na nd ne
    refine ⟨_, rfl, rfl, rfl, fun a16 d16 na nd ne => ?_⟩
    obtain ⟨x, h⟩ := er_new (fs := ["value"]) (vs := [v] ++ []) (C := T.C_BadTape) na nd ne
    generalize upd (upd _ d16 _) a16 _ = H16 at x h ⊢
    replace E := (E.ext x).app (.cons h .nil)
    replace X := X.trans x
    replace F := x _ _ F
    clear x h na nd ne
    refine ⟨by show 4 ≤ sizeLine; decide, fun l3 hl => ?_⟩
    generalize hJ : upd _ l3 _ = J3
    obtain ⟨x, f⟩ := new_of hJ hl
    clear hJ
    replace E := E.ext x
    replace X := X.trans x
    replace F := x _ _ F
    clear x hl
    refine ⟨_, l3, _, _, rfl, rfl, F, f, by show 12 + 4 ≤ sizeLine; decide, fun m3 hl => ?_⟩
    generalize hJ : upd _ m3 _ = M3
    obtain ⟨x, f2⟩ := new_of hJ hl
    clear hJ
    simp only [List.cons_append, List.nil_append] at f2
    replace E := E.ext x
    replace X := X.trans x
    replace F := f2
    clear f2
    clear x hl f
    refine ⟨_, rfl, ?_⟩
    refine ⟨_, rfl, rfl, rfl, fun a17 d17 na nd ne => ?_⟩
    obtain ⟨x, h⟩ := er_new (fs := ["value"]) (vs := [v] ++ []) (C := T.C_BadStory) na nd ne
    generalize upd (upd _ d17 _) a17 _ = H17 at x h ⊢
    replace E := (E.ext x).app (.cons h .nil)
    replace X := X.trans x
    replace F := x _ _ F
    clear x h na nd ne
    refine ⟨_, rfl, rfl, rfl, fun a18 d18 na nd ne => ?_⟩
    obtain ⟨x, h⟩ := er_new (fs := ["value"]) (vs := [v] ++ []) (C := T.C_BadNames) na nd ne
    generalize upd (upd _ d18 _) a18 _ = H18 at x h ⊢
    replace E := (E.ext x).app (.cons h .nil)
    replace X := X.trans x
    replace F := x _ _ F
    clear x h na nd ne
    refine ⟨_, rfl, rfl, rfl, fun a19 d19 na nd ne => ?_⟩
    obtain ⟨x, h⟩ := er_new (fs := ["value"]) (vs := [v] ++ []) (C := T.C_BadPrices) na nd ne
    generalize upd (upd _ d19 _) a19 _ = H19 at x h ⊢
    replace E := (E.ext x).app (.cons h .nil)
    replace X := X.trans x
    replace F := x _ _ F
    clear x h na nd ne
    refine ⟨_, rfl, rfl, rfl, fun a20 d20 na nd ne => ?_⟩
    obtain ⟨x, h⟩ := er_new (fs := ["value"]) (vs := [v] ++ []) (C := T.C_BadDoing) na nd ne
    generalize upd (upd _ d20 _) a20 _ = H20 at x h ⊢
    replace E := (E.ext x).app (.cons h .nil)
    replace X := X.trans x
    replace F := x _ _ F
    clear x h na nd ne
    refine ⟨by show 4 ≤ sizeLine; decide, fun l4 hl => ?_⟩
    generalize hJ : upd _ l4 _ = J4
    obtain ⟨x, f⟩ := new_of hJ hl
    clear hJ
    replace E := E.ext x
    replace X := X.trans x
    replace F := x _ _ F
    clear x hl
    refine ⟨_, l4, _, _, rfl, rfl, F, f, by show 16 + 4 ≤ sizeLine; decide, fun m4 hl => ?_⟩
    generalize hJ : upd _ m4 _ = M4
    obtain ⟨x, f2⟩ := new_of hJ hl
    clear hJ
    simp only [List.cons_append, List.nil_append] at f2
    replace E := E.ext x
    replace X := X.trans x
    replace F := f2
    clear f2
    clear x hl f
    refine ⟨_, rfl, ?_⟩
    refine ⟨_, rfl, rfl, rfl, fun a21 d21 na nd ne => ?_⟩
    obtain ⟨x, h⟩ := er_new (fs := ["value"]) (vs := [v] ++ []) (C := T.C_NoKey) na nd ne
    generalize upd (upd _ d21 _) a21 _ = H21 at x h ⊢
    replace E := (E.ext x).app (.cons h .nil)
    replace X := X.trans x
    replace F := x _ _ F
    clear x h na nd ne
    refine ⟨_, rfl, rfl, rfl, fun a22 d22 na nd ne => ?_⟩
    obtain ⟨x, h⟩ := er_new (fs := ["value"]) (vs := [v] ++ []) (C := T.C_BadChecks) na nd ne
    generalize upd (upd _ d22 _) a22 _ = H22 at x h ⊢
    replace E := (E.ext x).app (.cons h .nil)
    replace X := X.trans x
    replace F := x _ _ F
    clear x h na nd ne
    refine ⟨_, rfl, rfl, rfl, fun a23 d23 na nd ne => ?_⟩
    obtain ⟨x, h⟩ := er_new (fs := ["value"]) (vs := [v] ++ []) (C := T.C_BadPlace) na nd ne
    generalize upd (upd _ d23 _) a23 _ = H23 at x h ⊢
    replace E := (E.ext x).app (.cons h .nil)
    replace X := X.trans x
    replace F := x _ _ F
    clear x h na nd ne
    refine ⟨_, rfl, rfl, rfl, fun a24 d24 na nd ne => ?_⟩
    obtain ⟨x, h⟩ := er_new (fs := ["value"]) (vs := [v] ++ []) (C := T.C_NoTape) na nd ne
    generalize upd (upd _ d24 _) a24 _ = H24 at x h ⊢
    replace E := (E.ext x).app (.cons h .nil)
    replace X := X.trans x
    replace F := x _ _ F
    clear x h na nd ne
    refine ⟨by show 4 ≤ sizeLine; decide, fun l5 hl => ?_⟩
    generalize hJ : upd _ l5 _ = J5
    obtain ⟨x, f⟩ := new_of hJ hl
    clear hJ
    replace E := E.ext x
    replace X := X.trans x
    replace F := x _ _ F
    clear x hl
    refine ⟨_, l5, _, _, rfl, rfl, F, f, by show 20 + 4 ≤ sizeLine; decide, fun m5 hl => ?_⟩
    generalize hJ : upd _ m5 _ = M5
    obtain ⟨x, f2⟩ := new_of hJ hl
    clear hJ
    simp only [List.cons_append, List.nil_append] at f2
    replace E := E.ext x
    replace X := X.trans x
    replace F := f2
    clear f2
    clear x hl f
    refine ⟨_, rfl, ?_⟩
    refine ⟨_, rfl, rfl, rfl, fun a25 d25 na nd ne => ?_⟩
    obtain ⟨x, h⟩ := er_new (fs := ["value"]) (vs := [v] ++ []) (C := T.C_NoName) na nd ne
    generalize upd (upd _ d25 _) a25 _ = H25 at x h ⊢
    replace E := (E.ext x).app (.cons h .nil)
    replace X := X.trans x
    replace F := x _ _ F
    clear x h na nd ne
    refine ⟨_, rfl, rfl, rfl, fun a26 d26 na nd ne => ?_⟩
    obtain ⟨x, h⟩ := er_new (fs := ["value"]) (vs := [v] ++ []) (C := T.C_BadThing) na nd ne
    generalize upd (upd _ d26 _) a26 _ = H26 at x h ⊢
    replace E := (E.ext x).app (.cons h .nil)
    replace X := X.trans x
    replace F := x _ _ F
    clear x h na nd ne
    refine ⟨_, rfl, rfl, rfl, fun a27 d27 na nd ne => ?_⟩
    obtain ⟨x, h⟩ := er_new (fs := ["value"]) (vs := [v] ++ []) (C := T.C_BadRoom) na nd ne
    generalize upd (upd _ d27 _) a27 _ = H27 at x h ⊢
    replace E := (E.ext x).app (.cons h .nil)
    replace X := X.trans x
    replace F := x _ _ F
    clear x h na nd ne
    refine ⟨_, rfl, rfl, rfl, fun a28 d28 na nd ne => ?_⟩
    obtain ⟨x, h⟩ := er_new (fs := ["value"]) (vs := [v] ++ []) (C := T.C_BadCommand) na nd ne
    generalize upd (upd _ d28 _) a28 _ = H28 at x h ⊢
    replace E := (E.ext x).app (.cons h .nil)
    replace X := X.trans x
    replace F := x _ _ F
    clear x h na nd ne
    refine ⟨by show 4 ≤ sizeLine; decide, fun l6 hl => ?_⟩
    generalize hJ : upd _ l6 _ = J6
    obtain ⟨x, f⟩ := new_of hJ hl
    clear hJ
    replace E := E.ext x
    replace X := X.trans x
    replace F := x _ _ F
    clear x hl
    refine ⟨_, l6, _, _, rfl, rfl, F, f, by show 24 + 4 ≤ sizeLine; decide, fun m6 hl => ?_⟩
    generalize hJ : upd _ m6 _ = M6
    obtain ⟨x, f2⟩ := new_of hJ hl
    clear hJ
    simp only [List.cons_append, List.nil_append] at f2
    replace E := E.ext x
    replace X := X.trans x
    replace F := f2
    clear f2
    clear x hl f
    simp only [List.cons_append, List.nil_append] at E
    exact ⟨_, rfl, k [a1, a2, a3, a4, a5, a6, a7, a8, a9, a10, a11, a12, a13, a14, a15, a16, a17, a18, a19, a20, a21, a22, a23, a24, a25, a26, a27, a28] _ _ X F E⟩
/-- marks of an error of the class D -/
def spMk (K : PySem.W.Frag) (all Cs : List Addr) : Sp := fun vs H Q _ => ∃ a D, vs = [.ref a] ∧ ErO H D a ∧ ExcC K D ∧ D ∈ all ∧ ∀ l H', Ext H H' → H' l = some (.lst (Cs.map fun C => V.bl (D == C))) → Q (.ref l) H'
theorem ok__law_first_marks (T : Tx P K mg) : FnOk P w K mg base CX0 2 T.F__law_first_marks T.fd__law_first_marks ["_law_e"] (spMk K (cs T) (fst_ T)) := by
  refine T._law_first_marks_ok.ok sc__law_first_marks (fun vs H Q E h => ?_) (fun cdv A outer s H vs Q E hr h => ?_)
  · obtain ⟨a, D, rfl, _⟩ := h
    rfl
  · obtain ⟨a, D, rfl, he, ec, hD, k⟩ := h
    have nd := sc__law_first_marks.nd
    have hk : ∀ C ∈ fst_ T, PySem.W.kitOne K (.ref D) (.ref C) = some (D == C) := fun C hC => kit_cs T hD (by rw [cs_two]; exact List.mem_append_left _ hC)
    refine ⟨_, (pss_cons (ps_set (i := 1) nd rfl (Or.inl rfl) (pe_lst (pa_cons (pe_callB call_isW (by rfl) T.b_isinstance (by decide +kernel) (pa_cons (pv 0) (pa_cons (pe_glob (v := .ref T.C_BadSize) rfl T.BadSize_mg rfl) pa_nil))) (pa_cons (pe_callB call_isW (by rfl) T.b_isinstance (by decide +kernel) (pa_cons (pv 0) (pa_cons (pe_glob (v := .ref T.C_BadWorth) rfl T.BadWorth_mg rfl) pa_nil))) (pa_cons (pe_callB call_isW (by rfl) T.b_isinstance (by decide +kernel) (pa_cons (pv 0) (pa_cons (pe_glob (v := .ref T.C_BadMost) rfl T.BadMost_mg rfl) pa_nil))) (pa_cons (pe_callB call_isW (by rfl) T.b_isinstance (by decide +kernel) (pa_cons (pv 0) (pa_cons (pe_glob (v := .ref T.C_BadItems) rfl T.BadItems_mg rfl) pa_nil))) pa_nil)))))) (pss_cons (ps_set (i := 1) nd rfl (Or.inl rfl) (pe_op op_cat (pv 1) (pe_lst (pa_cons (pe_callB call_isW (by rfl) T.b_isinstance (by decide +kernel) (pa_cons (pv 0) (pa_cons (pe_glob (v := .ref T.C_BadWorld) rfl T.BadWorld_mg rfl) pa_nil))) (pa_cons (pe_callB call_isW (by rfl) T.b_isinstance (by decide +kernel) (pa_cons (pv 0) (pa_cons (pe_glob (v := .ref T.C_BadSetup) rfl T.BadSetup_mg rfl) pa_nil))) (pa_cons (pe_callB call_isW (by rfl) T.b_isinstance (by decide +kernel) (pa_cons (pv 0) (pa_cons (pe_glob (v := .ref T.C_BadStand) rfl T.BadStand_mg rfl) pa_nil))) pa_nil)))))) (pss_cons (ps_set (i := 1) nd rfl (Or.inl rfl) (pe_op op_cat (pv 1) (pe_lst (pa_cons (pe_callB call_isW (by rfl) T.b_isinstance (by decide +kernel) (pa_cons (pv 0) (pa_cons (pe_glob (v := .ref T.C_BadDeed) rfl T.BadDeed_mg rfl) pa_nil))) (pa_cons (pe_callB call_isW (by rfl) T.b_isinstance (by decide +kernel) (pa_cons (pv 0) (pa_cons (pe_glob (v := .ref T.C_BadPlan) rfl T.BadPlan_mg rfl) pa_nil))) (pa_cons (pe_callB call_isW (by rfl) T.b_isinstance (by decide +kernel) (pa_cons (pv 0) (pa_cons (pe_glob (v := .ref T.C_BadKinds) rfl T.BadKinds_mg rfl) pa_nil))) (pa_cons (pe_callB call_isW (by rfl) T.b_isinstance (by decide +kernel) (pa_cons (pv 0) (pa_cons (pe_glob (v := .ref T.C_BadSteps) rfl T.BadSteps_mg rfl) pa_nil))) pa_nil))))))) (pss_one (ps_ret (pe_op op_cat (pv 1) (pe_lst (pa_cons (pe_callB call_isW (by rfl) T.b_isinstance (by decide +kernel) (pa_cons (pv 0) (pa_cons (pe_glob (v := .ref T.C_BadEnd) rfl T.BadEnd_mg rfl) pa_nil))) (pa_cons (pe_callB call_isW (by rfl) T.b_isinstance (by decide +kernel) (pa_cons (pv 0) (pa_cons (pe_glob (v := .ref T.C_NoWork) rfl T.NoWork_mg rfl) pa_nil))) (pa_cons (pe_callB call_isW (by rfl) T.b_isinstance (by decide +kernel) (pa_cons (pv 0) (pa_cons (pe_glob (v := .ref T.C_BadValues) rfl T.BadValues_mg rfl) pa_nil))) (pa_cons (pe_callB call_isW (by rfl) T.b_isinstance (by decide +kernel) (pa_cons (pv 0) (pa_cons (pe_glob (v := .ref T.C_BadState) rfl T.BadState_mg rfl) pa_nil))) pa_nil))))))))))), ?_⟩
    obtain ⟨dd, e1, e2⟩ := he
    refine ⟨_, rfl, a, D, dd, _, _, _, rfl, .own _, e1, e2, ec, hk T.C_BadSize (List.mem_of_getElem? (l := fst_ T) (i := 0) rfl), _, rfl, a, D, dd, _, _, _, rfl, .own _, e1, e2, ec, hk T.C_BadWorth (List.mem_of_getElem? (l := fst_ T) (i := 1) rfl), _, rfl, a, D, dd, _, _, _, rfl, .own _, e1, e2, ec, hk T.C_BadMost (List.mem_of_getElem? (l := fst_ T) (i := 2) rfl), _, rfl, a, D, dd, _, _, _, rfl, .own _, e1, e2, ec, hk T.C_BadItems (List.mem_of_getElem? (l := fst_ T) (i := 3) rfl), by show 4 ≤ sizeLine; decide, fun l0 hl => ?_⟩
    generalize hJ : upd _ l0 _ = J0
    obtain ⟨x, f⟩ := new_of hJ hl
    clear hJ
    have X := x
    have F := f
    replace e1 := x _ _ e1
    replace e2 : ∀ d, dd = some d → ∃ fs, J0 d = some (.xd fs) := fun d z => let ⟨fs, q⟩ := e2 d z; ⟨fs, x _ _ q⟩
    clear x hl f
    refine ⟨_, rfl, _, rfl, a, D, dd, _, _, _, rfl, .own _, e1, e2, ec, hk T.C_BadWorld (List.mem_of_getElem? (l := fst_ T) (i := 4) rfl), _, rfl, a, D, dd, _, _, _, rfl, .own _, e1, e2, ec, hk T.C_BadSetup (List.mem_of_getElem? (l := fst_ T) (i := 5) rfl), _, rfl, a, D, dd, _, _, _, rfl, .own _, e1, e2, ec, hk T.C_BadStand (List.mem_of_getElem? (l := fst_ T) (i := 6) rfl), by show 3 ≤ sizeLine; decide, fun l1 hl => ?_⟩
    generalize hJ : upd _ l1 _ = J1
    obtain ⟨x, f⟩ := new_of hJ hl
    clear hJ
    replace X := X.trans x
    replace F := x _ _ F
    replace e1 := x _ _ e1
    replace e2 : ∀ d, dd = some d → ∃ fs, J1 d = some (.xd fs) := fun d z => let ⟨fs, q⟩ := e2 d z; ⟨fs, x _ _ q⟩
    clear x hl
    refine ⟨_, l1, _, _, rfl, rfl, F, f, by show 4 + 3 ≤ sizeLine; decide, fun m1 hl => ?_⟩
    generalize hJ : upd _ m1 _ = M1
    obtain ⟨x, f2⟩ := new_of hJ hl
    clear hJ
    simp only [List.cons_append, List.nil_append] at f2
    replace X := X.trans x
    replace F := f2
    replace e1 := x _ _ e1
    replace e2 : ∀ d, dd = some d → ∃ fs, M1 d = some (.xd fs) := fun d z => let ⟨fs, q⟩ := e2 d z; ⟨fs, x _ _ q⟩
    clear f2
    clear x hl f
    refine ⟨_, rfl, _, rfl, a, D, dd, _, _, _, rfl, .own _, e1, e2, ec, hk T.C_BadDeed (List.mem_of_getElem? (l := fst_ T) (i := 7) rfl), _, rfl, a, D, dd, _, _, _, rfl, .own _, e1, e2, ec, hk T.C_BadPlan (List.mem_of_getElem? (l := fst_ T) (i := 8) rfl), _, rfl, a, D, dd, _, _, _, rfl, .own _, e1, e2, ec, hk T.C_BadKinds (List.mem_of_getElem? (l := fst_ T) (i := 9) rfl), _, rfl, a, D, dd, _, _, _, rfl, .own _, e1, e2, ec, hk T.C_BadSteps (List.mem_of_getElem? (l := fst_ T) (i := 10) rfl), by show 4 ≤ sizeLine; decide, fun l2 hl => ?_⟩
    generalize hJ : upd _ l2 _ = J2
    obtain ⟨x, f⟩ := new_of hJ hl
    clear hJ
    replace X := X.trans x
    replace F := x _ _ F
    replace e1 := x _ _ e1
    replace e2 : ∀ d, dd = some d → ∃ fs, J2 d = some (.xd fs) := fun d z => let ⟨fs, q⟩ := e2 d z; ⟨fs, x _ _ q⟩
    clear x hl
    refine ⟨_, l2, _, _, rfl, rfl, F, f, by show 7 + 4 ≤ sizeLine; decide, fun m2 hl => ?_⟩
    generalize hJ : upd _ m2 _ = M2
    obtain ⟨x, f2⟩ := new_of hJ hl
    clear hJ
    simp only [List.cons_append, List.nil_append] at f2
    replace X := X.trans x
    replace F := f2
    replace e1 := x _ _ e1
    replace e2 : ∀ d, dd = some d → ∃ fs, M2 d = some (.xd fs) := fun d z => let ⟨fs, q⟩ := e2 d z; ⟨fs, x _ _ q⟩
    clear f2
    clear x hl f
    refine ⟨_, rfl, _, rfl, a, D, dd, _, _, _, rfl, .own _, e1, e2, ec, hk T.C_BadEnd (List.mem_of_getElem? (l := fst_ T) (i := 11) rfl), _, rfl, a, D, dd, _, _, _, rfl, .own _, e1, e2, ec, hk T.C_NoWork (List.mem_of_getElem? (l := fst_ T) (i := 12) rfl), _, rfl, a, D, dd, _, _, _, rfl, .own _, e1, e2, ec, hk T.C_BadValues (List.mem_of_getElem? (l := fst_ T) (i := 13) rfl), _, rfl, a, D, dd, _, _, _, rfl, .own _, e1, e2, ec, hk T.C_BadState (List.mem_of_getElem? (l := fst_ T) (i := 14) rfl), by show 4 ≤ sizeLine; decide, fun l3 hl => ?_⟩
    generalize hJ : upd _ l3 _ = J3
    obtain ⟨x, f⟩ := new_of hJ hl
    clear hJ
    replace X := X.trans x
    replace F := x _ _ F
    replace e1 := x _ _ e1
    replace e2 : ∀ d, dd = some d → ∃ fs, J3 d = some (.xd fs) := fun d z => let ⟨fs, q⟩ := e2 d z; ⟨fs, x _ _ q⟩
    clear x hl
    refine ⟨_, l3, _, _, rfl, rfl, F, f, by show 11 + 4 ≤ sizeLine; decide, fun m3 hl => ?_⟩
    generalize hJ : upd _ m3 _ = M3
    obtain ⟨x, f2⟩ := new_of hJ hl
    clear hJ
    simp only [List.cons_append, List.nil_append] at f2
    replace X := X.trans x
    replace F := f2
    replace e1 := x _ _ e1
    replace e2 : ∀ d, dd = some d → ∃ fs, M3 d = some (.xd fs) := fun d z => let ⟨fs, q⟩ := e2 d z; ⟨fs, x _ _ q⟩
    clear f2
    clear x hl f
    exact k _ _ X F
theorem ok__law_later_marks (T : Tx P K mg) : FnOk P w K mg base CX0 2 T.F__law_later_marks T.fd__law_later_marks ["_law_e"] (spMk K (cs T) (ltr_ T)) := by
  refine T._law_later_marks_ok.ok sc__law_later_marks (fun vs H Q E h => ?_) (fun cdv A outer s H vs Q E hr h => ?_)
  · obtain ⟨a, D, rfl, _⟩ := h
    rfl
  · obtain ⟨a, D, rfl, he, ec, hD, k⟩ := h
    have nd := sc__law_later_marks.nd
    have hk : ∀ C ∈ ltr_ T, PySem.W.kitOne K (.ref D) (.ref C) = some (D == C) := fun C hC => kit_cs T hD (by rw [cs_two]; exact List.mem_append_right _ hC)
    refine ⟨_, (pss_cons (ps_set (i := 1) nd rfl (Or.inl rfl) (pe_lst (pa_cons (pe_callB call_isW (by rfl) T.b_isinstance (by decide +kernel) (pa_cons (pv 0) (pa_cons (pe_glob (v := .ref T.C_BadTape) rfl T.BadTape_mg rfl) pa_nil))) (pa_cons (pe_callB call_isW (by rfl) T.b_isinstance (by decide +kernel) (pa_cons (pv 0) (pa_cons (pe_glob (v := .ref T.C_BadStory) rfl T.BadStory_mg rfl) pa_nil))) (pa_cons (pe_callB call_isW (by rfl) T.b_isinstance (by decide +kernel) (pa_cons (pv 0) (pa_cons (pe_glob (v := .ref T.C_BadNames) rfl T.BadNames_mg rfl) pa_nil))) (pa_cons (pe_callB call_isW (by rfl) T.b_isinstance (by decide +kernel) (pa_cons (pv 0) (pa_cons (pe_glob (v := .ref T.C_BadPrices) rfl T.BadPrices_mg rfl) pa_nil))) pa_nil)))))) (pss_cons (ps_set (i := 1) nd rfl (Or.inl rfl) (pe_op op_cat (pv 1) (pe_lst (pa_cons (pe_callB call_isW (by rfl) T.b_isinstance (by decide +kernel) (pa_cons (pv 0) (pa_cons (pe_glob (v := .ref T.C_BadDoing) rfl T.BadDoing_mg rfl) pa_nil))) (pa_cons (pe_callB call_isW (by rfl) T.b_isinstance (by decide +kernel) (pa_cons (pv 0) (pa_cons (pe_glob (v := .ref T.C_NoKey) rfl T.NoKey_mg rfl) pa_nil))) (pa_cons (pe_callB call_isW (by rfl) T.b_isinstance (by decide +kernel) (pa_cons (pv 0) (pa_cons (pe_glob (v := .ref T.C_BadChecks) rfl T.BadChecks_mg rfl) pa_nil))) (pa_cons (pe_callB call_isW (by rfl) T.b_isinstance (by decide +kernel) (pa_cons (pv 0) (pa_cons (pe_glob (v := .ref T.C_BadPlace) rfl T.BadPlace_mg rfl) pa_nil))) pa_nil))))))) (pss_cons (ps_set (i := 1) nd rfl (Or.inl rfl) (pe_op op_cat (pv 1) (pe_lst (pa_cons (pe_callB call_isW (by rfl) T.b_isinstance (by decide +kernel) (pa_cons (pv 0) (pa_cons (pe_glob (v := .ref T.C_NoTape) rfl T.NoTape_mg rfl) pa_nil))) (pa_cons (pe_callB call_isW (by rfl) T.b_isinstance (by decide +kernel) (pa_cons (pv 0) (pa_cons (pe_glob (v := .ref T.C_NoName) rfl T.NoName_mg rfl) pa_nil))) (pa_cons (pe_callB call_isW (by rfl) T.b_isinstance (by decide +kernel) (pa_cons (pv 0) (pa_cons (pe_glob (v := .ref T.C_BadThing) rfl T.BadThing_mg rfl) pa_nil))) (pa_cons (pe_callB call_isW (by rfl) T.b_isinstance (by decide +kernel) (pa_cons (pv 0) (pa_cons (pe_glob (v := .ref T.C_BadRoom) rfl T.BadRoom_mg rfl) pa_nil))) pa_nil))))))) (pss_cons (ps_set (i := 1) nd rfl (Or.inl rfl) (pe_op op_cat (pv 1) (pe_lst (pa_cons (pe_callB call_isW (by rfl) T.b_isinstance (by decide +kernel) (pa_cons (pv 0) (pa_cons (pe_glob (v := .ref T.C_BadCommand) rfl T.BadCommand_mg rfl) pa_nil))) (pa_cons (pe_callB call_isW (by rfl) T.b_isinstance (by decide +kernel) (pa_cons (pv 0) (pa_cons (pe_glob (v := .ref T.C_Fault) rfl T.Fault_mg rfl) pa_nil))) (pa_cons (pe_callB call_isW (by rfl) T.b_isinstance (by decide +kernel) (pa_cons (pv 0) (pa_cons (pe_glob (v := .ref T.C_TooMany) rfl T.TooMany_mg rfl) pa_nil))) (pa_cons (pe_callB call_isW (by rfl) T.b_isinstance (by decide +kernel) (pa_cons (pv 0) (pa_cons (pe_glob (v := .ref T.C_BadLine) rfl T.BadLine_mg rfl) pa_nil))) pa_nil))))))) (pss_cons (ps_set (i := 1) nd rfl (Or.inl rfl) (pe_op op_cat (pv 1) (pe_lst (pa_cons (pe_callB call_isW (by rfl) T.b_isinstance (by decide +kernel) (pa_cons (pv 0) (pa_cons (pe_glob (v := .ref T.C_BadBytes) rfl T.BadBytes_mg rfl) pa_nil))) (pa_cons (pe_callB call_isW (by rfl) T.b_isinstance (by decide +kernel) (pa_cons (pv 0) (pa_cons (pe_glob (v := .ref T.C_Wrong) rfl T.Wrong_mg rfl) pa_nil))) (pa_cons (pe_callB call_isW (by rfl) T.b_isinstance (by decide +kernel) (pa_cons (pv 0) (pa_cons (pe_glob (v := .ref T.C_Empty) rfl T.Empty_mg rfl) pa_nil))) pa_nil)))))) (pss_one (ps_ret (pe_op op_cat (pv 1) (pe_lst (pa_cons (pe_callB call_isW (by rfl) T.b_isinstance (by decide +kernel) (pa_cons (pv 0) (pa_cons (pe_glob (v := .ref T.C_NothingToUndo) rfl T.NothingToUndo_mg rfl) pa_nil))) (pa_cons (pe_callB call_isW (by rfl) T.b_isinstance (by decide +kernel) (pa_cons (pv 0) (pa_cons (pe_glob (v := .ref T.C_NothingToRedo) rfl T.NothingToRedo_mg rfl) pa_nil))) pa_nil))))))))))), ?_⟩
    obtain ⟨dd, e1, e2⟩ := he
    refine ⟨_, rfl, a, D, dd, _, _, _, rfl, .own _, e1, e2, ec, hk T.C_BadTape (List.mem_of_getElem? (l := ltr_ T) (i := 0) rfl), _, rfl, a, D, dd, _, _, _, rfl, .own _, e1, e2, ec, hk T.C_BadStory (List.mem_of_getElem? (l := ltr_ T) (i := 1) rfl), _, rfl, a, D, dd, _, _, _, rfl, .own _, e1, e2, ec, hk T.C_BadNames (List.mem_of_getElem? (l := ltr_ T) (i := 2) rfl), _, rfl, a, D, dd, _, _, _, rfl, .own _, e1, e2, ec, hk T.C_BadPrices (List.mem_of_getElem? (l := ltr_ T) (i := 3) rfl), by show 4 ≤ sizeLine; decide, fun l0 hl => ?_⟩
    generalize hJ : upd _ l0 _ = J0
    obtain ⟨x, f⟩ := new_of hJ hl
    clear hJ
    have X := x
    have F := f
    replace e1 := x _ _ e1
    replace e2 : ∀ d, dd = some d → ∃ fs, J0 d = some (.xd fs) := fun d z => let ⟨fs, q⟩ := e2 d z; ⟨fs, x _ _ q⟩
    clear x hl f
    refine ⟨_, rfl, _, rfl, a, D, dd, _, _, _, rfl, .own _, e1, e2, ec, hk T.C_BadDoing (List.mem_of_getElem? (l := ltr_ T) (i := 4) rfl), _, rfl, a, D, dd, _, _, _, rfl, .own _, e1, e2, ec, hk T.C_NoKey (List.mem_of_getElem? (l := ltr_ T) (i := 5) rfl), _, rfl, a, D, dd, _, _, _, rfl, .own _, e1, e2, ec, hk T.C_BadChecks (List.mem_of_getElem? (l := ltr_ T) (i := 6) rfl), _, rfl, a, D, dd, _, _, _, rfl, .own _, e1, e2, ec, hk T.C_BadPlace (List.mem_of_getElem? (l := ltr_ T) (i := 7) rfl), by show 4 ≤ sizeLine; decide, fun l1 hl => ?_⟩
    generalize hJ : upd _ l1 _ = J1
    obtain ⟨x, f⟩ := new_of hJ hl
    clear hJ
    replace X := X.trans x
    replace F := x _ _ F
    replace e1 := x _ _ e1
    replace e2 : ∀ d, dd = some d → ∃ fs, J1 d = some (.xd fs) := fun d z => let ⟨fs, q⟩ := e2 d z; ⟨fs, x _ _ q⟩
    clear x hl
    refine ⟨_, l1, _, _, rfl, rfl, F, f, by show 4 + 4 ≤ sizeLine; decide, fun m1 hl => ?_⟩
    generalize hJ : upd _ m1 _ = M1
    obtain ⟨x, f2⟩ := new_of hJ hl
    clear hJ
    simp only [List.cons_append, List.nil_append] at f2
    replace X := X.trans x
    replace F := f2
    replace e1 := x _ _ e1
    replace e2 : ∀ d, dd = some d → ∃ fs, M1 d = some (.xd fs) := fun d z => let ⟨fs, q⟩ := e2 d z; ⟨fs, x _ _ q⟩
    clear f2
    clear x hl f
    refine ⟨_, rfl, _, rfl, a, D, dd, _, _, _, rfl, .own _, e1, e2, ec, hk T.C_NoTape (List.mem_of_getElem? (l := ltr_ T) (i := 8) rfl), _, rfl, a, D, dd, _, _, _, rfl, .own _, e1, e2, ec, hk T.C_NoName (List.mem_of_getElem? (l := ltr_ T) (i := 9) rfl), _, rfl, a, D, dd, _, _, _, rfl, .own _, e1, e2, ec, hk T.C_BadThing (List.mem_of_getElem? (l := ltr_ T) (i := 10) rfl), _, rfl, a, D, dd, _, _, _, rfl, .own _, e1, e2, ec, hk T.C_BadRoom (List.mem_of_getElem? (l := ltr_ T) (i := 11) rfl), by show 4 ≤ sizeLine; decide, fun l2 hl => ?_⟩
    generalize hJ : upd _ l2 _ = J2
    obtain ⟨x, f⟩ := new_of hJ hl
    clear hJ
    replace X := X.trans x
    replace F := x _ _ F
    replace e1 := x _ _ e1
    replace e2 : ∀ d, dd = some d → ∃ fs, J2 d = some (.xd fs) := fun d z => let ⟨fs, q⟩ := e2 d z; ⟨fs, x _ _ q⟩
    clear x hl
    refine ⟨_, l2, _, _, rfl, rfl, F, f, by show 8 + 4 ≤ sizeLine; decide, fun m2 hl => ?_⟩
    generalize hJ : upd _ m2 _ = M2
    obtain ⟨x, f2⟩ := new_of hJ hl
    clear hJ
    simp only [List.cons_append, List.nil_append] at f2
    replace X := X.trans x
    replace F := f2
    replace e1 := x _ _ e1
    replace e2 : ∀ d, dd = some d → ∃ fs, M2 d = some (.xd fs) := fun d z => let ⟨fs, q⟩ := e2 d z; ⟨fs, x _ _ q⟩
    clear f2
    clear x hl f
    refine ⟨_, rfl, _, rfl, a, D, dd, _, _, _, rfl, .own _, e1, e2, ec, hk T.C_BadCommand (List.mem_of_getElem? (l := ltr_ T) (i := 12) rfl), _, rfl, a, D, dd, _, _, _, rfl, .own _, e1, e2, ec, hk T.C_Fault (List.mem_of_getElem? (l := ltr_ T) (i := 13) rfl), _, rfl, a, D, dd, _, _, _, rfl, .own _, e1, e2, ec, hk T.C_TooMany (List.mem_of_getElem? (l := ltr_ T) (i := 14) rfl), _, rfl, a, D, dd, _, _, _, rfl, .own _, e1, e2, ec, hk T.C_BadLine (List.mem_of_getElem? (l := ltr_ T) (i := 15) rfl), by show 4 ≤ sizeLine; decide, fun l3 hl => ?_⟩
    generalize hJ : upd _ l3 _ = J3
    obtain ⟨x, f⟩ := new_of hJ hl
    clear hJ
    replace X := X.trans x
    replace F := x _ _ F
    replace e1 := x _ _ e1
    replace e2 : ∀ d, dd = some d → ∃ fs, J3 d = some (.xd fs) := fun d z => let ⟨fs, q⟩ := e2 d z; ⟨fs, x _ _ q⟩
    clear x hl
    refine ⟨_, l3, _, _, rfl, rfl, F, f, by show 12 + 4 ≤ sizeLine; decide, fun m3 hl => ?_⟩
    generalize hJ : upd _ m3 _ = M3
    obtain ⟨x, f2⟩ := new_of hJ hl
    clear hJ
    simp only [List.cons_append, List.nil_append] at f2
    replace X := X.trans x
    replace F := f2
    replace e1 := x _ _ e1
    replace e2 : ∀ d, dd = some d → ∃ fs, M3 d = some (.xd fs) := fun d z => let ⟨fs, q⟩ := e2 d z; ⟨fs, x _ _ q⟩
    clear f2
    clear x hl f
    refine ⟨_, rfl, _, rfl, a, D, dd, _, _, _, rfl, .own _, e1, e2, ec, hk T.C_BadBytes (List.mem_of_getElem? (l := ltr_ T) (i := 16) rfl), _, rfl, a, D, dd, _, _, _, rfl, .own _, e1, e2, ec, hk T.C_Wrong (List.mem_of_getElem? (l := ltr_ T) (i := 17) rfl), _, rfl, a, D, dd, _, _, _, rfl, .own _, e1, e2, ec, hk T.C_Empty (List.mem_of_getElem? (l := ltr_ T) (i := 18) rfl), by show 3 ≤ sizeLine; decide, fun l4 hl => ?_⟩
    generalize hJ : upd _ l4 _ = J4
    obtain ⟨x, f⟩ := new_of hJ hl
    clear hJ
    replace X := X.trans x
    replace F := x _ _ F
    replace e1 := x _ _ e1
    replace e2 : ∀ d, dd = some d → ∃ fs, J4 d = some (.xd fs) := fun d z => let ⟨fs, q⟩ := e2 d z; ⟨fs, x _ _ q⟩
    clear x hl
    refine ⟨_, l4, _, _, rfl, rfl, F, f, by show 16 + 3 ≤ sizeLine; decide, fun m4 hl => ?_⟩
    generalize hJ : upd _ m4 _ = M4
    obtain ⟨x, f2⟩ := new_of hJ hl
    clear hJ
    simp only [List.cons_append, List.nil_append] at f2
    replace X := X.trans x
    replace F := f2
    replace e1 := x _ _ e1
    replace e2 : ∀ d, dd = some d → ∃ fs, M4 d = some (.xd fs) := fun d z => let ⟨fs, q⟩ := e2 d z; ⟨fs, x _ _ q⟩
    clear f2
    clear x hl f
    refine ⟨_, rfl, _, rfl, a, D, dd, _, _, _, rfl, .own _, e1, e2, ec, hk T.C_NothingToUndo (List.mem_of_getElem? (l := ltr_ T) (i := 19) rfl), _, rfl, a, D, dd, _, _, _, rfl, .own _, e1, e2, ec, hk T.C_NothingToRedo (List.mem_of_getElem? (l := ltr_ T) (i := 20) rfl), by show 2 ≤ sizeLine; decide, fun l5 hl => ?_⟩
    generalize hJ : upd _ l5 _ = J5
    obtain ⟨x, f⟩ := new_of hJ hl
    clear hJ
    replace X := X.trans x
    replace F := x _ _ F
    replace e1 := x _ _ e1
    replace e2 : ∀ d, dd = some d → ∃ fs, J5 d = some (.xd fs) := fun d z => let ⟨fs, q⟩ := e2 d z; ⟨fs, x _ _ q⟩
    clear x hl
    refine ⟨_, l5, _, _, rfl, rfl, F, f, by show 19 + 2 ≤ sizeLine; decide, fun m5 hl => ?_⟩
    generalize hJ : upd _ m5 _ = M5
    obtain ⟨x, f2⟩ := new_of hJ hl
    clear hJ
    simp only [List.cons_append, List.nil_append] at f2
    replace X := X.trans x
    replace F := f2
    replace e1 := x _ _ e1
    replace e2 : ∀ d, dd = some d → ∃ fs, M5 d = some (.xd fs) := fun d z => let ⟨fs, q⟩ := e2 d z; ⟨fs, x _ _ q⟩
    clear f2
    clear x hl f
    exact k _ _ X F
/-- the places of the marks -/
def spMarks (K : PySem.W.Frag) (all : List Addr) : Sp := fun vs H Q _ => ∃ (a D : Addr) (j : Nat), vs = [.ref a] ∧ ErO H D a ∧ ExcC K D ∧ all[j]? = some D ∧ ∀ l H', Ext H H' → H l = none → H' l = some (.lst [.int (j : Nat)]) → Q (.ref l) H'
theorem ok__law_marks (T : Tx P K mg) : FnOk P w K mg base CX0 3 T.F__law_marks T.fd__law_marks ["_law_error"] (spMarks K (cs T)) := by
  refine T._law_marks_ok.ok sc__law_marks (fun vs H Q E h => ?_) (fun cdv A outer s H vs Q E hr h => ?_)
  · obtain ⟨a, D, j, rfl, _⟩ := h
    rfl
  · obtain ⟨a, C, j, rfl, he, ec, hj, k⟩ := h
    have nd := sc__law_marks.nd
    have hm : C ∈ cs T := List.mem_of_getElem? hj
    refine ⟨_, (pss_one (ps_ret (pe_lc (own := [("_law_place", 1), ("_law_is_so", 2)]) (g := gTup K 2 (gCons (gName 1) (gCons (gName 2) gNil))) (by rfl) nd (pi_enum (by rfl) T.b_enumerate (pa_cons (pe_op op_cat (pe_call (ok__law_first_marks T) (hr.mono (by decide)) rfl T._law_first_marks_mg T._law_first_marks_ok.kp T.b__law_first_marks .nil pass0 (pa_cons (pv 0) pa_nil)) (pe_call (ok__law_later_marks T) (hr.mono (by decide)) rfl T._law_later_marks_mg T._law_later_marks_ok.kp T.b__law_later_marks .nil pass0 (pa_cons (pv 0) pa_nil))) pa_nil)) (blkOk_by (own := [("_law_place", 1), ("_law_is_so", 2)]) (N := N__law_marks) (sc := defScope s__law_marks) (by decide +kernel)) (fun _ _ _ _ _ => (pg_tup rfl (pgs_cons (pg_name (i := 1) nd rfl (Or.inl rfl)) (pgs_cons (pg_name (i := 2) nd rfl (Or.inl rfl)) pgs_nil)))) (fun _ _ _ _ _ => (pts_one (pt_val (pv 2)))) (fun _ _ _ _ _ => (pv 1))))), ?_⟩
    refine ⟨_, rfl, a, C, rfl, he, ec, hm, fun l1 H1 x1 h1 => ?_⟩
    refine ⟨_, rfl, a, C, rfl, he.ext x1, ec, hm, fun l2 H2 x2 h2 => ?_⟩
    refine ⟨l1, l2, _, _, rfl, rfl, x2 _ _ h1, h2, by rw [List.length_map, List.length_map]; show 15 + 21 ≤ sizeLine; decide, fun l3 hl3 => ?_⟩
    have y3 := ext_upd (o := HO.lst ((fst_ T).map (fun D => V.bl (C == D)) ++ (ltr_ T).map (fun D => V.bl (C == D)))) hl3
    have x3 := x1.trans (x2.trans y3)
    have h3 : upd H2 l3 (.lst ((fst_ T).map (fun D => V.bl (C == D)) ++ (ltr_ T).map (fun D => V.bl (C == D)))) l3 = some (.lst ((cs T).map fun D => V.bl (C == D))) := by
      rw [upd_same, cs_two, List.map_append]
    revert x3 h3
    generalize upd H2 l3 _ = H3
    intro x3 h3
    refine ⟨l3, _, rfl, SqL.of h3, fun D hD => ?_⟩
    refine lc_it (walk_enum (K := K) (a := l3) (xs := (cs T).map fun D => V.bl (C == D))) (fun i H'' => Ext H3 H'' ∧ H'' D = some (.lst (if i ≤ j then [] else [.int (j : Nat)]))) ⟨ext_upd hD, by rw [upd_same, if_pos (Nat.zero_le _)]⟩ (fun i H'' _ h => SqL.of (h.1 _ _ h3)) (fun i x H'' H4 hi h y => ?_) (fun H'' h => ?_)
    · obtain ⟨t, u, v, rfl, ht, rfl, hu, hv⟩ := y
      cases hu
      have xt := ext_upd (o := HO.tup [.int (i : Nat), v]) ht
      have hv : ((cs T).map fun D => V.bl (C == D))[i]? = some v := hv
      rw [List.getElem?_map] at hv
      obtain ⟨D', hD', rfl⟩ := Option.map_eq_some_iff.mp hv
      refine ⟨t, _, rfl, SqT.of upd_same, rfl, _, _, rfl, _, _, rfl, rfl, rfl, ?_⟩
      refine ⟨_, rfl, _, rfl, ?_⟩
      have eD := xt _ _ h.2
      by_cases c : i = j
      · subst c
        rw [hj] at hD'
        cases hD'
        refine (if_pos (beq_self_eq_true C)).mpr ?_
        refine ⟨_, rfl, _, eD, by rw [if_pos (Nat.le_refl _)]; decide, ext_over (h.1.trans xt) hD, ?_⟩
        rw [upd_same, if_pos (Nat.le_refl _), if_neg (by omega)]
        rfl
      · have ne : ¬ (C == D') = true := fun z => by
          have z := beq_iff_eq.mp z
          subst z
          have l1 := (List.getElem?_eq_some_iff.mp hD').1
          exact c ((List.getElem?_inj l1 (nodup_cs T)).mp (hD'.trans hj.symm))
        refine (if_neg ne).mpr ?_
        refine ⟨h.1.trans xt, ?_⟩
        rw [eD]
        by_cases c2 : i ≤ j
        · rw [if_pos c2, if_pos (by omega)]
        · rw [if_neg c2, if_neg (by omega)]
    · have lt : j < (cs T).length := (List.getElem?_eq_some_iff.mp hj).1
      rw [List.length_map, if_neg (by omega)] at h
      exact k D H'' (x3.trans h.1) (ext_none x3 hD) h.2
end
end K99

namespace K99
open PySem PySem.Spec PyProof.Rows L2 L2.TP
/-- a trio of two errors and what they were made of -/
def Trio (H : Hp) (v : V) (C : Addr) (fs : List Str) (dvs : List V) (t : Addr) : Prop := ∃ a b, H t = some (.tup [.ref a, .ref b, v]) ∧ ErAt H fs ([v] ++ dvs) C a ∧ ErAt H fs ([v] ++ dvs) C b
theorem Trio.ext {H H' : Hp} {v : V} {C : Addr} {fs : List Str} {dvs : List V} {t : Addr} (h : Trio H v C fs dvs t) (e : Ext H H') : Trio H' v C fs dvs t := by
  obtain ⟨a, b, h1, h2, h3⟩ := h
  exact ⟨a, b, e _ _ h1, h2.ext e, h3.ext e⟩
theorem erAt_put {H : Hp} {C a l : Addr} {fs : List Str} {vs : List V} {xs ys : List V} (h : ErAt H fs vs C a) (hl : H l = some (.lst xs)) : ErAt (upd H l (.lst ys)) fs vs C a := by
  obtain ⟨d, h1, h2⟩ := h
  have n1 : a ≠ l := fun z => by rw [z, hl] at h1; cases h1
  have n2 : d ≠ l := fun z => by rw [z, hl] at h2; cases h2
  exact ⟨d, (upd_ne n1).trans h1, (upd_ne n2).trans h2⟩
theorem app_of {H0 H M : Hp} {l : Addr} {xs ys : List V} (e : upd H l (.lst ys) = M) (hl : H l = some (.lst xs)) (x : Ext H0 H) (h0 : H0 l = none) : Ext H0 M ∧ M l = some (.lst ys) ∧ ∀ v C fs dvs t, Trio H v C fs dvs t → Trio M v C fs dvs t := by
  subst e
  refine ⟨ext_over x h0, upd_same, fun v C fs dvs t ⟨a, b, h1, h2, h3⟩ => ?_⟩
  have n1 : t ≠ l := fun z => by rw [z, hl] at h1; cases h1
  exact ⟨a, b, (upd_ne n1).trans h1, erAt_put h2 hl, erAt_put h3 hl⟩
theorem dpAll_of {K : PySem.W.Frag} {H : Hp} : ∀ {ys : List V} {ds : List PyData}, ys.length = ds.length → (∀ (i : Nat) (y : V) (d : PyData), ys[i]? = some y → ds[i]? = some d → Dp K H y d) → DpAll K H ys ds
  | [], [], _, _ => .nil
  | y :: ys, d :: ds, h, k => .cons (k 0 y d rfl rfl) (dpAll_of (Nat.succ.inj h) fun i z e h1 h2 => k (i + 1) z e h1 h2)
structure VC (K : PySem.W.Frag) (CT C : Addr) : Prop where
  xf : XfC K C
  no : PySem.W.findIn K (.ref C) "value" = some none
  ex : ExcC K C
  te : PySem.W.kitOne K (.ref C) (.ref CT) = some true
  ve : PySem.W.kitOne K (.ref C) (.type "ValueError") = some true
structure OC (K : PySem.W.Frag) (CT C : Addr) : Prop where
  ex : ExcC K C
  te : PySem.W.kitOne K (.ref C) (.ref CT) = some true
  ve : PySem.W.kitOne K (.ref C) (.type "ValueError") = some true
/-- places as data -/
def plD (lo n : Nat) : PyData := .list ((List.range n).map fun i => .list [.int ((lo + i : Nat) : Int)])
/-- a list of one place, at y -/
def PlR (D : Addr) (lo : Nat) : Nat → V → Hp → Prop := fun i y H => ∃ m, y = .ref m ∧ m ≠ D ∧ H m = some (.lst [.int ((lo + i : Nat) : Int)])
theorem plR_ext {D : Addr} {lo : Nat} : ∀ i y (H H' : Hp), Ext H H' → PlR D lo i y H → PlR D lo i y H' := fun i y H H' e ⟨m, h1, h2, h3⟩ => ⟨m, h1, h2, e _ _ h3⟩
theorem plR_put {D : Addr} {lo : Nat} : ∀ i y (H : Hp) acc acc', H D = some (.lst acc) → PlR D lo i y H → PlR D lo i y (upd H D (.lst acc')) := fun i y H acc acc' _ ⟨m, h1, h2, h3⟩ => ⟨m, h1, h2, (upd_ne h2).trans h3⟩
theorem plD_of {K : PySem.W.Frag} {H : Hp} {D : Addr} {lo n : Nat} {ys : List V} (f : H D = some (.lst ys)) (hl : ys.length = n) (h : ∀ i y, ys[i]? = some y → PlR D lo i y H) : Dp K H (.ref D) (plD lo n) := by
  refine .lst (SqL.of f) (dpAll_of (by rw [List.length_map, List.length_range, hl]) fun i y d hy hd => ?_)
  have hi : i < n := by
    have := (List.getElem?_eq_some_iff.mp hy).1
    omega
  rw [List.getElem?_map, List.getElem?_range hi] at hd
  cases hd
  obtain ⟨m, rfl, _, hm⟩ := h i y hy
  exact .lst (SqL.of hm) (.cons (.int _) .nil)
section
variable {P : Program} {w : World} {K : PySem.W.Frag} {mg : Str → Option Value} {base : Heap}
theorem val_cls (T : Tx P K mg) : ∀ C ∈ cv T, VC K T.C_TapeError C := by
  unfold cv
  exact List.forall_mem_cons.mpr ⟨⟨T.BadSize_ev.xf, T.BadSize_ev.no, T.BadSize_ev.ex, T.BadSize_ev.te, T.BadSize_ev.ve⟩, List.forall_mem_cons.mpr ⟨⟨T.BadWorth_ev.xf, T.BadWorth_ev.no, T.BadWorth_ev.ex, T.BadWorth_ev.te, T.BadWorth_ev.ve⟩, List.forall_mem_cons.mpr ⟨⟨T.BadMost_ev.xf, T.BadMost_ev.no, T.BadMost_ev.ex, T.BadMost_ev.te, T.BadMost_ev.ve⟩, List.forall_mem_cons.mpr ⟨⟨T.BadItems_ev.xf, T.BadItems_ev.no, T.BadItems_ev.ex, T.BadItems_ev.te, T.BadItems_ev.ve⟩, List.forall_mem_cons.mpr ⟨⟨T.BadWorld_ev.xf, T.BadWorld_ev.no, T.BadWorld_ev.ex, T.BadWorld_ev.te, T.BadWorld_ev.ve⟩, List.forall_mem_cons.mpr ⟨⟨T.BadSetup_ev.xf, T.BadSetup_ev.no, T.BadSetup_ev.ex, T.BadSetup_ev.te, T.BadSetup_ev.ve⟩, List.forall_mem_cons.mpr ⟨⟨T.BadStand_ev.xf, T.BadStand_ev.no, T.BadStand_ev.ex, T.BadStand_ev.te, T.BadStand_ev.ve⟩, List.forall_mem_cons.mpr ⟨⟨T.BadDeed_ev.xf, T.BadDeed_ev.no, T.BadDeed_ev.ex, T.BadDeed_ev.te, T.BadDeed_ev.ve⟩, List.forall_mem_cons.mpr ⟨⟨T.BadPlan_ev.xf, T.BadPlan_ev.no, T.BadPlan_ev.ex, T.BadPlan_ev.te, T.BadPlan_ev.ve⟩, List.forall_mem_cons.mpr ⟨⟨T.BadKinds_ev.xf, T.BadKinds_ev.no, T.BadKinds_ev.ex, T.BadKinds_ev.te, T.BadKinds_ev.ve⟩, List.forall_mem_cons.mpr ⟨⟨T.BadSteps_ev.xf, T.BadSteps_ev.no, T.BadSteps_ev.ex, T.BadSteps_ev.te, T.BadSteps_ev.ve⟩, List.forall_mem_cons.mpr ⟨⟨T.BadEnd_ev.xf, T.BadEnd_ev.no, T.BadEnd_ev.ex, T.BadEnd_ev.te, T.BadEnd_ev.ve⟩, List.forall_mem_cons.mpr ⟨⟨T.NoWork_ev.xf, T.NoWork_ev.no, T.NoWork_ev.ex, T.NoWork_ev.te, T.NoWork_ev.ve⟩, List.forall_mem_cons.mpr ⟨⟨T.BadValues_ev.xf, T.BadValues_ev.no, T.BadValues_ev.ex, T.BadValues_ev.te, T.BadValues_ev.ve⟩, List.forall_mem_cons.mpr ⟨⟨T.BadState_ev.xf, T.BadState_ev.no, T.BadState_ev.ex, T.BadState_ev.te, T.BadState_ev.ve⟩, List.forall_mem_cons.mpr ⟨⟨T.BadTape_ev.xf, T.BadTape_ev.no, T.BadTape_ev.ex, T.BadTape_ev.te, T.BadTape_ev.ve⟩, List.forall_mem_cons.mpr ⟨⟨T.BadStory_ev.xf, T.BadStory_ev.no, T.BadStory_ev.ex, T.BadStory_ev.te, T.BadStory_ev.ve⟩, List.forall_mem_cons.mpr ⟨⟨T.BadNames_ev.xf, T.BadNames_ev.no, T.BadNames_ev.ex, T.BadNames_ev.te, T.BadNames_ev.ve⟩, List.forall_mem_cons.mpr ⟨⟨T.BadPrices_ev.xf, T.BadPrices_ev.no, T.BadPrices_ev.ex, T.BadPrices_ev.te, T.BadPrices_ev.ve⟩, List.forall_mem_cons.mpr ⟨⟨T.BadDoing_ev.xf, T.BadDoing_ev.no, T.BadDoing_ev.ex, T.BadDoing_ev.te, T.BadDoing_ev.ve⟩, List.forall_mem_cons.mpr ⟨⟨T.NoKey_ev.xf, T.NoKey_ev.no, T.NoKey_ev.ex, T.NoKey_ev.te, T.NoKey_ev.ve⟩, List.forall_mem_cons.mpr ⟨⟨T.BadChecks_ev.xf, T.BadChecks_ev.no, T.BadChecks_ev.ex, T.BadChecks_ev.te, T.BadChecks_ev.ve⟩, List.forall_mem_cons.mpr ⟨⟨T.BadPlace_ev.xf, T.BadPlace_ev.no, T.BadPlace_ev.ex, T.BadPlace_ev.te, T.BadPlace_ev.ve⟩, List.forall_mem_cons.mpr ⟨⟨T.NoTape_ev.xf, T.NoTape_ev.no, T.NoTape_ev.ex, T.NoTape_ev.te, T.NoTape_ev.ve⟩, List.forall_mem_cons.mpr ⟨⟨T.NoName_ev.xf, T.NoName_ev.no, T.NoName_ev.ex, T.NoName_ev.te, T.NoName_ev.ve⟩, List.forall_mem_cons.mpr ⟨⟨T.BadThing_ev.xf, T.BadThing_ev.no, T.BadThing_ev.ex, T.BadThing_ev.te, T.BadThing_ev.ve⟩, List.forall_mem_cons.mpr ⟨⟨T.BadRoom_ev.xf, T.BadRoom_ev.no, T.BadRoom_ev.ex, T.BadRoom_ev.te, T.BadRoom_ev.ve⟩, List.forall_mem_cons.mpr ⟨⟨T.BadCommand_ev.xf, T.BadCommand_ev.no, T.BadCommand_ev.ex, T.BadCommand_ev.te, T.BadCommand_ev.ve⟩, fun _ h => nomatch h⟩⟩⟩⟩⟩⟩⟩⟩⟩⟩⟩⟩⟩⟩⟩⟩⟩⟩⟩⟩⟩⟩⟩⟩⟩⟩⟩⟩
def co (T : Tx P K mg) : List Addr := [T.C_Fault, T.C_TooMany, T.C_BadLine, T.C_BadBytes, T.C_Wrong, T.C_Empty, T.C_NothingToUndo, T.C_NothingToRedo]
theorem oth_cls (T : Tx P K mg) : ∀ C ∈ co T, OC K T.C_TapeError C := by
  unfold co
  exact List.forall_mem_cons.mpr ⟨⟨T.Fault_ev.ex, T.Fault_ev.te, T.Fault_ev.ve⟩, List.forall_mem_cons.mpr ⟨⟨T.TooMany_ev.ex, T.TooMany_ev.te, T.TooMany_ev.ve⟩, List.forall_mem_cons.mpr ⟨⟨T.BadLine_ev.ex, T.BadLine_ev.te, T.BadLine_ev.ve⟩, List.forall_mem_cons.mpr ⟨⟨T.BadBytes_ev.ex, T.BadBytes_ev.te, T.BadBytes_ev.ve⟩, List.forall_mem_cons.mpr ⟨⟨T.Wrong_ev.ex, T.Wrong_ev.te, T.Wrong_ev.ve⟩, List.forall_mem_cons.mpr ⟨⟨T.Empty_ev.ex, T.Empty_ev.te, T.Empty_ev.ve⟩, List.forall_mem_cons.mpr ⟨⟨T.NothingToUndo_ev.ex, T.NothingToUndo_ev.te, T.NothingToUndo_ev.ve⟩, List.forall_mem_cons.mpr ⟨⟨T.NothingToRedo_ev.ex, T.NothingToRedo_ev.te, T.NothingToRedo_ev.ve⟩, fun _ h => nomatch h⟩⟩⟩⟩⟩⟩⟩⟩
theorem cs_split (T : Tx P K mg) : cs T = cv T ++ co T := rfl
def spOthers (C0 C1 C2 C3 C4 : Addr) : Sp := fun vs H Q _ => ∃ v, vs = [v] ∧ ∀ l t0 t1 t2 t3 t4 H', Ext H H' → H' l = some (.lst [.ref t0, .ref t1, .ref t2, .ref t3, .ref t4]) →
  Trio H' v C0 ["words", "what"] [.non] t0 → Trio H' v C1 ["number"] [] t1 → Trio H' v C2 ["number"] [] t2 → Trio H' v C3 ["at"] [] t3 → Trio H' v C4 ["story"] [] t4 → Q (.ref l) H'
theorem ok__law_others (T : Tx P K mg) : FnOk P w K mg base CX0 2 T.F__law_others T.fd__law_others ["_law_thing"] (spOthers T.C_Fault T.C_TooMany T.C_BadLine T.C_BadBytes T.C_Wrong) := by
  refine T._law_others_ok.ok sc__law_others (fun vs H Q E h => ?_) (fun cdv A outer s H vs Q E hr h => ?_)
  · obtain ⟨v, rfl, _⟩ := h
    rfl
  · obtain ⟨v, rfl, k⟩ := h
    have nd := sc__law_others.nd
    refine ⟨_, (pss_cons (ps_set (i := 1) nd rfl (Or.inl rfl) (pe_lst (pa_cons (pe_tup (pa_cons (pe_errP T.Fault_ev.ep (by decide) rfl hr (pa_cons (pv 0) pa_nil)) (pa_cons (pe_errK T.Fault_ev.ew rfl hr (pk_cons (pv 0) pk_nil)) (pa_cons (pe_xfV (pe_errP T.Fault_ev.ep (by decide) rfl hr (pa_cons (pv 0) pa_nil))) pa_nil)))) (pa_cons (pe_tup (pa_cons (pe_errP T.TooMany_ev.ep (by decide) rfl hr (pa_cons (pv 0) pa_nil)) (pa_cons (pe_errK T.TooMany_ev.ew rfl hr (pk_cons (pv 0) pk_nil)) (pa_cons (pv 0) pa_nil)))) pa_nil)))) (pss_cons (ps_expr (pe_bm PySem.F.plainAttrs_list PySem.F.slot_list_append PySem.F.type_list_append mt_append (pv 1) (pa_cons (pe_tup (pa_cons (pe_errP T.BadLine_ev.ep (by decide) rfl hr (pa_cons (pv 0) pa_nil)) (pa_cons (pe_errK T.BadLine_ev.ew rfl hr (pk_cons (pv 0) pk_nil)) (pa_cons (pe_xfV (pe_errP T.BadLine_ev.ep (by decide) rfl hr (pa_cons (pv 0) pa_nil))) pa_nil)))) pa_nil))) (pss_cons (ps_expr (pe_bm PySem.F.plainAttrs_list PySem.F.slot_list_append PySem.F.type_list_append mt_append (pv 1) (pa_cons (pe_tup (pa_cons (pe_errP T.BadBytes_ev.ep (by decide) rfl hr (pa_cons (pv 0) pa_nil)) (pa_cons (pe_errK T.BadBytes_ev.ew rfl hr (pk_cons (pv 0) pk_nil)) (pa_cons (pe_xfV (pe_errP T.BadBytes_ev.ep (by decide) rfl hr (pa_cons (pv 0) pa_nil))) pa_nil)))) pa_nil))) (pss_cons (ps_expr (pe_bm PySem.F.plainAttrs_list PySem.F.slot_list_append PySem.F.type_list_append mt_append (pv 1) (pa_cons (pe_tup (pa_cons (pe_errP T.Wrong_ev.ep (by decide) rfl hr (pa_cons (pv 0) pa_nil)) (pa_cons (pe_errK T.Wrong_ev.ew rfl hr (pk_cons (pv 0) pk_nil)) (pa_cons (pe_xfV (pe_errP T.Wrong_ev.ep (by decide) rfl hr (pa_cons (pv 0) pa_nil))) pa_nil)))) pa_nil))) (pss_one (ps_ret (pv 1))))))), ?_⟩
    have X : Ext H H := Ext.rfl'
    refine ⟨_, rfl, rfl, rfl, fun a1 d1 na nd ne => ?_⟩
    obtain ⟨x, h1⟩ := er_new (fs := ["words", "what"]) (vs := [v] ++ [.non]) (C := T.C_Fault) na nd ne
    generalize upd (upd _ d1 _) a1 _ = H1 at x h1 ⊢
    replace X := X.trans x
    clear x na nd ne
    refine ⟨_, rfl, rfl, rfl, fun a2 d2 na nd ne => ?_⟩
    obtain ⟨x, h2⟩ := er_new (fs := ["words", "what"]) (vs := [v] ++ [.non]) (C := T.C_Fault) na nd ne
    generalize upd (upd _ d2 _) a2 _ = H2 at x h2 ⊢
    replace h1 := h1.ext x
    replace X := X.trans x
    clear x na nd ne
    refine ⟨_, rfl, rfl, rfl, fun a3 d3 na nd ne => ?_⟩
    obtain ⟨x, h3⟩ := er_new (fs := ["words", "what"]) (vs := [v] ++ [.non]) (C := T.C_Fault) na nd ne
    generalize upd (upd _ d3 _) a3 _ = H3 at x h3 ⊢
    replace h1 := h1.ext x
    replace h2 := h2.ext x
    replace X := X.trans x
    clear x na nd ne
    obtain ⟨dq, e1, e2⟩ := h3
    refine ⟨a3, T.C_Fault, dq, _, v, rfl, e1, e2, T.Fault_ev.xf, T.Fault_ev.no, rfl, ?_⟩
    clear e1 e2
    refine ⟨by show 3 ≤ sizeLine; decide, fun t0 ht => ?_⟩
    generalize hJ : upd _ t0 _ = J0
    obtain ⟨x, f⟩ := new_of hJ ht
    clear hJ
    replace h1 := h1.ext x
    replace h2 := h2.ext x
    replace X := X.trans x
    clear x ht
    have tr0 : Trio J0 v T.C_Fault ["words", "what"] [.non] t0 := ⟨a1, a2, f, h1, h2⟩
    clear f h1 h2
    refine ⟨_, rfl, rfl, rfl, fun a4 d4 na nd ne => ?_⟩
    obtain ⟨x, h4⟩ := er_new (fs := ["number"]) (vs := [v] ++ []) (C := T.C_TooMany) na nd ne
    generalize upd (upd _ d4 _) a4 _ = H4 at x h4 ⊢
    replace tr0 := tr0.ext x
    replace X := X.trans x
    clear x na nd ne
    refine ⟨_, rfl, rfl, rfl, fun a5 d5 na nd ne => ?_⟩
    obtain ⟨x, h5⟩ := er_new (fs := ["number"]) (vs := [v] ++ []) (C := T.C_TooMany) na nd ne
    generalize upd (upd _ d5 _) a5 _ = H5 at x h5 ⊢
    replace tr0 := tr0.ext x
    replace h4 := h4.ext x
    replace X := X.trans x
    clear x na nd ne
    refine ⟨_, rfl, ?_⟩
    refine ⟨by show 3 ≤ sizeLine; decide, fun t1 ht => ?_⟩
    generalize hJ : upd _ t1 _ = J1
    obtain ⟨x, f⟩ := new_of hJ ht
    clear hJ
    replace tr0 := tr0.ext x
    replace h4 := h4.ext x
    replace h5 := h5.ext x
    replace X := X.trans x
    clear x ht
    have tr1 : Trio J1 v T.C_TooMany ["number"] [] t1 := ⟨a4, a5, f, h4, h5⟩
    clear f h4 h5
    refine ⟨by show 2 ≤ sizeLine; decide, fun l hl => ?_⟩
    have hl0 := ext_none X hl
    generalize hJ : upd _ l _ = Jl
    obtain ⟨x, F⟩ := new_of hJ hl
    clear hJ
    replace tr0 := tr0.ext x
    replace tr1 := tr1.ext x
    replace X := X.trans x
    clear x hl
    refine ⟨_, rfl, .inl ⟨rfl, _, SqL.of F⟩, ?_⟩
    refine ⟨_, rfl, rfl, rfl, fun a6 d6 na nd ne => ?_⟩
    obtain ⟨x, h6⟩ := er_new (fs := ["number"]) (vs := [v] ++ []) (C := T.C_BadLine) na nd ne
    generalize upd (upd _ d6 _) a6 _ = H6 at x h6 ⊢
    replace tr0 := tr0.ext x
    replace tr1 := tr1.ext x
    replace X := X.trans x
    replace F := x _ _ F
    clear x na nd ne
    refine ⟨_, rfl, rfl, rfl, fun a7 d7 na nd ne => ?_⟩
    obtain ⟨x, h7⟩ := er_new (fs := ["number"]) (vs := [v] ++ []) (C := T.C_BadLine) na nd ne
    generalize upd (upd _ d7 _) a7 _ = H7 at x h7 ⊢
    replace tr0 := tr0.ext x
    replace tr1 := tr1.ext x
    replace h6 := h6.ext x
    replace X := X.trans x
    replace F := x _ _ F
    clear x na nd ne
    refine ⟨_, rfl, rfl, rfl, fun a8 d8 na nd ne => ?_⟩
    obtain ⟨x, h8⟩ := er_new (fs := ["number"]) (vs := [v] ++ []) (C := T.C_BadLine) na nd ne
    generalize upd (upd _ d8 _) a8 _ = H8 at x h8 ⊢
    replace tr0 := tr0.ext x
    replace tr1 := tr1.ext x
    replace h6 := h6.ext x
    replace h7 := h7.ext x
    replace X := X.trans x
    replace F := x _ _ F
    clear x na nd ne
    obtain ⟨dq, e1, e2⟩ := h8
    refine ⟨a8, T.C_BadLine, dq, _, v, rfl, e1, e2, T.BadLine_ev.xf, T.BadLine_ev.no, rfl, ?_⟩
    clear e1 e2
    refine ⟨by show 3 ≤ sizeLine; decide, fun t2 ht => ?_⟩
    generalize hJ : upd _ t2 _ = J2
    obtain ⟨x, f⟩ := new_of hJ ht
    clear hJ
    replace tr0 := tr0.ext x
    replace tr1 := tr1.ext x
    replace h6 := h6.ext x
    replace h7 := h7.ext x
    replace X := X.trans x
    replace F := x _ _ F
    clear x ht
    have tr2 : Trio J2 v T.C_BadLine ["number"] [] t2 := ⟨a6, a7, f, h6, h7⟩
    clear f h6 h7
    refine ⟨l, _, _, rfl, rfl, F, by show 2 < sizeLine; decide, ?_⟩
    generalize hJ : upd _ l _ = M2
    obtain ⟨X2, F2, tp⟩ := app_of hJ F X hl0
    clear hJ
    replace X := X2
    replace F := F2
    clear X2 F2
    replace tr0 := tp _ _ _ _ _ tr0
    replace tr1 := tp _ _ _ _ _ tr1
    replace tr2 := tp _ _ _ _ _ tr2
    clear tp
    simp only [List.cons_append, List.nil_append] at F
    refine ⟨_, rfl, .inl ⟨rfl, _, SqL.of F⟩, ?_⟩
    refine ⟨_, rfl, rfl, rfl, fun a9 d9 na nd ne => ?_⟩
    obtain ⟨x, h9⟩ := er_new (fs := ["at"]) (vs := [v] ++ []) (C := T.C_BadBytes) na nd ne
    generalize upd (upd _ d9 _) a9 _ = H9 at x h9 ⊢
    replace tr0 := tr0.ext x
    replace tr1 := tr1.ext x
    replace tr2 := tr2.ext x
    replace X := X.trans x
    replace F := x _ _ F
    clear x na nd ne
    refine ⟨_, rfl, rfl, rfl, fun a10 d10 na nd ne => ?_⟩
    obtain ⟨x, h10⟩ := er_new (fs := ["at"]) (vs := [v] ++ []) (C := T.C_BadBytes) na nd ne
    generalize upd (upd _ d10 _) a10 _ = H10 at x h10 ⊢
    replace tr0 := tr0.ext x
    replace tr1 := tr1.ext x
    replace tr2 := tr2.ext x
    replace h9 := h9.ext x
    replace X := X.trans x
    replace F := x _ _ F
    clear x na nd ne
    refine ⟨_, rfl, rfl, rfl, fun a11 d11 na nd ne => ?_⟩
    obtain ⟨x, h11⟩ := er_new (fs := ["at"]) (vs := [v] ++ []) (C := T.C_BadBytes) na nd ne
    generalize upd (upd _ d11 _) a11 _ = H11 at x h11 ⊢
    replace tr0 := tr0.ext x
    replace tr1 := tr1.ext x
    replace tr2 := tr2.ext x
    replace h9 := h9.ext x
    replace h10 := h10.ext x
    replace X := X.trans x
    replace F := x _ _ F
    clear x na nd ne
    obtain ⟨dq, e1, e2⟩ := h11
    refine ⟨a11, T.C_BadBytes, dq, _, v, rfl, e1, e2, T.BadBytes_ev.xf, T.BadBytes_ev.no, rfl, ?_⟩
    clear e1 e2
    refine ⟨by show 3 ≤ sizeLine; decide, fun t3 ht => ?_⟩
    generalize hJ : upd _ t3 _ = J3
    obtain ⟨x, f⟩ := new_of hJ ht
    clear hJ
    replace tr0 := tr0.ext x
    replace tr1 := tr1.ext x
    replace tr2 := tr2.ext x
    replace h9 := h9.ext x
    replace h10 := h10.ext x
    replace X := X.trans x
    replace F := x _ _ F
    clear x ht
    have tr3 : Trio J3 v T.C_BadBytes ["at"] [] t3 := ⟨a9, a10, f, h9, h10⟩
    clear f h9 h10
    refine ⟨l, _, _, rfl, rfl, F, by show 3 < sizeLine; decide, ?_⟩
    generalize hJ : upd _ l _ = M3
    obtain ⟨X2, F2, tp⟩ := app_of hJ F X hl0
    clear hJ
    replace X := X2
    replace F := F2
    clear X2 F2
    replace tr0 := tp _ _ _ _ _ tr0
    replace tr1 := tp _ _ _ _ _ tr1
    replace tr2 := tp _ _ _ _ _ tr2
    replace tr3 := tp _ _ _ _ _ tr3
    clear tp
    simp only [List.cons_append, List.nil_append] at F
    refine ⟨_, rfl, .inl ⟨rfl, _, SqL.of F⟩, ?_⟩
    refine ⟨_, rfl, rfl, rfl, fun a12 d12 na nd ne => ?_⟩
    obtain ⟨x, h12⟩ := er_new (fs := ["story"]) (vs := [v] ++ []) (C := T.C_Wrong) na nd ne
    generalize upd (upd _ d12 _) a12 _ = H12 at x h12 ⊢
    replace tr0 := tr0.ext x
    replace tr1 := tr1.ext x
    replace tr2 := tr2.ext x
    replace tr3 := tr3.ext x
    replace X := X.trans x
    replace F := x _ _ F
    clear x na nd ne
    refine ⟨_, rfl, rfl, rfl, fun a13 d13 na nd ne => ?_⟩
    obtain ⟨x, h13⟩ := er_new (fs := ["story"]) (vs := [v] ++ []) (C := T.C_Wrong) na nd ne
    generalize upd (upd _ d13 _) a13 _ = H13 at x h13 ⊢
    replace tr0 := tr0.ext x
    replace tr1 := tr1.ext x
    replace tr2 := tr2.ext x
    replace tr3 := tr3.ext x
    replace h12 := h12.ext x
    replace X := X.trans x
    replace F := x _ _ F
    clear x na nd ne
    refine ⟨_, rfl, rfl, rfl, fun a14 d14 na nd ne => ?_⟩
    obtain ⟨x, h14⟩ := er_new (fs := ["story"]) (vs := [v] ++ []) (C := T.C_Wrong) na nd ne
    generalize upd (upd _ d14 _) a14 _ = H14 at x h14 ⊢
    replace tr0 := tr0.ext x
    replace tr1 := tr1.ext x
    replace tr2 := tr2.ext x
    replace tr3 := tr3.ext x
    replace h12 := h12.ext x
    replace h13 := h13.ext x
    replace X := X.trans x
    replace F := x _ _ F
    clear x na nd ne
    obtain ⟨dq, e1, e2⟩ := h14
    refine ⟨a14, T.C_Wrong, dq, _, v, rfl, e1, e2, T.Wrong_ev.xf, T.Wrong_ev.no, rfl, ?_⟩
    clear e1 e2
    refine ⟨by show 3 ≤ sizeLine; decide, fun t4 ht => ?_⟩
    generalize hJ : upd _ t4 _ = J4
    obtain ⟨x, f⟩ := new_of hJ ht
    clear hJ
    replace tr0 := tr0.ext x
    replace tr1 := tr1.ext x
    replace tr2 := tr2.ext x
    replace tr3 := tr3.ext x
    replace h12 := h12.ext x
    replace h13 := h13.ext x
    replace X := X.trans x
    replace F := x _ _ F
    clear x ht
    have tr4 : Trio J4 v T.C_Wrong ["story"] [] t4 := ⟨a12, a13, f, h12, h13⟩
    clear f h12 h13
    refine ⟨l, _, _, rfl, rfl, F, by show 4 < sizeLine; decide, ?_⟩
    generalize hJ : upd _ l _ = M4
    obtain ⟨X2, F2, tp⟩ := app_of hJ F X hl0
    clear hJ
    replace X := X2
    replace F := F2
    clear X2 F2
    replace tr0 := tp _ _ _ _ _ tr0
    replace tr1 := tp _ _ _ _ _ tr1
    replace tr2 := tp _ _ _ _ _ tr2
    replace tr3 := tp _ _ _ _ _ tr3
    replace tr4 := tp _ _ _ _ _ tr4
    clear tp
    simp only [List.cons_append, List.nil_append] at F
    exact ⟨_, rfl, k l t0 t1 t2 t3 t4 _ X F tr0 tr1 tr2 tr3 tr4⟩
end
end K99

namespace K99
open PySem PySem.Spec PyProof.Rows L2 L2.TP
theorem rep_flat {n : Nat} {v : V} : (List.replicate n [v]).flatten = List.replicate n v := by
  induction n with
  | zero => rfl
  | succ n ih => rw [List.replicate_succ, List.replicate_succ, List.flatten_cons, ih]; rfl
theorem flat_rep {n : Nat} {x : Str} : (List.replicate n (V.str x)).all flatV = true := by
  rw [List.all_replicate]
  by_cases h : n = 0
  · simp [h]
  · simp [h]; rfl
theorem bl_rep {n : Nat} : (List.replicate n true).map V.bl = List.replicate n (V.bl true) := List.map_replicate
section
variable {P : Program} {w : World} {K : PySem.W.Frag} {mg : Str → Option Value} {base : Heap}
def spRight : Sp := fun vs H Q _ => ∃ (G : Hp) (p : Addr) (k : Nat), vs = [.ref p] ∧ WP G p k H ∧ k ≤ 40000 ∧ SmH G ∧ ∀ H', WP G p (k + 16) H' → Q (.bl true) H'
theorem ok__law_right (T : Tx P K mg) : FnG P w K mg base CX0 6 T.F__law_right T.fd__law_right ["_law_pot_here"] spRight := by
  refine okG T._law_right_ok sc__law_right (fun vs H Q E h => ?_) (fun cdv A outer s H vs Q E gA hr h => ?_)
  · obtain ⟨G, p, k, rfl, _⟩ := h
    rfl
  · obtain ⟨G, p, k, rfl, wp, hk, hS, q⟩ := h
    have nd := sc__law_right.nd
    refine ⟨_, (pss_cons (ps_set (i := 1) nd rfl (Or.inl rfl) (pe_call (ok__law_any T) (hr.mono (by decide)) rfl T._law_any_mg T._law_any_ok.kp T.b__law_any .nil pass0 (pa_cons (pv 0) pa_nil))) (pss_cons (ps_set (i := 2) nd rfl (Or.inl rfl) (pe_callB (call_reprQ gA hr) (by rfl) T.b_repr (by decide +kernel) (pa_cons (pv 1) pa_nil))) (pss_cons (ps_for PassesOwn.never rfl (pi_tup (pe_tup (pa_cons (pe_call (ok__law_made T) (hr.mono (by decide)) rfl T._law_made_mg T._law_made_ok.kp T.b__law_made .nil pass0 (pa_cons (pv 1) pa_nil)) (pa_cons (pe_call (ok__law_made_by_name T) (hr.mono (by decide)) rfl T._law_made_by_name_mg T._law_made_by_name_ok.kp T.b__law_made_by_name .nil pass0 (pa_cons (pv 1) pa_nil)) pa_nil)))) (pg_name (i := 3) nd rfl (Or.inl rfl)) (pss_cons (ps_if (pt_cmpR (op_neF hr.units0) (pe_lc (own := [("_law_error", 8)]) (g := gName 8) (by rfl) nd (pi_list (pv 3)) (blkOk_by (own := [("_law_error", 8)]) (N := N__law_right) (sc := defScope s__law_right) (by decide +kernel)) (fun _ _ _ _ _ => (pg_name (i := 8) nd rfl (Or.inl rfl))) (fun _ _ _ _ _ => pts_nil) (fun _ _ _ _ _ => (pe_callB (call_reprQ gA hr) (by rfl) T.b_repr (by decide +kernel) (pa_cons (pe_xfVK (K := K) rfl (pv 8)) pa_nil)))) (pe_op op_rep (pe_lst (pa_cons (pv 2) pa_nil)) pe_int) (nomark _)) (pss_one (ps_ret pe_bl)) pss_nil) (pss_cons (ps_if (pt_cmpR (op_neD hr.units) (pe_lc (own := [("_law_error", 8)]) (g := gName 8) (by rfl) nd (pi_list (pv 3)) (blkOk_by (own := [("_law_error", 8)]) (N := N__law_right) (sc := defScope s__law_right) (by decide +kernel)) (fun _ _ _ _ _ => (pg_name (i := 8) nd rfl (Or.inl rfl))) (fun _ _ _ _ _ => pts_nil) (fun _ _ _ _ _ => (pe_call (ok__law_marks T) (hr.mono (by decide)) rfl T._law_marks_mg T._law_marks_ok.kp T.b__law_marks .nil pass0 (pa_cons (pv 8) pa_nil)))) (pe_lc (own := [("_law_place", 9)]) (g := gName 9) (by rfl) nd (pi_range1 (by rfl) T.b_range (pa_cons pe_int pa_nil)) (blkOk_by (own := [("_law_place", 9)]) (N := N__law_right) (sc := defScope s__law_right) (by decide +kernel)) (fun _ _ _ _ _ => (pg_name (i := 9) nd rfl (Or.inl rfl))) (fun _ _ _ _ _ => pts_nil) (fun _ _ _ _ _ => (pe_lst (pa_cons (pv 9) pa_nil)))) (nomark _)) (pss_one (ps_ret pe_bl)) pss_nil) (pss_one (ps_if (pt_not (pt_val (pe_callB (cr_all rfl) (by rfl) T.b_all (by decide +kernel) (pa_cons (pe_lc (own := [("_law_error", 8)]) (g := gName 8) (by rfl) nd (pi_list (pv 3)) (blkOk_by (own := [("_law_error", 8)]) (N := N__law_right) (sc := defScope s__law_right) (by decide +kernel)) (fun _ _ _ _ _ => (pg_name (i := 8) nd rfl (Or.inl rfl))) (fun _ _ _ _ _ => pts_nil) (fun _ _ _ _ _ => (pe_and (pe_callB (call_isWK (K := K) rfl) (by rfl) T.b_isinstance (by decide +kernel) (pa_cons (pv 8) (pa_cons (pe_glob (v := .ref T.C_TapeError) rfl T.TapeError_mg rfl) pa_nil))) (pe_one (pe_callB (call_isWK (K := K) rfl) (by rfl) T.b_isinstance (by decide +kernel) (pa_cons (pv 8) (pa_cons (pe_bltn (by rfl) T.b_ValueError (by decide +kernel) (v := .ty "ValueError") rfl) pa_nil))))))) pa_nil)))) (pss_one (ps_ret pe_bl)) pss_nil))))) (pss_cons (ps_set (i := 4) nd rfl (Or.inl rfl) (pe_call (ok__law_others T) (hr.mono (by decide)) rfl T._law_others_mg T._law_others_ok.kp T.b__law_others .nil pass0 (pa_cons (pv 1) pa_nil))) (pss_cons (ps_if (pt_cmpR (op_neF hr.units0) (pe_lc (own := [("_law_trio", 7)]) (g := gName 7) (by rfl) nd (pi_list (pv 4)) (blkOk_by (own := [("_law_trio", 7)]) (N := N__law_right) (sc := defScope s__law_right) (by decide +kernel)) (fun _ _ _ _ _ => (pg_name (i := 7) nd rfl (Or.inl rfl))) (fun _ _ _ _ _ => pts_nil) (fun _ _ _ _ _ => (pe_callB (call_reprQ gA hr) (by rfl) T.b_repr (by decide +kernel) (pa_cons (pe_ix (ix_tupK (K := K) rfl) (pv 7) pe_int (fun _ _ => rfl)) pa_nil)))) (pe_op op_rep (pe_lst (pa_cons (pv 2) pa_nil)) pe_int) (nomark _)) (pss_one (ps_ret pe_bl)) pss_nil) (pss_cons (ps_set (i := 5) nd rfl (Or.inl rfl) (pe_lst (pa_cons (pe_xfVK (K := K) rfl (pe_ix (ix_tupK (K := K) rfl) (pe_ix (ix_listK (K := K) rfl) (pv 4) pe_int (fun _ _ => rfl)) pe_int (fun _ _ => rfl))) (pa_cons (pe_xfVK (K := K) rfl (pe_ix (ix_tupK (K := K) rfl) (pe_ix (ix_listK (K := K) rfl) (pv 4) pe_int (fun _ _ => rfl)) pe_int (fun _ _ => rfl))) (pa_cons (pe_xfVK (K := K) rfl (pe_ix (ix_tupK (K := K) rfl) (pe_ix (ix_listK (K := K) rfl) (pv 4) pe_int (fun _ _ => rfl)) pe_int (fun _ _ => rfl))) (pa_cons (pe_xfVK (K := K) rfl (pe_ix (ix_tupK (K := K) rfl) (pe_ix (ix_listK (K := K) rfl) (pv 4) pe_int (fun _ _ => rfl)) pe_int (fun _ _ => rfl))) (pa_cons (pe_xfVK (K := K) rfl (pe_ix (ix_tupK (K := K) rfl) (pe_ix (ix_listK (K := K) rfl) (pv 4) pe_int (fun _ _ => rfl)) pe_int (fun _ _ => rfl))) pa_nil))))))) (pss_cons (ps_if (PW.pt (pw_or (pt_cmpR op_ne (pe_callB (call_reprQ gA hr) (by rfl) T.b_repr (by decide +kernel) (pa_cons (pv 5) pa_nil)) (pe_callB (call_reprQ gA hr) (by rfl) T.b_repr (by decide +kernel) (pa_cons (pe_op op_rep (pe_lst (pa_cons (pv 1) pa_nil)) pe_int) pa_nil)) (nomark _)) (pw_or1 (pt_cmpR op_ne (pe_callB (call_reprQ gA hr) (by rfl) T.b_repr (by decide +kernel) (pa_cons (pe_xfVK (K := K) rfl (pe_errP T.TooMany_ev.ep (by decide) rfl hr (pa_cons (pv 1) pa_nil))) pa_nil)) (pv 2) (nomark _))))) (pss_one (ps_ret pe_bl)) pss_nil) (pss_cons (ps_set (i := 6) nd rfl (Or.inl rfl) (pe_op op_cat (pe_lc (own := [("_law_trio", 7)]) (g := gName 7) (by rfl) nd (pi_list (pv 4)) (blkOk_by (own := [("_law_trio", 7)]) (N := N__law_right) (sc := defScope s__law_right) (by decide +kernel)) (fun _ _ _ _ _ => (pg_name (i := 7) nd rfl (Or.inl rfl))) (fun _ _ _ _ _ => pts_nil) (fun _ _ _ _ _ => (pe_ix (ix_tupK (K := K) rfl) (pv 7) pe_int (fun _ _ => rfl)))) (pe_lst (pa_cons (pe_err0 T.Empty_ev.e0 rfl hr) (pa_cons (pe_err0 T.NothingToUndo_ev.e0 rfl hr) (pa_cons (pe_err0 T.NothingToRedo_ev.e0 rfl hr) pa_nil)))))) (pss_cons (ps_if (pt_cmpR (op_neD hr.units) (pe_lc (own := [("_law_error", 8)]) (g := gName 8) (by rfl) nd (pi_list (pv 6)) (blkOk_by (own := [("_law_error", 8)]) (N := N__law_right) (sc := defScope s__law_right) (by decide +kernel)) (fun _ _ _ _ _ => (pg_name (i := 8) nd rfl (Or.inl rfl))) (fun _ _ _ _ _ => pts_nil) (fun _ _ _ _ _ => (pe_call (ok__law_marks T) (hr.mono (by decide)) rfl T._law_marks_mg T._law_marks_ok.kp T.b__law_marks .nil pass0 (pa_cons (pv 8) pa_nil)))) (pe_lc (own := [("_law_place", 9)]) (g := gName 9) (by rfl) nd (pi_range2 (by rfl) T.b_range (pa_cons pe_int (pa_cons pe_int pa_nil))) (blkOk_by (own := [("_law_place", 9)]) (N := N__law_right) (sc := defScope s__law_right) (by decide +kernel)) (fun _ _ _ _ _ => (pg_name (i := 9) nd rfl (Or.inl rfl))) (fun _ _ _ _ _ => pts_nil) (fun _ _ _ _ _ => (pe_lst (pa_cons (pv 9) pa_nil)))) (nomark _)) (pss_one (ps_ret pe_bl)) pss_nil) (pss_one (ps_ret (pe_callB (cr_all rfl) (by rfl) T.b_all (by decide +kernel) (pa_cons (pe_lc (own := [("_law_error", 8)]) (g := gName 8) (by rfl) nd (pi_list (pv 6)) (blkOk_by (own := [("_law_error", 8)]) (N := N__law_right) (sc := defScope s__law_right) (by decide +kernel)) (fun _ _ _ _ _ => (pg_name (i := 8) nd rfl (Or.inl rfl))) (fun _ _ _ _ _ => pts_nil) (fun _ _ _ _ _ => (pe_and (pe_callB (call_isWK (K := K) rfl) (by rfl) T.b_isinstance (by decide +kernel) (pa_cons (pv 8) (pa_cons (pe_glob (v := .ref T.C_TapeError) rfl T.TapeError_mg rfl) pa_nil))) (pe_one (pe_callB (call_isWK (K := K) rfl) (by rfl) T.b_isinstance (by decide +kernel) (pa_cons (pv 8) (pa_cons (pe_bltn (by rfl) T.b_ValueError (by decide +kernel) (v := .ty "ValueError") rfl) pa_nil))))))) pa_nil))))))))))))), ?_⟩
    refine ⟨_, rfl, G, p, k, rfl, wp, by omega, fun v G1 H1 x1 w1 hv => ?_⟩
    obtain ⟨d, hd, sd⟩ := hv
    have S1 : SmH H1 := (hS.ext x1).ext w1.ext
    have hd1 := hd.ext w1.ext
    refine ⟨_, rfl, v, d, rfl, S1, hd1, sd.shw, sd.d40, sd.len, ?_⟩
    refine ⟨_, rfl, v, rfl, fun as1 l1 H2 x2 f2 e2 => ?_⟩
    refine ⟨_, rfl, v, rfl, fun as2 l2 H3 x3 f3 e3 => ?_⟩
    refine ⟨by show 2 ≤ sizeLine; decide, fun t ht => ?_⟩
    generalize hJ : upd _ t _ = H4
    obtain ⟨x4, f4⟩ := new_of hJ ht
    clear hJ ht
    have X4 := x2.trans (x3.trans x4)
    replace f2 := x4 _ _ (x3 _ _ f2)
    replace e2 := e2.ext (x3.trans x4)
    replace f3 := x4 _ _ f3
    replace e3 := e3.ext x4
    have S4 := S1.ext X4
    have hd4 := hd1.ext X4
    refine ⟨t, rfl, ⟨_, SqT.of f4⟩, ?_⟩
    refine for_tup (K := K) (a := t) (xs := [.ref l1, .ref l2]) (fun i σ H' => ∃ v3, σ = [some (.ref p), some v, some (.str d.shown), v3, none, none, none, none, none, none] ∧ Ext H4 H') ⟨_, rfl, Ext.rfl'⟩ (fun i σ H' _ h => SqT.of (h.choose_spec.2 _ _ f4)) ?_ ?_
    · rintro i x σ H' hx ⟨v3, rfl, X5⟩
      obtain ⟨l, as, rfl, f5, e5⟩ : ∃ l as, x = .ref l ∧ H4 l = some (.lst (as.map V.ref)) ∧ Ers H4 ["value"] [v] (cv T) as := by
        match i, hx with
        | 0, hx => cases hx; exact ⟨_, _, rfl, f2, e2⟩
        | 1, hx => cases hx; exact ⟨_, _, rfl, f3, e3⟩
        | n + 2, hx => simp at hx
      clear hx f2 e2 f3 e3 f4
      have n28 : as.length = 28 := e5.len
      have m28 : (as.map V.ref).length = 28 := by rw [List.length_map, n28]
      replace f5 := X5 _ _ f5
      replace e5 := e5.ext X5
      have S5 := S4.ext X5
      have hd5 := hd4.ext X5
      -- what they keep
      refine ⟨_, rfl, l, rfl, ⟨_, SqL.of f5⟩, fun D hD => ?_⟩
      refine lc_flat (walk_list (K := K) (a := l) (xs := as.map V.ref)) (fun _ => .str d.shown) hD (by rw [m28]; decide) (SqL.of f5) (fun _ _ e h => h.ext e) ?_ ?_
      · rintro i x H5 H6 acc Q hi X6 hl hDa gH ⟨rfl, hx⟩ k6
        rw [List.getElem?_map] at hx
        obtain ⟨a, ha, rfl⟩ := Option.map_eq_some_iff.mp hx
        obtain ⟨C, hC, dd, ea, ed⟩ := (e5.ext X6).at ha
        have vc := val_cls T C (List.mem_of_getElem? hC)
        refine ⟨rfl, ?_⟩
        exact ⟨_, rfl, a, C, dd, _, v, rfl, ea, ed, vc.xf, vc.no, rfl, v, d, rfl, S5.ext X6, hd5.ext X6, sd.shw, sd.d40, sd.len, k6 _ Ext.rfl'⟩
      intro H6 X6 f6
      rw [m28, range_const] at f6
      refine ⟨_, rfl, by show 1 ≤ sizeLine; decide, fun lb hlb => ?_⟩
      generalize hJ : upd _ lb _ = H7
      obtain ⟨x7, f7⟩ := new_of hJ hlb
      clear hJ hlb
      refine ⟨lb, 28, _, rfl, rfl, f7, by decide, by decide, by show 1 * 28 ≤ sizeLine; decide, fun lc hlc => ?_⟩
      generalize hJ : upd _ lc _ = H8
      obtain ⟨x8, f8⟩ := new_of hJ hlc
      clear hJ hlc
      rw [show ((28 : Int).toNat) = 28 from rfl, rep_flat] at f8
      refine ⟨D, lc, List.replicate 28 (.str d.shown), rfl, rfl, SqL.of (x8 _ _ (x7 _ _ f6)), SqL.of f8, flat_rep, _, rfl, iteF ?_⟩
      have X8 := X6.trans (x7.trans x8)
      replace f5 := X8 _ _ f5
      replace e5 := e5.ext X8
      replace X5 := X5.trans X8
      clear f6 f7 f8 x7 x8 X6 X8 hD S5 hd5
      -- their marks
      refine ⟨_, rfl, l, rfl, ⟨_, SqL.of f5⟩, fun D hD => ?_⟩
      refine lc_ext (walk_list (K := K) (a := l) (xs := as.map V.ref)) (PlR D 0) hD (by rw [m28]; decide) (SqL.of f5) (fun _ _ e h => h.ext e) plR_ext plR_put ?_ ?_
      · rintro i x H5 H6 acc Q hi X6 hl hDa gH ⟨rfl, hx⟩ k6
        rw [List.getElem?_map] at hx
        obtain ⟨a, ha, rfl⟩ := Option.map_eq_some_iff.mp hx
        obtain ⟨C, hC, ec⟩ := (e5.ext X6).at ha
        have vc := val_cls T C (List.mem_of_getElem? hC)
        refine ⟨rfl, ?_⟩
        refine ⟨_, rfl, a, C, i, rfl, ec.o, vc.ex, ?_, fun m H7 x7 hm f7 => k6 _ _ x7 ⟨m, rfl, fun z => ?_, ?_⟩⟩
        · rw [cs_split, List.getElem?_append_left (List.getElem?_eq_some_iff.mp hC).1]
          exact hC
        · rw [z, hDa] at hm
          cases hm
        · rw [Nat.zero_add]
          exact f7
      intro ys H6 X6 f6 hl6 R6
      rw [m28] at hl6
      refine ⟨28, rfl, by decide, by decide, fun D2 hD2 => ?_⟩
      refine lc_ext (walk_range (lo := 0) (n := 28)) (PlR D2 0) hD2 (by decide) trivial (fun _ _ _ h => h) plR_ext plR_put ?_ ?_
      · rintro i x H5 H7 acc Q hi X7 hl hDa gH ⟨rfl, rfl⟩ k7
        refine ⟨rfl, ?_⟩
        refine ⟨_, rfl, by show 1 ≤ sizeLine; decide, fun m hm => ?_⟩
        generalize hJ : upd _ m _ = H8
        obtain ⟨x8, f8⟩ := new_of hJ hm
        refine k7 _ _ x8 ⟨m, rfl, fun z => ?_, ?_⟩
        · rw [z, hDa] at hm
          cases hm
        · rw [f8]
          congr 3
      intro zs H7 X7 f7 hl7 R7
      refine ⟨plD 0 28, plD 0 28, plD_of (X7 _ _ f6) hl6 (fun i y hy => plR_ext i y _ _ X7 (R6 i y hy)), plD_of f7 hl7 R7, by decide +kernel, by decide +kernel, _, rfl, ?_⟩
      refine (if_neg (show ¬ (!PyData.eqv (plD 0 28) (plD 0 28)) = true by decide +kernel)).mpr ?_
      have X8 := X6.trans X7
      replace f5 := X8 _ _ f5
      replace e5 := e5.ext X8
      replace X5 := X5.trans X8
      clear f6 f7 R6 R7 X6 X7 X8 hD hD2 hl6 hl7
      -- their classes
      refine ⟨_, rfl, l, rfl, ⟨_, SqL.of f5⟩, fun D hD => ?_⟩
      refine lc_flat (walk_list (K := K) (a := l) (xs := as.map V.ref)) (fun _ => .bl true) hD (by rw [m28]; decide) (SqL.of f5) (fun _ _ e h => h.ext e) ?_ ?_
      · rintro i x H5 H6 acc Q hi X6 hl hDa gH ⟨rfl, hx⟩ k6
        rw [List.getElem?_map] at hx
        obtain ⟨a, ha, rfl⟩ := Option.map_eq_some_iff.mp hx
        obtain ⟨C, hC, ec⟩ := (e5.ext X6).at ha
        obtain ⟨dd, e1, e2⟩ := ec.o
        have vc := val_cls T C (List.mem_of_getElem? hC)
        refine ⟨rfl, ?_⟩
        refine ⟨_, rfl, a, C, dd, _, _, true, rfl, .own _, e1, e2, vc.ex, vc.te, _, rfl, ?_⟩
        refine iteT ?_
        exact ⟨_, rfl, a, C, dd, _, _, true, rfl, .ty _, e1, e2, vc.ex, vc.ve, k6 _ Ext.rfl'⟩
      intro H6 X6 f6
      rw [m28, range_const] at f6
      refine ⟨D, List.replicate 28 true, rfl, SqL.of (by rw [bl_rep]; exact f6), _, rfl, ?_⟩
      refine (if_neg (show ¬ (!(List.replicate 28 true).all id) = true by decide)).mpr ?_
      exact ⟨_, rfl, X5.trans X6⟩
    · rintro σ H' ⟨v3, rfl, X5⟩
      have S5 := S4.ext X5
      have hd5 := hd4.ext X5
      have X15 := X4.trans X5
      clear f2 e2 f3 e3 f4 S4 hd4 X4 X5 x2 x3 x4
      refine ⟨_, rfl, v, rfl, fun l t0 t1 t2 t3 t4 H6 X6 F r0 r1 r2 r3 r4 => ?_⟩
      replace S5 := S5.ext X6
      replace hd5 := hd5.ext X6
      replace X15 := X15.trans X6
      clear X6
      obtain ⟨a0, b0, g0, ea0, eb0⟩ := r0
      obtain ⟨a1, b1, g1, ea1, eb1⟩ := r1
      obtain ⟨a2, b2, g2, ea2, eb2⟩ := r2
      obtain ⟨a3, b3, g3, ea3, eb3⟩ := r3
      obtain ⟨a4, b4, g4, ea4, eb4⟩ := r4
      have tri : ∀ (i : Nat) (x : V), [V.ref t0, .ref t1, .ref t2, .ref t3, .ref t4][i]? = some x → ∃ t a b, x = .ref t ∧ H6 t = some (.tup [.ref a, .ref b, v]) ∧ [a0, a1, a2, a3, a4][i]? = some a := by
        intro i x hx
        match i, hx with
        | 0, hx => cases hx; exact ⟨_, _, _, rfl, g0, rfl⟩
        | 1, hx => cases hx; exact ⟨_, _, _, rfl, g1, rfl⟩
        | 2, hx => cases hx; exact ⟨_, _, _, rfl, g2, rfl⟩
        | 3, hx => cases hx; exact ⟨_, _, _, rfl, g3, rfl⟩
        | 4, hx => cases hx; exact ⟨_, _, _, rfl, g4, rfl⟩
        | n + 5, hx => simp at hx
      -- what stands third
      refine ⟨_, rfl, l, rfl, ⟨_, SqL.of F⟩, fun D hD => ?_⟩
      refine lc_flat (walk_list (K := K) (a := l) (xs := [.ref t0, .ref t1, .ref t2, .ref t3, .ref t4])) (fun _ => .str d.shown) hD (by show 5 ≤ 100000; decide) (SqL.of F) (fun _ _ e h => h.ext e) ?_ ?_
      · rintro i x H5 H7 acc Q hi X7 hl hDa gH ⟨rfl, hx⟩ k7
        obtain ⟨t, a, b, rfl, ft, _⟩ := tri i x hx
        refine ⟨rfl, ?_⟩
        exact ⟨_, rfl, t, _, 2, v, rfl, rfl, SqT.of (X7 _ _ ft), rfl, v, d, rfl, S5.ext X7, hd5.ext X7, sd.shw, sd.d40, sd.len, k7 _ Ext.rfl'⟩
      intro H7 X7 f7
      have f7 : H7 D = some (.lst (List.replicate 5 (.str d.shown))) := f7
      refine ⟨_, rfl, by show 1 ≤ sizeLine; decide, fun lb hlb => ?_⟩
      generalize hJ : upd _ lb _ = H8
      obtain ⟨x8, f8⟩ := new_of hJ hlb
      clear hJ hlb
      refine ⟨lb, 5, _, rfl, rfl, f8, by decide, by decide, by show 1 * 5 ≤ sizeLine; decide, fun lc hlc => ?_⟩
      generalize hJ : upd _ lc _ = H9
      obtain ⟨x9, f9⟩ := new_of hJ hlc
      clear hJ hlc
      rw [show ((5 : Int).toNat) = 5 from rfl, rep_flat] at f9
      refine ⟨D, lc, List.replicate 5 (.str d.shown), rfl, rfl, SqL.of (x9 _ _ (x8 _ _ f7)), SqL.of f9, flat_rep, _, rfl, iteF ?_⟩
      have X9 := X7.trans (x8.trans x9)
      clear f7 f8 f9 x8 x9 X7 hD
      -- by their names
      obtain ⟨d0, p0, q0⟩ := eb0.ext X9
      obtain ⟨d1, p1, q1⟩ := eb1.ext X9
      obtain ⟨d2, p2, q2⟩ := eb2.ext X9
      obtain ⟨d3, p3, q3⟩ := eb3.ext X9
      obtain ⟨d4, p4, q4⟩ := eb4.ext X9
      have FF := X9 _ _ F
      refine ⟨_, rfl, l, _, 0, _, rfl, rfl, SqL.of FF, rfl, t0, _, 1, _, rfl, rfl, SqT.of (X9 _ _ g0), rfl, b0, T.C_Fault, d0, _, v, rfl, p0, q0, T.Fault_ev.xf, T.Fault_ev.no, rfl, ?_⟩
      refine ⟨_, rfl, l, _, 1, _, rfl, rfl, SqL.of FF, rfl, t1, _, 1, _, rfl, rfl, SqT.of (X9 _ _ g1), rfl, b1, T.C_TooMany, d1, _, v, rfl, p1, q1, T.TooMany_ev.xf, T.TooMany_ev.no, rfl, ?_⟩
      refine ⟨_, rfl, l, _, 2, _, rfl, rfl, SqL.of FF, rfl, t2, _, 1, _, rfl, rfl, SqT.of (X9 _ _ g2), rfl, b2, T.C_BadLine, d2, _, v, rfl, p2, q2, T.BadLine_ev.xf, T.BadLine_ev.no, rfl, ?_⟩
      refine ⟨_, rfl, l, _, 3, _, rfl, rfl, SqL.of FF, rfl, t3, _, 1, _, rfl, rfl, SqT.of (X9 _ _ g3), rfl, b3, T.C_BadBytes, d3, _, v, rfl, p3, q3, T.BadBytes_ev.xf, T.BadBytes_ev.no, rfl, ?_⟩
      refine ⟨_, rfl, l, _, 4, _, rfl, rfl, SqL.of FF, rfl, t4, _, 1, _, rfl, rfl, SqT.of (X9 _ _ g4), rfl, b4, T.C_Wrong, d4, _, v, rfl, p4, q4, T.Wrong_ev.xf, T.Wrong_ev.no, rfl, ?_⟩
      refine ⟨by show 5 ≤ sizeLine; decide, fun ln hln => ?_⟩
      generalize hJ : upd _ ln _ = H10
      obtain ⟨x10, f10⟩ := new_of hJ hln
      clear hJ hln p0 p1 p2 p3 p4 q0 q1 q2 q3 q4 FF
      have X10 := X9.trans x10
      have s5 : Sd 17 1100 (.list [d, d, d, d, d]) := (Sd.lst (SdA.cons sd (SdA.cons sd (SdA.cons sd (SdA.cons sd (SdA.cons sd (SdA.nil (w := 0)))))))).mono (by decide) (by decide)
      have al : ∀ H', Ext H6 H' → DqAll H' [v, v, v, v, v] [d, d, d, d, d] := fun H' e => .cons (hd5.ext e) (.cons (hd5.ext e) (.cons (hd5.ext e) (.cons (hd5.ext e) (.cons (hd5.ext e) .nil))))
      refine ⟨_, rfl, _, .list [d, d, d, d, d], rfl, S5.ext X10, .lst f10 (al _ X10), s5.shw, s5.d40, s5.len, ?_⟩
      refine ⟨_, rfl, by show 1 ≤ sizeLine; decide, fun lb hlb => ?_⟩
      generalize hJ : upd _ lb _ = H11
      obtain ⟨x11, f11⟩ := new_of hJ hlb
      clear hJ hlb
      refine ⟨lb, 5, _, rfl, rfl, f11, by decide, by decide, by show 1 * 5 ≤ sizeLine; decide, fun lc hlc => ?_⟩
      generalize hJ : upd _ lc _ = H12
      obtain ⟨x12, f12⟩ := new_of hJ hlc
      clear hJ hlc
      have X12 := X10.trans (x11.trans x12)
      have f12 : H12 lc = some (.lst [v, v, v, v, v]) := f12
      refine ⟨_, .list [d, d, d, d, d], rfl, S5.ext X12, .lst f12 (al _ X12), s5.shw, s5.d40, s5.len, rfl, _, rfl, ?_⟩
      refine (if_neg (show ¬ (!decide (V.str _ = V.str _)) = true by rw [str_eq]; decide)).mpr ?_
      refine ⟨_, rfl, rfl, rfl, fun am dm na nd ne => ?_⟩
      obtain ⟨x13, hm⟩ := er_new (fs := ["number"]) (vs := [v] ++ []) (C := T.C_TooMany) na nd ne
      generalize upd (upd _ dm _) am _ = H13 at x13 hm ⊢
      obtain ⟨dn, pm, qm⟩ := hm
      have X13 := X12.trans x13
      refine ⟨am, T.C_TooMany, dn, _, v, rfl, pm, qm, T.TooMany_ev.xf, T.TooMany_ev.no, rfl, v, d, rfl, S5.ext X13, hd5.ext X13, sd.shw, sd.d40, sd.len, ?_⟩
      refine ⟨_, rfl, rfl, _, rfl, ?_⟩
      refine (if_neg (show ¬ (!decide (V.str _ = V.str _)) = true by rw [str_eq]; decide)).mpr ?_
      clear f10 f11 f12 x10 x11 x12 x13 X9 X10 X12 pm qm na nd ne
      -- the rest
      refine ⟨_, rfl, l, rfl, ⟨_, SqL.of (X13 _ _ F)⟩, fun D hD => ?_⟩
      refine lc_flat (walk_list (K := K) (a := l) (xs := [.ref t0, .ref t1, .ref t2, .ref t3, .ref t4])) (fun i => ([a0, a1, a2, a3, a4].map V.ref).getD i .non) hD (by show 5 ≤ 100000; decide) (SqL.of (X13 _ _ F)) (fun _ _ e h => h.ext e) ?_ ?_
      · rintro i x H5 H7 acc Q hi X7 hl hDa gH ⟨rfl, hx⟩ k7
        obtain ⟨t, a, b, rfl, ft, ha⟩ := tri i x hx
        refine ⟨rfl, ?_⟩
        have e : ([a0, a1, a2, a3, a4].map V.ref).getD i .non = .ref a := by
          rw [List.getD_eq_getElem?_getD, List.getElem?_map, ha]
          rfl
        have z := k7 _ Ext.rfl'
        rw [e] at z
        exact ⟨_, rfl, t, _, 0, _, rfl, rfl, SqT.of (X7 _ _ (X13 _ _ ft)), rfl, z⟩
      intro H7 X7 f7
      have f7 : H7 D = some (.lst [.ref a0, .ref a1, .ref a2, .ref a3, .ref a4]) := f7
      have X14 := X13.trans X7
      refine fun e0 ne0 => ?_
      generalize hJ : upd _ e0 _ = H8
      obtain ⟨x8, f8⟩ := new_of hJ ne0
      clear hJ ne0
      refine fun e1 ne1 => ?_
      generalize hJ : upd _ e1 _ = H9
      obtain ⟨x9, f9⟩ := new_of hJ ne1
      clear hJ ne1
      refine fun e2 ne2 => ?_
      generalize hJ : upd _ e2 _ = H10
      obtain ⟨x10, f10⟩ := new_of hJ ne2
      clear hJ ne2
      refine ⟨by show 3 ≤ sizeLine; decide, fun l3 hl3 => ?_⟩
      generalize hJ : upd _ l3 _ = H11
      obtain ⟨x11, f11⟩ := new_of hJ hl3
      clear hJ hl3
      have y8 := x9.trans (x10.trans x11)
      refine ⟨D, l3, _, _, rfl, rfl, (x8.trans y8) _ _ f7, f11, by show 5 + 3 ≤ sizeLine; decide, fun l4 hl4 => ?_⟩
      generalize hJ : upd _ l4 _ = H12
      obtain ⟨x12, f12⟩ := new_of hJ hl4
      clear hJ hl4
      simp only [List.cons_append, List.nil_append] at f12
      have X15b := X14.trans (x8.trans (y8.trans x12))
      have er : ∀ (i : Nat) (x : V), [V.ref a0, .ref a1, .ref a2, .ref a3, .ref a4, .ref e0, .ref e1, .ref e2][i]? = some x → ∃ a C, x = .ref a ∧ ErO H12 C a ∧ (co T)[i]? = some C := by
        intro i x hx
        match i, hx with
        | 0, hx => cases hx; exact ⟨_, _, rfl, ea0.o.ext X15b, rfl⟩
        | 1, hx => cases hx; exact ⟨_, _, rfl, ea1.o.ext X15b, rfl⟩
        | 2, hx => cases hx; exact ⟨_, _, rfl, ea2.o.ext X15b, rfl⟩
        | 3, hx => cases hx; exact ⟨_, _, rfl, ea3.o.ext X15b, rfl⟩
        | 4, hx => cases hx; exact ⟨_, _, rfl, ea4.o.ext X15b, rfl⟩
        | 5, hx => cases hx; exact ⟨_, _, rfl, ⟨none, x12 _ _ (y8 _ _ f8), fun _ z => nomatch z⟩, rfl⟩
        | 6, hx => cases hx; exact ⟨_, _, rfl, ⟨none, x12 _ _ (x11 _ _ (x10 _ _ f9)), fun _ z => nomatch z⟩, rfl⟩
        | 7, hx => cases hx; exact ⟨_, _, rfl, ⟨none, x12 _ _ (x11 _ _ f10), fun _ z => nomatch z⟩, rfl⟩
        | n + 8, hx => simp at hx
      have X16 := X15.trans X15b
      clear f7 f8 f9 f10 f11 x8 x9 x10 x11 x12 y8 X7 X13 X14 hD tri
      refine ⟨_, rfl, l4, rfl, ⟨_, SqL.of f12⟩, fun D hD => ?_⟩
      refine lc_ext (walk_list (K := K) (a := l4) (xs := [.ref a0, .ref a1, .ref a2, .ref a3, .ref a4, .ref e0, .ref e1, .ref e2])) (PlR D 28) hD (by show 8 ≤ 100000; decide) (SqL.of f12) (fun _ _ e h => h.ext e) plR_ext plR_put ?_ ?_
      · rintro i x H5 H6 acc Q hi X6 hl hDa gH ⟨rfl, hx⟩ k6
        obtain ⟨a, C, rfl, eo, hC⟩ := er i x hx
        have oc := oth_cls T C (List.mem_of_getElem? hC)
        refine ⟨rfl, ?_⟩
        refine ⟨_, rfl, a, C, 28 + i, rfl, eo.ext X6, oc.ex, ?_, fun m H7 x7 hm f7 => k6 _ _ x7 ⟨m, rfl, fun z => ?_, f7⟩⟩
        · rw [cs_split, List.getElem?_append_right (by show 28 ≤ 28 + i; omega)]
          show (co T)[28 + i - 28]? = _
          rw [Nat.add_sub_cancel_left]
          exact hC
        · rw [z, hDa] at hm
          cases hm
      intro ys H6 X6 f6 hl6 R6
      refine ⟨28, 36, rfl, ⟨by decide, by decide, by decide, by decide⟩, fun D2 hD2 => ?_⟩
      refine lc_ext (walk_range (lo := 28) (n := 8)) (PlR D2 28) hD2 (by decide) trivial (fun _ _ _ h => h) plR_ext plR_put ?_ ?_
      · rintro i x H5 H7 acc Q hi X7 hl hDa gH ⟨rfl, rfl⟩ k7
        refine ⟨rfl, ?_⟩
        refine ⟨_, rfl, by show 1 ≤ sizeLine; decide, fun m hm => ?_⟩
        generalize hJ : upd _ m _ = H8
        obtain ⟨x8, f8⟩ := new_of hJ hm
        refine k7 _ _ x8 ⟨m, rfl, fun z => ?_, ?_⟩
        · rw [z, hDa] at hm
          cases hm
        · rw [f8]
          congr 3
      intro zs H7 X7 f7 hl7 R7
      refine ⟨plD 28 8, plD 28 8, plD_of (X7 _ _ f6) hl6 (fun i y hy => plR_ext i y _ _ X7 (R6 i y hy)), plD_of f7 hl7 R7, by decide +kernel, by decide +kernel, _, rfl, ?_⟩
      refine (if_neg (show ¬ (!PyData.eqv (plD 28 8) (plD 28 8)) = true by decide +kernel)).mpr ?_
      have X8 := X6.trans X7
      clear f6 f7 R6 R7 hD hD2 hl6 hl7
      refine ⟨_, rfl, l4, rfl, ⟨_, SqL.of (X8 _ _ f12)⟩, fun D hD => ?_⟩
      refine lc_flat (walk_list (K := K) (a := l4) (xs := [.ref a0, .ref a1, .ref a2, .ref a3, .ref a4, .ref e0, .ref e1, .ref e2])) (fun _ => .bl true) hD (by show 8 ≤ 100000; decide) (SqL.of (X8 _ _ f12)) (fun _ _ e h => h.ext e) ?_ ?_
      · rintro i x H5 H6 acc Q hi X9 hl hDa gH ⟨rfl, hx⟩ k6
        obtain ⟨a, C, rfl, eo, hC⟩ := er i x hx
        obtain ⟨dd, p1, p2⟩ := eo.ext (X8.trans X9)
        have oc := oth_cls T C (List.mem_of_getElem? hC)
        refine ⟨rfl, ?_⟩
        refine ⟨_, rfl, a, C, dd, _, _, true, rfl, .own _, p1, p2, oc.ex, oc.te, _, rfl, ?_⟩
        refine iteT ?_
        exact ⟨_, rfl, a, C, dd, _, _, true, rfl, .ty _, p1, p2, oc.ex, oc.ve, k6 _ Ext.rfl'⟩
      intro H9 X9 f9
      have f9 : H9 D = some (.lst (List.replicate 8 (.bl true))) := f9
      refine ⟨D, List.replicate 8 true, rfl, SqL.of f9, ?_⟩
      have wz := w1.grow (X16.trans (X8.trans X9))
      exact q _ ⟨x1.trans wz.ext, wp.no, wz.pot⟩
def spLaw (K : PySem.W.Frag) : Sp := fun vs H Q _ => ∃ (a : Addr) (ns : List Int), vs = [.ref a] ∧ SqL K H a (ns.map V.int) ∧ ns.length ≤ 10000 ∧ SmH H ∧ ∀ H', Q (.bl true) H'
theorem ok_law (T : Tx P K mg) : FnG P w K mg base CX0 7 T.F_law T.fd_law ["_law_script"] (spLaw K) := by
  refine okG T.law_ok sc_law (fun vs H Q E h => ?_) (fun cdv A outer s H vs Q E gA hr h => ?_)
  · obtain ⟨a, ns, rfl, _⟩ := h
    rfl
  · obtain ⟨a, ns, rfl, hS, hl, hM, k⟩ := h
    have nd := sc_law.nd
    refine ⟨_, (pss_cons (ps_for PassesOwn.never rfl (pi_range1 (by rfl) T.b_range (pa_cons (pe_op op_add (pe_op op_add pe_int (pe_callTy call_int1 (by rfl) T.b_int (by decide +kernel) (pa_cons (pe_cmpR op_gt (pe_callB call_len_seq (by rfl) T.b_len (by decide +kernel) (pa_cons (pv 0) pa_nil)) pe_int (nomark _)) pa_nil))) (pe_callTy call_int1 (by rfl) T.b_int (by decide +kernel) (pa_cons (pe_cmpR op_gt (pe_callB call_len_seq (by rfl) T.b_len (by decide +kernel) (pa_cons (pv 0) pa_nil)) pe_int (nomark _)) pa_nil))) pa_nil)) (pg_name (i := 1) nd rfl (Or.inl rfl)) (pss_cons (ps_set (i := 2) nd rfl (Or.inr rfl) (pe_call (ok__law_pot T) (hr.mono (by decide)) rfl T._law_pot_mg T._law_pot_ok.kp T.b__law_pot .nil pass0 (pa_cons (pv 0) (pa_cons (pv 1) pa_nil)))) (pss_one (ps_if (pt_not (pt_val (pe_callB (cr_all rfl) (by rfl) T.b_all (by decide +kernel) (pa_cons (pe_lc (own := [("_law_turn", 3)]) (g := gName 3) (by rfl) nd (pi_range1 (by rfl) T.b_range (pa_cons pe_int pa_nil)) (blkOk_by (own := [("_law_turn", 3)]) (N := N_law) (sc := defScope s_law) (by decide +kernel)) (fun _ _ _ _ _ => (pg_name (i := 3) nd rfl (Or.inl rfl))) (fun _ _ _ _ _ => pts_nil) (fun _ _ _ _ _ => (pe_callG (ok__law_right T) gA (hr.mono (by decide)) rfl T._law_right_mg T._law_right_ok.kp T.b__law_right .nil pass0 (pa_cons (pv 2) pa_nil)))) pa_nil)))) (pss_one (ps_ret pe_bl)) pss_nil)))) (pss_one (ps_ret pe_bl))), ?_⟩
    refine ⟨_, rfl, a, _, rfl, .inl hS, _, _, rfl, rfl, .inr ⟨_, rfl, _, _, rfl, rfl, _, rfl, a, _, rfl, .inl hS, _, _, rfl, rfl, .inr ⟨_, rfl, _, _, rfl, rfl, ?_⟩⟩⟩
    obtain ⟨j, hj⟩ : ∃ j : Int, 1 + (if decide (1 < ((ns.map V.int).length : Int)) = true then (1 : Int) else 0) + (if decide (2 < ((ns.map V.int).length : Int)) = true then (1 : Int) else 0) = j := ⟨_, rfl⟩
    have j0 : 0 ≤ j ∧ j ≤ 3 := by
      rw [← hj]
      constructor <;> (split <;> split <;> omega)
    refine ⟨j, by rw [← hj], by omega, by omega, ?_⟩
    refine for_range (n := j.toNat) (lo := 0) (fun i σ H' => ∃ (v1 v2 : Option V), σ = [some (.ref a), v1, v2, none] ∧ Ext H H') ⟨_, _, rfl, Ext.rfl'⟩ ?_ ?_
    · rintro i σ H' hi ⟨v1, v2, rfl, x1⟩
      refine ⟨_, rfl, _, rfl, a, ns, 0 + i, rfl, hS.ext x1, by omega, by omega, fun p x y hp x0 y0 y1 => ?_⟩
      have w0 : WP H' p 0 (upd H' p (.lst [.int x, .int y, .int 0])) := ⟨ext_upd hp, hp, ⟨x, y, 0, upd_same, x0, y0, y1, by decide, by decide⟩⟩
      refine ⟨6, rfl, by decide, by decide, fun D hD => ?_⟩
      have gD := ext_none w0.ext hD
      refine lc_range (n := 6) (lo := 0) (fun j H'' => WP (upd H' D (.lst (List.replicate j (.bl true)))) p (200 * j) H'') (w0.new hD) (fun j H'' hj h => ?_) (fun H'' h => ?_)
      · refine ⟨rfl, ?_⟩
        refine ⟨_, rfl, _, p, _, rfl, h, by omega, (hM.ext x1).ext (ext_upd gD), fun H4 w4 => ?_⟩
        refine ⟨_, w4.ext _ _ upd_same, by rw [List.length_replicate]; exact Nat.lt_trans hj (by decide), ?_⟩
        rw [← List.replicate_succ']
        exact (WP.over w4 gD).mono (by omega)
      · refine ⟨D, List.replicate 6 true, rfl, SqL.of (h.ext _ _ upd_same), _, rfl, ?_⟩
        refine (if_neg (show ¬ (!(List.replicate 6 true).all id) = true by decide)).mpr ?_
        exact ⟨_, _, rfl, x1.trans ((ext_upd gD).trans h.ext)⟩
    · rintro σ H' ⟨v1, v2, rfl, x1⟩
      exact k _
end
end K99

namespace K99
open PySem PySem.Spec PyProof.Rows L2 L2.TP
theorem walk2 {l : PySem.W.OpenLaw} {n : Nat} {q : Program} {loose : List Str} {XP : (Str → Option Value) → Heap → Prop} {d : DefRec}
    (hn : l.most = some n) (hn2 : n ≤ 10000) (hdf : d.params.defaults = []) (hr : Room 7 callerA) (hdn : d.name = "law") (hi : importsNone q = true) (hF : l.prog.main.file = FILE) (hP : (l.prog.main.scope.names.lookup ("super" : Str)).isSome = false) :
    PySem.W.WalkO q loose XP (hookY chk fnl).says l.row.toRowW d [] (fun f vs => PySem.call f vs) := by
  refine walkLE (k := 7) (CX := CX0) (x := "_law_script") hn (Nat.le_trans hn2 (by decide)) hdf hr hi (fun w mg fa h Y tab G hmg => ?_) (fun _ _ _ _ z => z)
  obtain ⟨K, KX, c⟩ := Y
  obtain ⟨T⟩ := tx_of (P := l.prog) KX G hF hP c
  rw [hdn] at hmg
  have e := T.law_mg
  rw [hmg] at e
  injection e with e
  injection e with e
  subst e
  refine ⟨K, KX, T.mods, T.fd_law, [], spLaw K, fun p hp => (nomatch hp), fun p hp => (nomatch hp), fun p hp => (nomatch hp), fun s u => ?_, fun H oS a ns hl ht hs hS => ⟨a, ns, rfl, hS, Nat.le_trans hl hn2, ⟨oS, hs⟩, fun _ => rfl⟩, fun base _ _ _ => ok_law T⟩
  obtain ⟨_, _, _, _, _, _, _, _, _, e, _⟩ := T.law_ok.ex
  rw [e]
  exact .of_eq rfl
end K99

set_option maxHeartbeats 0
namespace K99
open PySem PySem.W PyProof.Rows L2.TP
abbrev R : OpenRow := OpenLaw.row PySem.Challenge.rw_tapedonce_k99_errors_made_with_any_value
abbrev qv : Program := view R.prog [50]
def names : List PySem.Str := (["__name__", "TapeError", "Fault", "Wrong", "TooMany", "BadLine", "BadBytes", "Empty", "NothingToUndo", "NothingToRedo", "BadSize", "BadWorth", "BadMost", "BadItems", "BadWorld", "BadSetup", "BadStand", "BadDeed", "BadPlan", "BadKinds", "BadSteps", "BadEnd", "NoWork", "BadValues", "BadState", "BadTape", "BadStory", "BadNames", "BadPrices", "BadDoing"] : List Str) ++ (["NoKey", "BadChecks", "BadPlace", "NoTape", "NoName", "BadThing", "BadRoom", "BadCommand", "_law_pot", "_law_take", "_law_of", "_law_any", "_law_made", "_law_made_by_name", "_law_first_marks", "_law_later_marks", "_law_marks", "_law_others", "_law_right"] : List Str)
theorem run (w : World) : HandSHeadRun.RunEq R qv (hookY chk fnl) (obT chk fnl) 12000 names w := by
  intro os
  kernel_rfl
end K99

open PySem PySem.W PySem.Calls PyProof.Rows in
set_option maxRecDepth 100000 in
set_option maxHeartbeats 0 in
theorem PySem.Challenge.cw_tapedonce_k99_errors_made_with_any_value_holds : PySem.Challenge.rw_tapedonce_k99_errors_made_with_any_value.Holds := by
  w_on; o_law
  refine HandSHeadRun.head_any (r := OpenLaw.row PySem.Challenge.rw_tapedonce_k99_errors_made_with_any_value) (q := K99.qv) (H := L2.TP.hookY K99.chk K99.fnl) (ob := L2.TP.obT K99.chk K99.fnl) (M := 12000) (loose := K99.names) (d := HandSHeadRun.topDef (OpenLaw.row PySem.Challenge.rw_tapedonce_k99_errors_made_with_any_value).prog 50) (kwd := []) L2.TP.obT_eq
    (by kernel_rfl) (fun s => by kernel_rfl) K99.run (by kernel_rfl) (by kernel_rfl) (by kernel_rfl) (by rfl) (by first | assumption | decide +kernel) (by decide +kernel) ⟨rfl, rfl, rfl, rfl, rfl, by decide +kernel⟩ ?hw ?hc
  case hw => w_witness2
  case hc => exact K99.walk2 (l := PySem.Challenge.rw_tapedonce_k99_errors_made_with_any_value) (n := 63) rfl (by decide) (by kernel_rfl) ⟨rfl, by decide, by decide⟩ (by kernel_rfl) (by kernel_rfl) rfl rfl

