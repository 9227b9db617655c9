import PyProof.Rows.All
import Wide.All
import OpenK.AllK
import Wide.FinOn
import HandS.ForMost
import HandS.ForExc
import HandS.EndBits
import HandS.OwnEq
import HandS.IsInst
import HandS.Property
import HandS.ExcInit
import HandS.ExcField
import KE.KExcSuper
import KE.KOpsOwn
import HandS.Defaults
import HandS.ExcIs
import PyProof.ReprLen
import OpenK.KMeth
import OpenK.KOps
import KE.KStar
import HandS.ExcOwn
import HandS.More
import HandS.Evl
import PySem.Challenge.RW_tapedonce_k02_rows_read_set_and_pushed
set_option Elab.async false
set_option linter.all false
set_option maxRecDepth 100000
set_option maxHeartbeats 4000000
/-! Layer A: promises of defs that are called where no text of a container is being made (so that repr may be used in them). -/
namespace L2.TP
open PySem PySem.Spec PyProof.Rows

/-- the promise of a def, where nothing shows itself -/
structure FnG (P : Program) (w : World) (K : PySem.W.Frag) (mg : Str → Option Value) (base : Heap) (CX : CXT) (k : Nat)
    (f : Addr) (fd : FuncData) (ps : List Str) (sp : Sp) : Prop where
  len : ∀ vs H Q E, sp vs H Q E → vs.length = ps.length
  run : ∀ (A : Around) (outer : List Env) (s : Shared) (H : Hp) (args : Args) (us : List Value) (vs : List V) (Q : VK) (E : XK),
    A.guards = some [] → Room k A → Env0 P w K mg base A outer s H → BindsTo s fd args (ps.zip us) → Vals vs us → sp vs H Q E →
    codeAny (model P w) A (.call (.ref f) args) (CR CX outer P w H s Q E) s

section
variable {P : Program} {w : World} {K : PySem.W.Frag} {mg : Str → Option Value} {base : Heap} {CX : CXT}
theorem FnG.of {k : Nat} {f : Addr} {fd : FuncData} {ps : List Str} {sp : Sp} (F : FnOk P w K mg base CX k f fd ps sp) : FnG P w K mg base CX k f fd ps sp :=
  ⟨F.len, fun A outer s H args us vs Q E _ hr => F.run A outer s H args us vs Q E hr⟩
theorem FnG.mono {j k : Nat} {f : Addr} {fd : FuncData} {ps : List Str} {sp : Sp} (F : FnG P w K mg base CX j f fd ps sp) (h : j ≤ k) : FnG P w K mg base CX k f fd ps sp :=
  ⟨F.len, fun A outer s H args us vs Q E hg hr => F.run A outer s H args us vs Q E hg (hr.mono h)⟩

/-- a def by its body, the body's around shows nothing -/
theorem fnG_of {k : Nat} {f : Addr} {name qual : Str} {params : Arguments} {body : List Stmt} {scope : Scope} {dV kV doc pm cdv ct oc : Value} {an od : Option Addr}
    {osl : Array (Option Value)} {N ps : List Str} {sp : Sp}
    (lk : K.lookup f = some ⟨oc, od, .func (PySem.W.fnOf name qual params body scope dV kV doc pm an cdv ct), osl⟩)
    (hcd : PySem.W.codeIn K cdv qual = true) (S : FnScope N ps scope) (len : ∀ vs H Q E, sp vs H Q E → vs.length = ps.length)
    (hbody : ∀ (A : Around) (outer : List Env) (s : Shared) (H : Hp) (vs : List V) (Q : VK) (E : XK), A.guards = some [] →
      Room k (A.deeper (envOfC qual scope s.heap.objs.size f cdv)) → sp vs H Q E →
      ∃ t, PSs (cxOf CX P w K mg base N qual scope f cdv A outer s H E) body t ∧ t { nx := fun _ H' => Q .non H', rt := Q } (start N vs) H) :
    FnG P w K mg base CX (k + 1) f (PySem.W.fnOf name qual params body scope dV kV doc pm an cdv ct) ps sp := by
  refine ⟨len, fun A outer s H args us vs Q E gA hr e0 hb r hsp => ?_⟩
  have sameLen := len _ _ _ _ hsp
  have inK : K.In s.heap := e0.mod.kin.keeps fun b o e => (e0.bs b o e).1
  have noLim : s.heap.NoLimit := e0.mod.nolimit.keeps fun b o e => (e0.bs b o e).1
  have kinds : ∀ y ∈ ps.zip us, scope.names.lookup y.1 = some .local ∨
      (scope.names.lookup y.1 = some .cell ∧ ((cellsFrom (s.heap.objs.size + 1) scope.names []).lookup y.1).isSome = true) := by
    rintro ⟨n, v⟩ hy
    rcases S.par n (List.of_mem_zip hy).1 with z | z
    · exact .inl z
    · exact .inr ⟨z, PySem.W.cellsFrom_some _ _ _ (.inl z)⟩
  refine codeAny_call_function hr.depth (inK _ _ lk) rfl S.co S.gen rfl (PySem.W.codeRec_of inK hcd) (hb _ _ _ _ ?_)
  refine wpAny_newFunctionEnv_cells S.kind kinds fun env he s1 x => ?_
  subst he
  refine ⟨noLim.keeps x.toInCall.keep, codeAny_func ?_⟩
  obtain ⟨t, ht, hq⟩ := hbody A outer s H vs Q E gA (hr.deeper _) hsp
  have I := inv_start (CX := CX) (E := E) S hr.hd e0 sameLen r x
  refine wpAny_mono (ht.run [] s1 (start N vs) H _ I hq) (fun fl s' hs => ?_) fun e s' hs => hs
  cases fl with
  | ret u =>
    obtain ⟨v, σ', H', J, rv, q⟩ := hs
    exact ⟨v, H', J.os, J.bare, J.base, J.hok, rv, q⟩
  | next =>
    obtain ⟨σ', H', J, q⟩ := hs
    exact ⟨.non, H', J.os, J.bare, J.base, J.hok, rfl, q⟩
  | brk =>
    obtain ⟨_, _, _, q⟩ := hs
    exact q.elim
  | cont =>
    obtain ⟨_, _, _, q⟩ := hs
    exact q.elim
end

section
variable {X : Cx} {CX : CXT} {k : Nat} {f : Addr} {fd : FuncData} {ps : List Str} {sp : Sp} {dvs : List V} {ds : List Value} {E : XK} {x : Str} {p pos : Pos} {e : Expr} {es : List Expr} {t : TA}
theorem run_fnG {pins : List (Addr × Obj)} {σ : St} {H : Hp} {s : Shared} {Q : VK} {us : List Value} {vs : List V}
    (F : FnG X.prog X.w X.K X.mg X.base CX k f fd ps sp) (gA : X.A.guards = some []) (hr : Room k X.A) (hb : Binds X.K fd ps ds) (hd : Vals dvs ds) (hx : Passes CX X E)
    (I : Inv X pins σ H s) (r : Vals vs us) (h : sp (vs ++ dvs) H Q E) : wpAny (model X.prog X.w) X.A (call (.ref f) us) (EP X pins σ Q) X.xe s := by
  have both : Vals (vs ++ dvs) (us ++ ds) := r.append hd
  have sz : (us ++ ds).length = ps.length := both.length.symm.trans (F.len _ _ _ _ h)
  refine wpAny_call (codeAny_mono (F.run X.A X.stack s H ⟨us, []⟩ (us ++ ds) (vs ++ dvs) Q E gA hr I.env0 (hb s us I.kIn sz) both h) fun r s' hq => ?_)
  cases r with
  | error e => exact hx pins σ H s e s' I hq
  | ok fl =>
    cases fl with
    | ret u => exact I.after hq
    | next => exact hq.elim
    | brk => exact hq.elim
    | cont => exact hq.elim
theorem pe_callG (F : FnG X.prog X.w X.K X.mg X.base CX k f fd ps sp) (gA : X.A.guards = some []) (hr : Room k X.A) (hg : Gl X x) (hm : X.mg x = some (.ref f))
    (hk : PySem.W.keepIn X.K (.ref f) = true) (hb : Binds X.K fd ps ds) (hd : Vals dvs ds) (hx : Passes CX X E)
    (ha : PA X (e :: es) t) (hdb : (x == ("__debug__" : Str)) = false := by decide)
    (he : starEach (e :: es) X.env = (false, eval e X.env) :: starEach es X.env := by rfl) (hpl : (backTo pos (starEach es X.env)).any (·.1) = false := by rfl) :
    PE X (.Call (.Name x p) (e :: es) [] pos) (tCall sp dvs E t) := by
  refine ⟨fun pins s σ H Q I h => wpAny_Call_Name_kw (ld_glob I hg hm ?_ hdb)⟩
  refine PySem.W.callWith_K (h₀ := X.base) I.ok.mod.kin hk (thn (ha.run pos pins s σ H _ I h) fun us s1 hh => ?_) he hpl
  obtain ⟨vs, H1, I1, r, q⟩ := hh
  exact ⟨I1.kIn, run_fnG F gA hr hb hd hx I1 r q⟩
end

/-! ### the def as it stands, and its promise -/
section
variable {P : Program} {w : World} {K : PySem.W.Frag} {mg : Str → Option Value} {base : Heap}
theorem okG {x qual : Str} {st : Stmt} {f : Addr} {fd : FuncData} {N ps : List Str} {k : Nat} {sp : Sp} (F : Fun K x qual st f fd) (S : FnScope N ps (defScope st))
    (len : ∀ vs H Q E, sp vs H Q E → vs.length = ps.length)
    (hbody : ∀ (cdv : Value) (A : Around) (outer : List Env) (s : Shared) (H : Hp) (vs : List V) (Q : VK) (E : XK), A.guards = some [] →
      Room k (A.deeper (envOfC qual (defScope st) s.heap.objs.size f cdv)) → sp vs H Q E →
      ∃ t, PSs (cxOf CX0 P w K mg base N qual (defScope st) f cdv A outer s H E).nox (defBody st) t ∧ t { nx := fun _ H' => Q .non H', rt := Q } (start N vs) H) :
    FnG P w K mg base CX0 (k + 1) f fd ps sp := by
  obtain ⟨oc, od, kV, doc, pm, an, cdv, ct, osl, rfl, lk, hcd⟩ := F.ex
  refine fnG_of lk hcd S len fun A outer s H vs Q E gA hr hsp => ?_
  obtain ⟨t, h, q⟩ := hbody cdv A outer s H vs Q E gA hr hsp
  exact ⟨t, h.nox, q⟩
end

/-! ### the law's own call -/
theorem law_callG {P : Program} {w : World} {K : PySem.W.Frag} {mg mb : Str → Option Value} {CX : CXT} {k : Nat} {fa a : Addr} {fd : FuncData} {x : Str} {sp : Sp} {s1 : Shared} {vs : List Value} {ns : List Int}
    (KX : K.In s1.heap) (hns : s1.heap.Ns mainGlobals mg) (hb : s1.heap.Ns builtinsNs mb) (hbb : ∀ x : Str, x ≠ "__name__" → mb x = bootBuiltins x) (hlim : s1.heap.NoLimit) (hg : s1.gens = #[])
    (ha : s1.heap.get? a = some { cls := .type "list", data := .seq vs.toArray }) (hi : IntsAre vs ns) (hl : ns.length ≤ sizeLine) (hr : Room k callerA)
    (F : ∀ base : Heap, K.In base → base.Ns mainGlobals mg → FnG P w K mg base CX k fa fd [x] sp) (hbind : ∀ (s : Shared) (u : Value), BindsTo s fd ⟨[u], []⟩ [(x, u)])
    (hsp : ∀ H : Hp, Only H → SqL K H a (ns.map V.int) → sp [.ref a] H (fun v _ => v = .bl true) fun _ _ _ => False)
    (hCX : ∀ H e s', CX [] H s1 (fun _ _ _ => False) e s' → False) :
    codeAny (model P w) callerA (.call (.ref fa) ⟨[.ref a], []⟩) (fun r s' => r = .ok (.ret (.bool true)) ∧ OldK s1.heap s'.heap ∧ s'.os = s1.os ∧ AllBare s'.gens) s1 := by
  have rv := vals_ints hi
  have lenV := hi.length
  have core : ∀ H : Hp, Only H → SqL K H a (ns.map V.int) → HOk P w H s1.heap → (∀ b, H b ≠ none → b = a) → (H a ≠ none → K.lookup a = none) →
      codeAny (model P w) callerA (.call (.ref fa) ⟨[.ref a], []⟩) (fun r s' => r = .ok (.ret (.bool true)) ∧ OldK s1.heap s'.heap ∧ s'.os = s1.os ∧ AllBare s'.gens) s1 := by
    intro H hO hS hok hA hK
    have notA : ∀ {b : Addr} {o : Obj} {es : Array DictEntry} {ep : Nat}, s1.heap.get? b = some o → o.data = .dict es ep → H b = none := by
      intro b o es ep e d
      cases q : H b with
      | none => rfl
      | some u =>
        have e' : b = a := hA b (by rw [q]; simp)
        subst e'
        rw [ha] at e
        cases e
        cases d
    have nsK : ∀ {b : Addr} {m : Str → Option Value}, s1.heap.Ns b m → (hidT s1.heap H).Ns b m := by
      rintro b m ⟨o, es, ep, e, d, r⟩
      exact ⟨o, es, ep, hidT_get e (notA e d), d, r⟩
    have hKb : K.In (hidT s1.heap H) := by
      intro b o e
      refine hidT_get (KX b o e) ?_
      cases q : H b with
      | none => rfl
      | some u =>
        have e' : b = a := hA b (by rw [q]; simp)
        subst e'
        rw [hK (by rw [q]; simp)] at e
        cases e
    have hM : Mod K mg (hidT s1.heap H) := ⟨hKb, nsK hns, ⟨mb, nsK hb, hbb⟩, let ⟨mc, h1, h2⟩ := hlim; ⟨mc, nsK h1, h2⟩⟩
    have e0 : Env0 P w K mg (hidT s1.heap H) callerA [] s1 H :=
      ⟨rfl, hM, fun b o e => of_hidT e, Nat.le_of_eq (hidT_size _ _), trivial, fun b hb => absurd (show b ∈ ([] : List Addr) from hb) (by simp), hok, .of_eq hg⟩
    refine codeAny_mono ((F _ hKb (nsK hns)).run callerA [] s1 H ⟨[.ref a], []⟩ [.ref a] [.ref a] _ _ rfl hr e0 (hbind s1 (.ref a)) (.cons rfl .nil) (hsp H hO hS)) fun r s' h => ?_
    cases r with
    | error e => exact (hCX H e s' h).elim
    | ok fl =>
      cases fl with
      | next => exact h.elim
      | brk => exact h.elim
      | cont => exact h.elim
      | ret u =>
        obtain ⟨v, H', os, bare, un, hok', r', q⟩ := h
        have q' : v = .bl true := q
        subst q'
        obtain rfl : u = Value.bool true := r'
        refine ⟨rfl, OldK.of_keep fun b o e => ?_, os, bare⟩
        cases q : H b with
        | none => exact un.keep b o e q (fun z => absurd (show b ∈ ([] : List Addr) from z) (by simp)) (by simp)
        | some u =>
          rcases hO b with z | ⟨ob, xs, z⟩
          · rw [q] at z
            cases z
          · have z2 := un.frzs b ob _ z
            obtain ⟨e1, _⟩ := hok b _ z
            obtain ⟨e2, _⟩ := hok' b _ z2
            rw [e] at e1
            cases e1
            exact e2
  cases hk : K.lookup a with
  | some o =>
    have e := KX a o hk
    rw [ha] at e
    cases e
    exact core (fun _ => none) (fun _ => .inl rfl) (.inr ⟨_, vs.toArray, _, hk, rfl, rfl, rfl, by rw [List.size_toArray, lenV]; exact hl, by simpa using rv⟩)
      (fun b u z => by cases (show (none : Option HO) = some u from z)) (fun b z => absurd rfl z) fun z => absurd rfl z
  | none =>
    refine core (fun b => if b = a then some (.frz { cls := .type "list", data := .seq vs.toArray } (.lst (ns.map V.int))) else none) (fun b => ?_)
      (.inl (.inr ⟨{ cls := .type "list", data := .seq vs.toArray }, if_pos rfl⟩)) (fun b u z => ?_) (fun b z => ?_) fun _ => hk
    · by_cases hb : b = a
      · exact .inr ⟨_, _, if_pos hb⟩
      · exact .inl (if_neg hb)
    · by_cases hb : b = a
      · cases (if_pos hb).symm.trans z
        subst hb
        exact ⟨ha, by rw [List.length_map]; exact hl, vs, _, rv, ha⟩
      · cases (if_neg hb).symm.trans z
    · by_cases hb : b = a
      · exact hb
      · exact absurd (if_neg hb) z

/-- the goal that the head leaves, from the law's promise -/
theorem walkG {l : PySem.W.OpenLaw} {n k : Nat} {q : Program} {loose : List Str} {XP : (Str → Option Value) → Heap → Prop} {YP : World → Heap → Prop} {d : DefRec} {K : Params → PySem.W.Frag} {CX : CXT} {sp : PySem.W.Frag → Sp} {x : Str}
    (hn : l.most = some n) (hn2 : n ≤ sizeLine) (hdf : d.params.defaults = []) (hr : Room k callerA)
    (hY : ∀ (w : World) (h : Heap), YP w h → (K w.params).In h)
    (F : ∀ (w : World) (mg : Str → Option Value) (fa : Addr) (h : Heap), (K w.params).In h → h.Ns mainGlobals mg → mg d.name = some (.ref fa) →
      ∃ fd : FuncData, (∀ (s : Shared) (u : Value), BindsTo s fd ⟨[u], []⟩ [(x, u)]) ∧
        ∀ base : Heap, (K w.params).In base → base.Ns mainGlobals mg → FnG l.prog w (K w.params) mg base CX k fa fd [x] (sp (K w.params)))
    (hsp : ∀ (K : PySem.W.Frag) (H : Hp) (a : Addr) (ns : List Int), ns.length ≤ n → (∀ z ∈ ns, Builtin.Int.intBits z ≤ 1048576) → Only H → SqL K H a (ns.map V.int) → sp K [.ref a] H (fun v _ => v = .bl true) fun _ _ _ => False)
    (hCX : ∀ (H : Hp) (s : Shared) (e : Value) (s' : Shared), CX [] H s (fun _ _ _ => False) e s' → False) :
    PySem.W.WalkO q loose XP YP l.row.toRowW d [] (fun f vs => PySem.call f vs) := by
  refine Att.attach_callB hn hdf fun w s0 s1 mg mb fa o pm cd doc a vs ns G Y ho hd hcd hmg hobj hints hlen hbits hg => ?_
  have KX := hY w _ Y
  obtain ⟨fd, hb, hF⟩ := F w mg fa _ KX G.T.g hmg
  exact law_callG KX G.T.g G.T.b G.T.builtins G.T.nolimit hg hobj hints (Nat.le_trans hlen hn2) hr hF hb (fun H hO hS => hsp _ H a ns hlen hbits hO hS) fun H e s' => hCX H s1 e s'
end L2.TP

/-! Layer B: repr of data (no dicts within), data kept while the heap grows. -/
namespace L2.TP
open PySem PySem.Spec PyProof.Rows

section
variable {K : PySem.W.Frag} {H H' : Hp}
mutual
theorem Dp.ext (e : Ext H H') : ∀ (d : PyData) (v : V), Dp K H v d → Dp K H' v d
  | .none, _, h => by cases h; exact .non
  | .bool b, _, h => by cases h; exact .bl b
  | .int i, _, h => by cases h; exact .int i
  | .str x, _, h => by cases h; exact .str x
  | .list ds, _, h => by
    cases h with
    | lst hs ha => exact .lst (SqL.ext hs e) (DpAll.ext e ds _ ha)
  | .tuple ds, _, h => by
    cases h with
    | tup hs ha => exact .tup (SqT.ext hs e) (DpAll.ext e ds _ ha)
  | .dict _, _, h => by cases h
theorem DpAll.ext (e : Ext H H') : ∀ (ds : List PyData) (vs : List V), DpAll K H vs ds → DpAll K H' vs ds
  | [], _, h => by cases h; exact .nil
  | d :: ds, _, h => by
    cases h with
    | cons h1 h2 => exact .cons (Dp.ext e d _ h1) (DpAll.ext e ds _ h2)
end
mutual
theorem Dp.noDict : ∀ (d : PyData) (v : V), Dp K H v d → d.hasDict = false
  | .none, _, _ => rfl
  | .bool _, _, _ => rfl
  | .int _, _, _ => rfl
  | .str _, _, _ => rfl
  | .list ds, _, h => by
    cases h with
    | lst _ ha => exact DpAll.noDict ds _ ha
  | .tuple ds, _, h => by
    cases h with
    | tup _ ha => exact DpAll.noDict ds _ ha
  | .dict _, _, h => by cases h
theorem DpAll.noDict : ∀ (ds : List PyData) (vs : List V), DpAll K H vs ds → PyData.hasDictAll ds = false
  | [], _, _ => rfl
  | d :: ds, _, h => by
    cases h with
    | cons h1 h2 =>
      show (d.hasDict || PyData.hasDictAll ds) = false
      rw [Dp.noDict d _ h1, DpAll.noDict ds _ h2]
      rfl
end
end

/-- repr(x): x stands for the data d -/
def rRepr (K : PySem.W.Frag) : List V → Hp → VK → Prop := fun xs H Q => ∃ v d, xs = [v] ∧ Dp K H v d ∧ d.showable = true ∧ d.depth ≤ 40 ∧ d.shown.length ≤ sizeLine ∧ Q (.str d.shown) H
section
variable {X : Cx}
theorem call_repr (gA : X.A.guards = some []) {k : Nat} (hr : Room k X.A) : CallR X (.builtin "repr") (rRepr X.K) := by
  intro pins s σ H xs us Q I r h
  obtain ⟨v, d, rfl, hd, sh, dep, sz, q⟩ := h
  obtain ⟨u, rfl, ru⟩ := vals1 r
  have room : X.A.units + (d.depth + 1) < cLine := by
    have := hr.un
    omega
  cases hd with
  | non =>
    cases ru
    exact PySem.P.repr_of_none ⟨.str _, H, I.tok _, ⟨_, rfl⟩, q⟩
  | bl b =>
    cases ru
    exact PySem.P.repr_of_bool ⟨.str _, H, I.tok _, ⟨_, rfl⟩, q⟩
  | int i =>
    obtain ⟨t, rfl⟩ := ru
    exact PySem.P.repr_of_int (of_decide_eq_true sh) ⟨.str _, H, I.tok _, ⟨_, rfl⟩, q⟩
  | str x =>
    obtain ⟨t, rfl⟩ := ru
    exact PySem.P.repr_of_str ⟨.str _, H, I.tok _, ⟨_, rfl⟩, q⟩ sz
  | lst hs ha =>
    cases ru
    obtain ⟨as, rd⟩ := Dp.reads I _ _ _ (Dp.lst hs ha) rfl
    exact repr_of_reads' rd sh (PyData.noDict_hsm (Dp.noDict _ _ (Dp.lst hs ha))) gA room (fun _ _ e => e) (fun h' u tk hk => ⟨.str _, H, I.kept hk, ⟨_, rfl⟩, q⟩) sz
  | tup hs ha =>
    cases ru
    obtain ⟨as, rd⟩ := Dp.reads I _ _ _ (Dp.tup hs ha) rfl
    exact repr_of_reads' rd sh (PyData.noDict_hsm (Dp.noDict _ _ (Dp.tup hs ha))) gA room (fun _ _ e => e) (fun h' u tk hk => ⟨.str _, H, I.kept hk, ⟨_, rfl⟩, q⟩) sz
end
end L2.TP

/-! Layer C: own errors whose __init__ says super().__init__(a) and then keeps its arguments under their names. -/
namespace PySem.TPX
open PySem.W PySem.Calls PyProof.Rows PySem.HandSPX

/-- super().__init__(a) -/
def supS (a : Str) (q1 q2 q3 q4 q5 q6 : Pos) : Stmt := .Expr (.Call (.Attribute (.Call (.Name "super" q1) [] [] q2) "__init__" q3) [.Name a q4] [] q5) q6
/-- self.f = f -/
def keepS (f : Str) (r1 r2 r3 r4 : Pos) : Stmt := .Assign [.Attribute (.Name "self" r1) f r2] (.Name f r3) r4
/-- the names of such an __init__ -/
structure IniS (fs : List Str) (scope : Scope) : Prop where
  kind : scope.kind = .function
  co : scope.isCoroutine = false
  gen : scope.isGenerator = false
  nocell : ∀ x ∈ scope.names, x.2 ≠ .cell
  sup : scope.names.lookup ("super" : Str) = some .globalImplicit
  cls : scope.names.lookup ("__class__" : Str) = some .free
  slf : scope.names.lookup ("self" : Str) = some .local
  fld : ∀ f ∈ fs, scope.names.lookup f = some .local
  dbg : ∀ f ∈ fs, (f == ("__debug__" : Str)) = false
  nself : ∀ f ∈ fs, f ≠ ("self" : Str)

/-- what the written part says of the error's class at C and of its __init__ at fI -/
structure ErrK (prog : Program) (K : Frag) (fs : List Str) (C fI : Addr) (fd : FuncData) : Prop where
  cls : ∃ nm q N bs bm sn sub ab col dd k0 k1 k2 k3 k5, K.lookup C = some (excClassObj nm q C N bs bm true sn sub ab col dd k0 k1 k2 k3 k5 "ValueError.__new__") ∧ refsVE bm = true
  sa : findIn K (.ref C) "__setattr__" = some (some (.builtin "object.__setattr__"))
  iC : findIn K (.ref C) "__init__" = some (some (.ref fI))
  tI : typeIn K (.ref fI) = some (.type "function")
  sup : ks_superIn K C C "__init__" = some (some (.builtin "ValueError.__init__"))
  sB : subIn K (.ref C) (.type "ValueError") = some true
  mC : mroIn K C (.ref C) = some true
  nS : nsIn K mainGlobals "super" = some none
  tp : nsIn K cStatics "thirdparty.any" = some none
  top : (prog.main.scope.names.lookup ("super" : Str)).isSome = false
  nof : ∀ f ∈ fs, findIn K (.ref C) f = some none
  fn : ∃ (oc : Value) (od : Option Addr) (osl : Array (Option Value)) (qual : Str) (params : Arguments) (body : List Stmt) (scope : Scope) (dV kV doc pm : Value) (an : Option Addr) (cda : Addr) (ct : Value) (cc : Addr),
    fd = ksFn "__init__" qual params body scope dV kV doc pm an (.ref cda) ct cc ∧ K.lookup fI = some ⟨oc, od, .func fd, osl⟩ ∧ codeIn K (.ref cda) qual = true ∧
    (∃ ccl cdd vs ccs file tf, K.lookup cda = some ⟨ccl, cdd, .fields vs, ccs⟩ ∧ vs[2]? = some (.str file tf) ∧ ((prog.main.file : Str) == file) = true) ∧
    (∃ cl cld csl, K.lookup cc = some ⟨cl, cld, .cell (some (.ref C)), csl⟩) ∧
    (∃ ar : Arg, (params.posonlyargs ++ params.args).head? = some ar ∧ ar.arg = "self") ∧ IniS fs scope ∧
    ((∃ f q1 q2 q3 q4 q5 q6 r1 r2 r3 r4, (q3.endLine == q5.line) = true ∧ fs = [f] ∧ body = [supS f q1 q2 q3 q4 q5 q6, keepS f r1 r2 r3 r4]) ∨
     (∃ f g q1 q2 q3 q4 q5 q6 r1 r2 r3 r4 p1 p2 p3 p4, (q3.endLine == q5.line) = true ∧ fs = [f, g] ∧ f ≠ g ∧ body = [supS f q1 q2 q3 q4 q5 q6, keepS f r1 r2 r3 r4, keepS g p1 p2 p3 p4]))

section
variable {prog : Program} {w : World} {A : Around} {E : Value → Shared → Prop} {R : Result → Shared → Prop} {s : Shared} {K : Frag} {mg mb : Str → Option Value} {C fI : Addr} {fs : List Str} {fd : FuncData}

/-- what __init__ leaves of a fresh exception at x -/
structure IniEnd (fs : List Str) (vs : List Value) (h h' : Heap) (x C dx : Addr) : Prop where
  keep : ∀ b o, b ≠ x → h.get? b = some o → h'.get? b = some o
  obj : ∃ t1 : Addr, h'.get? x = some { cls := .ref C, dict := some dx, data := .fields #[.ref t1, .none, .none, .none, .bool false, .none] }
  dbig : h.objs.size ≤ dx
  dne : dx ≠ x
  ns : ∃ mA, h'.Ns1 dx mA ∧ ∀ y, mA y = (fs.zip vs).lookup y
theorem look1 (f y : Str) (v : Value) : (if y = f then some v else none) = [(f, v)].lookup y := by
  by_cases h : y = f
  · subst h
    simp [List.lookup]
  · have q : (y == f) = false := by simpa using h
    simp [List.lookup, q, h]
theorem look2 {f g : Str} (hfg : f ≠ g) (y : Str) (v u : Value) : (if y = g then some u else if y = f then some v else none) = [(f, v), (g, u)].lookup y := by
  by_cases h : y = f
  · subst h
    have q : ¬ y = g := hfg
    simp [List.lookup, q]
  · have q : (y == f) = false := by simpa using h
    by_cases h2 : y = g
    · subst h2
      simp [List.lookup, q]
    · have q2 : (y == g) = false := by simpa using h2
      simp [List.lookup, q, q2, h, h2]

theorem clsIn_err {nm q : Str} {N : Addr} {bs bm : List Value} {sn : List Str} {sub : List Value} {ab : Bool} {col : Option Bool} {dd : Option Addr} {k0 k1 k2 k3 k5 : Option Value}
    (hC : K.lookup C = some (excClassObj nm q C N bs bm true sn sub ab col dd k0 k1 k2 k3 k5 "ValueError.__new__")) :
    clsIn K C = some { name := nm, bases := bs, mro := .ref C :: bm, ns := N, qualname := q, hasDict := true, slotNames := sn, subclasses := sub, abstract := ab, collection := col, hasDel := false } := by
  unfold clsIn
  rw [hC]

/-- super().__init__(a), in the body of such an __init__, at its beginning -/
theorem sup_run (T : ErrK prog K fs C fI fd) {x t0 : Addr} {v : Value} {f : Str} {q1 q2 q3 q4 q5 q6 : Pos} {body : List Stmt} {qual : Str} {params : Arguments} {scope : Scope} {dV kV doc pm : Value} {an : Option Addr} {cda cc : Addr} {ct : Value}
    {oc : Value} {od : Option Addr} {osl : Array (Option Value)} {L : Addr} {m : Str → Option Value} {Q : Flow → Shared → Prop}
    (efd : fd = ksFn "__init__" qual params body scope dV kV doc pm an (.ref cda) ct cc) (lf : K.lookup fI = some ⟨oc, od, .func fd, osl⟩)
    (hcode : ∃ ccl cdd vs ccs file tf, K.lookup cda = some ⟨ccl, cdd, .fields vs, ccs⟩ ∧ vs[2]? = some (.str file tf) ∧ ((prog.main.file : Str) == file) = true)
    (hcell : ∃ cl cld csl, K.lookup cc = some ⟨cl, cld, .cell (some (.ref C)), csl⟩)
    (hpos : (q3.endLine == q5.line) = true) (hpar : ∃ ar : Arg, (params.posonlyargs ++ params.args).head? = some ar ∧ ar.arg = "self") (S : IniS fs scope) (hf : f ∈ fs)
    (X : K.In s.heap) (hgl : s.heap.Ns mainGlobals mg) (hbl : s.heap.Ns builtinsNs mb) (hbb : ∀ x : Str, x ≠ "__name__" → mb x = bootBuiltins x)
    (hns : s.heap.Ns L m) (ms : m "self" = some (.ref x)) (mf : m f = some v) (hx : s.heap.get? x = some (excO C t0))
    (hq : ∀ h' tk t1, (∀ b o, b ≠ x → s.heap.get? b = some o → h'.get? b = some o) → h'.get? x = some (excO C t1) → Q .next { s with heap := h', toks := tk }) :
    wpAt (model prog w) A (.func body (ksEnv qual scope L fI (.ref cda) cc)) (exec (supS f q1 q2 q3 q4 q5 q6) (ksEnv qual scope L fI (.ref cda) cc)) Q E s := by
  obtain ⟨nm, q, N, bs, bm, sn, sub, ab, col, dd, k0, k1, k2, k3, k5, hC, hbm⟩ := T.cls
  obtain ⟨ccl, cdd, vs, ccs, file, tf, lc, hvs, hfile⟩ := hcode
  obtain ⟨cl, cld, csl, lcell⟩ := hcell
  obtain ⟨ar, hhead, har⟩ := hpar
  have hcl := clsIn_err hC
  have hC1 := X _ _ hC
  have hInst : InstAt s.heap x (excO C t0) C none := ⟨hx, rfl, rfl, trivial⟩
  refine ks_wpAt_Expr_any ?_ (by show (scope.kind == ScopeKind.module && _) = false; rw [S.kind]; rfl) rfl
  refine ks_wpAt_MethodCall (pl := (do return (← importBound (.Call (.Name "super" q1) [] [] q2) (ksEnv qual scope L fI (.ref cda) cc)).getD true)) ?_ (by
    show (do
      let ov ← attributeBase (.Call (.Name "super" q1) [] [] q2) "__init__" (ksEnv qual scope L fI (.ref cda) cc) (eval (.Call (.Name "super" q1) [] [] q2) (ksEnv qual scope L fI (.ref cda) cc))
      standAt q3.atName
      methodCall (.Call (.Name "super" q1) [] [] q2) "__init__" q3 q5 (ksEnv qual scope L fI (.ref cda) cc) ov 1 (backTo q5 (starEach [.Name f q4] (ksEnv qual scope L fI (.ref cda) cc))) []) = _
    unfold methodCall methodCallPos
    rw [hpos]
    rfl)
  obtain ⟨hh, g, d, tk, os⟩ := s
  refine ks_wpAt_super_base (env := ksEnv qual scope L fI (.ref cda) cc) S.sup S.cls (by decide) rfl (X _ _ lf) rfl (by rw [efd]; exact hhead) rfl (X _ _ lc) rfl hvs hfile T.top ?_
  refine ks_loadName_global S.kind S.sup (loadGlobal_builtin (env := ksEnv qual scope L fI (.ref cda) cc) hgl (mg_none_of X hgl T.nS) hbl ((hbb _ (by decide +kernel)).trans (by decide +kernel)) ⟨rfl, ?_⟩)
  refine wpAny_loadName_free S.kind S.cls rfl ⟨_, X _ _ lcell, rfl⟩ ?_
  refine wpAny_loadName_local S.kind (by rw [har]; exact S.slf) hns (by rw [har]; exact ms) ?_
  refine ks_wpAny_isType_cls hC1 rfl ⟨rfl, ?_⟩
  refine ks_wpAny_call_super hC1 rfl hx rfl (fun c z => nomatch z) (looks_mroIn X T.mC) (fun h1 e1 k1 => ?_)
  have X1 := X.keeps k1
  have hx1 := k1 _ _ hx
  have hI1 : InstAt h1 x (excO C t0) C none := ⟨hx1, rfl, rfl, trivial⟩
  have sup : alongIn K "__init__" ((((Value.ref C :: bm).dropWhile (· != .ref C)).drop 1)) = some (some (.builtin "ValueError.__init__")) := by
    have z := T.sup
    unfold ks_superIn at z
    rw [hcl, Option.bind_some] at z
    exact z
  refine kxs_getMethod kxs_ValueError e1 (looks_opaque X1 T.tp) (l₀ := Value.ref C :: bm) (fun A Q E s k q => wpAny_bind ((looks_clsIn X1 hcl) A _ E s k (wpAny_pure q))) rfl X1 sup (hI1.type.andThen (looks_subIn X1 T.sB)) (ks_ne X1 hI1 hcl) (by decide) ?_
  have k2 : ∀ b o, h1.get? b = some o → (h1.push (kxs_mw "ValueError.__init__" x)).get? b = some o := fun b o e => Heap.get?_push_of_some _ e
  have hu : (h1.push (kxs_mw "ValueError.__init__" x)).get? h1.objs.size = some (kxs_mw "ValueError.__init__" x) := Heap.get?_push_at rfl rfl
  have hst : starEach [Expr.Name f q4] (ksEnv qual scope L fI (.ref cda) cc) = (false, eval (.Name f q4) (ksEnv qual scope L fI (.ref cda) cc)) :: starEach [] (ksEnv qual scope L fI (.ref cda) cc) := rfl
  rw [hst]
  refine kxs_callWith (i := "ValueError.__init__") (x := x) rfl (evalArgs_plain (spliced_cons ?_))
  have hns2 := (hns.keeps k1).keeps k2
  refine wpAny_Name (wpAny_loadName_local S.kind (S.fld f hf) hns2 mf ?_) (S.dbg f hf)
  refine spliced_nil ⟨hu, ?_⟩
  refine wpAny_call (codeAny_of_tree ?_)
  show wpAny _ A.in1 (callAny (.ref h1.objs.size) ⟨[v], []⟩) _ _ _
  simp only [callAny]
  refine wpAny_bind (wpAny_load hu ?_)
  simp only [kxs_mw, show (Value.type "method-wrapper" == Value.type "method" || Value.type "method-wrapper" == Value.type "builtin_function_or_method" || Value.type "method-wrapper" == Value.type "method-wrapper") = true by decide, if_true]
  refine KFB.if_so (by decide) ?_
  refine wpAny_bind (check_bound_init F.excBase_ValueError.toExcCallFacts (k2 _ _ (k1 _ _ hC1)) (k2 _ _ hx1) rfl ?_)
  refine wpAny_bind (wpAny_pure (wpAny_pure ?_))
  refine ⟨plainId_quiet F.excBase_ValueError.init.plain _, codeAny_builtin F.excBase_ValueError.initEntry ?_⟩
  refine exc_init_tree (cls := .ref C) (t0 := t0) (dv := none) (c2 := .none) (c3 := .none) (b4 := .bool false) (k2 _ _ hx1) (by show 1 ≤ sizeLine; rw [sizeLine_eq]; decide) (fun h' kk e' t' => ?_)
  exact hq h' _ _ (fun b o hb e => kk b o hb (k2 _ _ (k1 _ _ e))) e'

/-- self.f = f, the first one -/
theorem keep_new (T : ErrK prog K fs C fI fd) {x t0 : Addr} {v : Value} {f : Str} {r1 r2 r3 r4 : Pos} {qual : Str} {scope : Scope} {cda cc L : Addr} {m : Str → Option Value} {Q : Flow → Shared → Prop}
    (S : IniS fs scope) (hf : f ∈ fs) (X : K.In s.heap) (hns : s.heap.Ns L m) (ms : m "self" = some (.ref x)) (mf : m f = some v) (hx : s.heap.get? x = some (excO C t0))
    (hq : ∀ h' tk dx, (∀ b o, b ≠ x → s.heap.get? b = some o → h'.get? b = some o) → s.heap.objs.size ≤ dx → dx ≠ x →
      h'.get? x = some { cls := .ref C, dict := some dx, data := .fields #[.ref t0, .none, .none, .none, .bool false, .none] } →
      h'.Ns1 dx (fun y => if y = f then some v else none) → Q .next { s with heap := h', toks := tk }) :
    wpAny (model prog w) A (exec (keepS f r1 r2 r3 r4) (ksEnv qual scope L fI (.ref cda) cc)) Q E s := by
  obtain ⟨nm, q, N, bs, bm, sn, sub, ab, col, dd, k0, k1, k2, k3, k5, hC, hbm⟩ := T.cls
  have hcl := clsIn_err hC
  refine plainObj_wpAny_Assign_Attribute ?_
  refine wpAny_Name (wpAny_loadName_local S.kind (S.fld f hf) hns mf ?_) (S.dbg f hf)
  refine wpAny_Name (wpAny_loadName_local S.kind S.slf hns ms ?_) (by decide)
  obtain ⟨hh, g, d, tk, os⟩ := s
  refine set_plain X (ox := excO C t0) (od := none) ⟨hx, rfl, rfl, trivial⟩ T.sa ?_
  exact exc_osa X hx hcl (show refsVE (.ref C :: bm) = true from hbm) rfl (T.nof f hf) (fun h3 tk3 dx k3 dn dne hx3 hn3 => hq h3 tk3 dx k3 dn dne hx3 hn3)

/-- self.g = g, a further one -/
theorem keep_old (T : ErrK prog K fs C fI fd) {x t0 dx : Addr} {v : Value} {f : Str} {r1 r2 r3 r4 : Pos} {qual : Str} {scope : Scope} {cda cc L : Addr} {m m0 : Str → Option Value} {nl : List Str} {Q : Flow → Shared → Prop}
    (S : IniS fs scope) (hf : f ∈ fs) (X : K.In s.heap) (hns : s.heap.Ns L m) (ms : m "self" = some (.ref x)) (mf : m f = some v)
    (hx : s.heap.get? x = some { cls := .ref C, dict := some dx, data := .fields #[.ref t0, .none, .none, .none, .bool false, .none] }) (hn : s.heap.Ns1 dx m0) (hw : Within m0 nl) (hz : nl.length ≤ 1000)
    (hq : ∀ h' tk, (∀ b o, b ≠ dx → s.heap.get? b = some o → h'.get? b = some o) → h'.Ns1 dx (fun y => if y = f then some v else m0 y) → Q .next { s with heap := h', toks := tk }) :
    wpAny (model prog w) A (exec (keepS f r1 r2 r3 r4) (ksEnv qual scope L fI (.ref cda) cc)) Q E s := by
  obtain ⟨nm, q, N, bs, bm, sn, sub, ab, col, dd, k0, k1, k2, k3, k5, hC, hbm⟩ := T.cls
  have hcl := clsIn_err hC
  refine plainObj_wpAny_Assign_Attribute ?_
  refine wpAny_Name (wpAny_loadName_local S.kind (S.fld f hf) hns mf ?_) (S.dbg f hf)
  refine wpAny_Name (wpAny_loadName_local S.kind S.slf hns ms ?_) (by decide)
  obtain ⟨oD, esD, epD, hoD, hdD, _⟩ := hn.count hw
  obtain ⟨hh, g, d, tk, os⟩ := s
  refine set_plain X (od := some oD) ⟨hx, rfl, rfl, hoD⟩ T.sa ?_
  exact OEX.osa_old X hx hn hw hz hcl (show refsVE (.ref C :: bm) = true from hbm) rfl (T.nof f hf) (fun h3 tk3 k3 hn3 => hq h3 tk3 k3 hn3)

/-- the whole of __init__ -/
theorem err_init (T : ErrK prog K fs C fI fd) {x t0 : Addr} {vs : List Value} {args : Args} (hl : vs.length = fs.length) (X : K.In s.heap) (hlim : s.heap.NoLimit)
    (hgl : s.heap.Ns mainGlobals mg) (hbl : s.heap.Ns builtinsNs mb) (hbb : ∀ x : Str, x ≠ "__name__" → mb x = bootBuiltins x)
    (hx : s.heap.get? x = some (excO C t0)) (hnx : K.lookup x = none) (hroom : A.depth < recursionLimit)
    (hbind : BindsTo s fd args (("self", .ref x) :: fs.zip vs))
    (hq : ∀ h' tk dx, IniEnd fs vs s.heap h' x C dx → R (.ok (.ret .none)) { s with heap := h', toks := tk }) :
    codeAny (model prog w) A (.call (.ref fI) args) R s := by
  obtain ⟨oc, od, osl, qual, params, body, scope, dV, kV, doc, pm, an, cda, ct, cc, efd, lf, hcd, hcode, hcell, hpar, S, hshape⟩ := T.fn
  have butx : ∀ {h h' : Heap}, K.In h → (∀ b o, b ≠ x → h.get? b = some o → h'.get? b = some o) → K.In h' := fun {h h'} Y k a o e =>
    k a o (fun z => by rw [z, hnx] at e; cases e) (Y a o e)
  have hloc : ∀ y ∈ (("self", .ref x) :: fs.zip vs : List (Str × Value)), scope.names.lookup y.1 = some .local := fun y hy => by
    rcases List.mem_cons.mp hy with z | z
    · rw [z]
      exact S.slf
    · exact S.fld _ (List.of_mem_zip z).1
  subst efd
  refine ks_codeAny_call_defAt (body := body) (binds := ("self", .ref x) :: fs.zip vs) hroom (X _ _ lf) rfl hlim (codeRec_of X hcd) rfl hbind S.nocell hloc (fun h1 hns hk1 => ?_) S.co S.gen S.kind
  have X1 := X.keeps hk1
  have hx1 := hk1 _ _ hx
  have hL : ∀ {h' : Heap}, (∀ b o, b ≠ x → h1.get? b = some o → h'.get? b = some o) → ∀ {m}, h1.Ns s.heap.objs.size m → h'.Ns s.heap.objs.size m := fun {h'} k {m} ⟨o, es, ep, e, r⟩ =>
    ⟨o, es, ep, k _ _ (Nat.ne_of_gt (Heap.lt_size hx)) e, r⟩
  rcases hshape with ⟨f, q1, q2, q3, q4, q5, q6, r1, r2, r3, r4, hpos, rfl, rfl⟩ | ⟨f, g, q1, q2, q3, q4, q5, q6, r1, r2, r3, r4, p1, p2, p3, p4, hpos, rfl, hfg, rfl⟩
  · obtain ⟨v, rfl⟩ : ∃ v, vs = [v] := by
      cases vs with
      | nil => cases hl
      | cons v r =>
        cases r with
        | nil => exact ⟨v, rfl⟩
        | cons _ _ => cases hl
    have nf : (("self" : Str) == f) = false := by simpa using (S.nself f (by simp)).symm
    have ms : ([("self", .ref x), (f, v)] : List (Str × Value)).reverse.lookup ("self" : Str) = some (Value.ref x) := by simp [List.lookup, nf]
    have mf : ([("self", .ref x), (f, v)] : List (Str × Value)).reverse.lookup f = some v := by simp [List.lookup]
    refine ks_wpAt_execs_cons (sup_run T rfl lf hcode hcell hpos hpar S (by simp) X1 (hgl.keeps hk1) (hbl.keeps hk1) hbb hns ms mf hx1 (fun h2 tk2 t2 k2 hx2 => ?_))
    refine ks_wpAt_execs_cons (wpAt_of_wpAny (keep_new T S (by simp) (butx X1 k2) (hL k2 hns) ms mf hx2 (fun h3 tk3 dx k3 dn dne hx3 hn3 => ?_)))
    refine wpAt_of_wpAny (wpAny_execs_nil ?_)
    have z : s.heap.objs.size ≤ dx := Nat.le_of_lt (Nat.lt_of_lt_of_le (hL k2 hns).lt dn)
    exact hq h3 tk3 dx ⟨fun b o hb e => k3 b o hb (k2 b o hb (hk1 b o e)), ⟨_, hx3⟩, z, dne, _, hn3, fun y => look1 f y v⟩
  · obtain ⟨v, u, rfl⟩ : ∃ v u, vs = [v, u] := by
      cases vs with
      | nil => cases hl
      | cons v r =>
        cases r with
        | nil => cases hl
        | cons u r =>
          cases r with
          | nil => exact ⟨v, u, rfl⟩
          | cons _ _ => cases hl
    have nf : (("self" : Str) == f) = false := by simpa using (S.nself f (by simp)).symm
    have ng : (("self" : Str) == g) = false := by simpa using (S.nself g (by simp)).symm
    have fg : (f == g) = false := by simpa using hfg
    have ms : ([("self", .ref x), (f, v), (g, u)] : List (Str × Value)).reverse.lookup ("self" : Str) = some (Value.ref x) := by simp [List.lookup, nf, ng]
    have mf : ([("self", .ref x), (f, v), (g, u)] : List (Str × Value)).reverse.lookup f = some v := by simp [List.lookup, fg]
    have mu : ([("self", .ref x), (f, v), (g, u)] : List (Str × Value)).reverse.lookup g = some u := by simp [List.lookup]
    refine ks_wpAt_execs_cons (sup_run T rfl lf hcode hcell hpos hpar S (by simp) X1 (hgl.keeps hk1) (hbl.keeps hk1) hbb hns ms mf hx1 (fun h2 tk2 t2 k2 hx2 => ?_))
    refine ks_wpAt_execs_cons (wpAt_of_wpAny (keep_new T S (by simp) (butx X1 k2) (hL k2 hns) ms mf hx2 (fun h3 tk3 dx k3 dn dne hx3 hn3 => ?_)))
    have X3 : K.In h3 := butx (butx X1 k2) k3
    have hns3 : h3.Ns s.heap.objs.size _ := hL (fun b o hb e => k3 b o hb (k2 b o hb e)) hns
    refine ks_wpAt_execs_cons (wpAt_of_wpAny (keep_old T S (by simp) X3 hns3 ms mu hx3 hn3 (Within.cons f v Within.nil) (by show 1 ≤ 1000; decide) (fun h4 tk4 k4 hn4 => ?_)))
    refine wpAt_of_wpAny (wpAny_execs_nil ?_)
    have zz : s.heap.objs.size < h2.objs.size := (hL k2 hns).lt
    have z : s.heap.objs.size ≤ dx := Nat.le_of_lt (Nat.lt_of_lt_of_le zz dn)
    have nd : ∀ b o, h2.get? b = some o → b ≠ dx := fun b o e z => absurd (Nat.lt_of_lt_of_le (Heap.lt_size e) dn) (by rw [z]; exact Nat.lt_irrefl _)
    refine hq h4 tk4 dx ⟨fun b o hb e => k4 b o (nd b o (k2 b o hb (hk1 b o e))) (k3 b o hb (k2 b o hb (hk1 b o e))), ⟨_, k4 _ _ (Ne.symm dne) hx3⟩, z, dne, _, hn4, fun y => look2 hfg y v u⟩
end
end PySem.TPX

namespace PySem.TPX
open PySem.W PySem.Calls PyProof.Rows PySem.HandSPX
/-- a made error -/
structure ErrMade (fs : List Str) (vs : List Value) (h h' : Heap) (e C d : Addr) : Prop where
  keep : ∀ b o, h.get? b = some o → h'.get? b = some o
  new : h.objs.size ≤ e
  obj : ∃ oe ws, h'.get? e = some oe ∧ oe.cls = .ref C ∧ oe.dict = some d ∧ oe.data = .fields ws ∧ ws[1]? = some .none ∧ ws[2]? = some .none ∧ 4 < ws.size
  dbig : h.objs.size ≤ d
  dne : d ≠ e
  ns : ∃ mA, h'.Ns1 d mA ∧ ∀ y, mA y = (fs.zip vs).lookup y
section
variable {prog : Program} {w : World} {A : Around} {R : Result → Shared → Prop} {s : Shared} {K : Frag} {mg mb : Str → Option Value} {C fI : Addr} {fs : List Str} {fd : FuncData}
theorem err_made (T : ErrK prog K fs C fI fd) {us vs : List Value} (hl : vs.length = fs.length) (hul : us.length ≤ sizeLine) (X : K.In s.heap) (hlim : s.heap.NoLimit)
    (hgl : s.heap.Ns mainGlobals mg) (hbl : s.heap.Ns builtinsNs mb) (hbb : ∀ x : Str, x ≠ "__name__" → mb x = bootBuiltins x) (hroom : A.depth + 1 < recursionLimit)
    (hbind : ∀ (s : Shared) (x : Addr), K.In s.heap → BindsTo s fd ⟨.ref x :: us, []⟩ (("self", .ref x) :: fs.zip vs))
    (hq : ∀ h' tk e d, ErrMade fs vs s.heap h' e C d → R (.ok (.ret (.ref e))) { s with heap := h', toks := tk }) :
    codeAny (model prog w) A (.call (.ref C) ⟨us, []⟩) R s := by
  obtain ⟨nm, q, N, bs, bm, sn, sub, ab, col, dd, k0, k1, k2, k3, k5, hC, hbm⟩ := T.cls
  obtain ⟨hp, g, dr, tk, os⟩ := s
  have k : ∀ b o, hp.get? b = some o → ((hp.push (kdv_tup us)).push (excO C hp.objs.size)).get? b = some o := fun b o e => Heap.get?_push_of_some _ (Heap.get?_push_of_some _ e)
  have hget : ((hp.push (kdv_tup us)).push (excO C hp.objs.size)).get? (hp.objs.size + 1) = some (excO C hp.objs.size) := by heap_get
  have hnx : K.lookup (hp.objs.size + 1) = none := by
    cases e : K.lookup (hp.objs.size + 1) with
    | none => rfl
    | some o => exact absurd (Nat.lt_of_succ_lt (Heap.lt_size (X _ _ e))) (Nat.lt_irrefl _)
  refine call_own F.excBase_ValueError (fun Z => refsVE_contains Z bm hbm) (X _ _ hC) (looks_findIn X T.iC) (fun self => bind_fn X self T.tI) hul ?_
  refine err_init (s := ⟨(hp.push (kdv_tup us)).push (excO C hp.objs.size), g, dr, tk, os⟩) T hl (X.keeps k) (hlim.keeps k) (hgl.keeps k) (hbl.keeps k) hbb hget hnx ?_ (hbind _ _ (X.keeps k)) fun h' tk' dx I => ?_
  · show A.depth + 1 < recursionLimit
    exact hroom
  · obtain ⟨k', ⟨t1, hx⟩, dn, dne, hns⟩ := I
    have old : ∀ b o, hp.get? b = some o → h'.get? b = some o := fun b o e => k' b o (Nat.ne_of_lt (Nat.lt_succ_of_lt (Heap.lt_size e))) (k b o e)
    have z : hp.objs.size + 1 + 1 ≤ dx := by
      have q := dn
      simp only [Heap.size_push] at q
      exact q
    exact ⟨rfl, hq h' tk' (hp.objs.size + 1) dx ⟨old, Nat.le_succ _, ⟨_, _, hx, rfl, rfl, rfl, rfl, rfl, by show 4 < 6; decide⟩, Nat.le_trans (Nat.le_trans (Nat.le_succ _) (Nat.le_succ _)) z, dne, hns⟩⟩
end
end PySem.TPX

namespace L2.TP
open PySem PySem.Spec PyProof.Rows
theorem relO_zip : ∀ {fs : List Str} {vs : List V} {us : List Value}, Vals vs us → ∀ f, RelO ((fs.zip vs).lookup f) ((fs.zip us).lookup f)
  | [], _, _, _, _ => by simp [RelO]
  | _ :: _, _, _, .nil, _ => by simp [RelO]
  | g :: fs, _, _, .cons r t, f => by
    show RelO (List.lookup f ((g, _) :: fs.zip _)) (List.lookup f ((g, _) :: fs.zip _))
    by_cases h : f = g
    · subst h
      simp only [List.lookup, beq_self_eq_true]
      exact r
    · have q : (f == g) = false := by simpa using h
      simp only [List.lookup, q]
      exact relO_zip t f
/-- what the text says of an error x with the fields fs, whose __init__ takes the defaults dvs where they are left out -/
structure Err (prog : Program) (K : PySem.W.Frag) (mg : Str → Option Value) (x : Str) (fs : List Str) (C : Addr) : Prop where
  ex : ∃ (fI : Addr) (fd : FuncData), PySem.TPX.ErrK prog K fs C fI fd ∧ Binds K fd ("self" :: fs) []
  gC : mg x = some (.ref C)
  kC : PySem.W.keepIn K (.ref C) = true
  bE : PySem.W.subIn K (.ref C) (.type "BaseException") = some true
  tC : PySem.W.typeIn K (.ref C) = some (.type "type")
section
variable {X : Cx} {C : Addr} {x : Str} {fs : List Str}
/-- x(e, ..), an own error -/
def tMkE (C : Addr) (fs : List Str) (ta : TA) : St → Hp → XK → Prop := fun σ H Q => ta σ H fun vs H1 => vs.length = fs.length ∧ ∀ d, H1 d = none → Q (.ref C) (some d) (upd H1 d (.xd (fs.zip vs)))
theorem pmk_err {e : Expr} {es : List Expr} {ta : TA} {p pos : Pos} {k : Nat} (T : Err X.prog X.K X.mg x fs C) (hfs : fs.length ≤ 1000) (hr : Room k X.A) (ha : PA X (e :: es) ta) (hg : Gl X x := by rfl)
    (hdb : (x == ("__debug__" : Str)) = false := by decide)
    (he : starEach (e :: es) X.env = (false, eval e X.env) :: starEach es X.env := by rfl) (hpl : (backTo pos (starEach es X.env)).any (·.1) = false := by rfl) :
    PMk X (.Call (.Name x p) (e :: es) [] pos) (tMkE C fs ta) := by
  intro pins s σ H Q I h
  obtain ⟨fI, fd, TE, hbind⟩ := T.ex
  refine wpAny_Call_Name_kw (ld_glob I hg T.gC ?_ hdb)
  refine PySem.W.callWith_K (h₀ := X.base) I.ok.mod.kin T.kC (thn (ha.run pos pins s σ H _ I h) fun us s1 hh => ?_) he hpl
  obtain ⟨vs, H1, I1, r1, hl, q1⟩ := hh
  refine ⟨I1.kIn, ?_⟩
  show wpAny _ _ (call (.ref C) us) _ _ _
  have hlim := I1.nolimit
  obtain ⟨mb, hmb, hbb⟩ := I1.mod.blt
  have hul : us.length = fs.length := r1.length.symm.trans hl
  have hgl := I1.mod.glob.keeps I1.bk
  have hbl := hmb.keeps I1.bk
  have kin := I1.kIn
  obtain ⟨hp, g, dr, tk, os⟩ := s1
  refine wpAny_call (PySem.TPX.err_made (us := us) (vs := us) TE hul (by rw [hul]; exact Nat.le_trans hfs (by decide)) kin hlim hgl hbl hbb (by have := hr.dp; omega) (fun s' x' kk => ?_) fun h' tk' e d M => ?_)
  · have z := hbind s' (.ref x' :: us) kk (by simp [hul])
    rw [List.append_nil] at z
    exact z
  show MkP X pins σ Q (.ref e) ⟨h', g, dr, tk', os⟩
  obtain ⟨oe, fv, hoe, hc, hd, hdat, h1, _, _⟩ := M.obj
  obtain ⟨mA, hns, hmA⟩ := M.ns
  obtain ⟨G', g1, g2⟩ := restrict h' fun b => decide (b ≠ e)
  have gk : ∀ b, b ≠ e → G'.get? b = h'.get? b := fun b hb => g1 b (decide_eq_true hb)
  have ge : G'.get? e = none := g2 e (by simp)
  have old : ∀ b o, hp.get? b = some o → G'.get? b = some o := fun b o q => (gk b (Nat.ne_of_lt (Nat.lt_of_lt_of_le (Heap.lt_size q) M.new))).trans (M.keep b o q)
  have ob : ObjOk X.prog X.w (upd H1 d (.xd (fs.zip vs))) G' d (.xd (fs.zip vs)) :=
    ⟨mA, hns.at (fun o q => (gk d M.dne).trans q), fun f => by rw [hmA f]; exact relO_zip r1 f⟩
  have J : Inv X pins σ (upd H1 d (.xd (fs.zip vs))) ⟨G', g, dr, tk', os⟩ := I1.laid (t' := tk') old M.dbig ob
  refine ⟨e, oe, fv, ⟨G', g, dr, tk', os⟩, _, .ref C, some d, rfl, J, fun b o q => ?_, ge, hoe, ⟨hc, hd⟩, hdat, h1, ?_, rfl, I1.bare, raises_own T.bE T.tC, q1 d (I1.hok.fresh M.dbig)⟩
  · by_cases hb : b = e
    · have q' : G'.get? b = some o := q
      rw [hb, ge] at q'
      cases q'
    · exact (gk b hb).symm.trans q
  · rw [upd_ne (Ne.symm M.dne)]
    exact I1.hok.fresh M.new
/-- raise x(e, ..) -/
theorem ps_raiseE {e : Expr} {es : List Expr} {ta : TA} {W : WX} {p pos pos2 : Pos} {k : Nat} (hc : X.calm = true) (tk : Takes X W) (T : Err X.prog X.K X.mg x fs C) (hfs : fs.length ≤ 1000) (hr : Room k X.A) (ha : PA X (e :: es) ta)
    (hg : Gl X x := by rfl) (hdb : (x == ("__debug__" : Str)) = false := by decide)
    (he : starEach (e :: es) X.env = (false, eval e X.env) :: starEach es X.env := by rfl) (hpl : (backTo pos (starEach es X.env)).any (·.1) = false := by rfl) :
    PS X (.Raise (some (.Call (.Name x p) (e :: es) [] pos)) none pos2) (fun _ σ H => tMkE C fs ta σ H fun cls d H' => W cls d σ H') := ps_raise hc tk (pmk_err T hfs hr ha hg hdb he hpl)
end
end L2.TP

/-! Layer D: signs and comparisons whose defs are own methods; an own instance on the left, an own instance or an int on the right, or an int on the left. -/
namespace PySem.TPX
open PySem.W PySem.Calls PyProof.Rows
section
variable {prog : Program} {w : World} {M : Model} {A : Around} {E : Value → Shared → Prop} {s : Shared} {K : Frag} {y C dy f : Addr} {i : Int} {t : Tok}
theorem dec_add : Meets (Builtin.«int.__add__» ⟨[.int i t, .ref y], []⟩) (fun _ R s => s.heap.get? y = some (instObj C dy) ∧ R (.ok (.ret Value.notImplemented)) s) :=
  .of_wp fun prog w A R s h => by obtain ⟨hp, g, d, tk, os⟩ := s; obtain ⟨hl, h⟩ := h; wp_walk using wpAny_loadPart' hl; exact ⟨_, rfl, h⟩
theorem dec_sub : Meets (Builtin.«int.__sub__» ⟨[.int i t, .ref y], []⟩) (fun _ R s => s.heap.get? y = some (instObj C dy) ∧ R (.ok (.ret Value.notImplemented)) s) :=
  .of_wp fun prog w A R s h => by obtain ⟨hp, g, d, tk, os⟩ := s; obtain ⟨hl, h⟩ := h; wp_walk using wpAny_loadPart' hl; exact ⟨_, rfl, h⟩
theorem dec_mul : Meets (Builtin.«int.__mul__» ⟨[.int i t, .ref y], []⟩) (fun _ R s => s.heap.get? y = some (instObj C dy) ∧ R (.ok (.ret Value.notImplemented)) s) :=
  .of_wp fun prog w A R s h => by obtain ⟨hp, g, d, tk, os⟩ := s; obtain ⟨hl, h⟩ := h; wp_walk using wpAny_loadPart' hl; exact ⟨_, rfl, h⟩
theorem dec_floordiv : Meets (Builtin.«int.__floordiv__» ⟨[.int i t, .ref y], []⟩) (fun _ R s => s.heap.get? y = some (instObj C dy) ∧ R (.ok (.ret Value.notImplemented)) s) :=
  .of_wp fun prog w A R s h => by obtain ⟨hp, g, d, tk, os⟩ := s; obtain ⟨hl, h⟩ := h; wp_walk using wpAny_loadPart' hl; exact ⟨_, rfl, h⟩
theorem dec_eq : Meets (Builtin.«int.__eq__» ⟨[.int i t, .ref y], []⟩) (fun _ R s => s.heap.get? y = some (instObj C dy) ∧ R (.ok (.ret Value.notImplemented)) s) :=
  .of_wp fun prog w A R s h => by obtain ⟨hp, g, d, tk, os⟩ := s; obtain ⟨hl, h⟩ := h; wp_walk using wpAny_loadPart' hl; exact ⟨_, rfl, h⟩
theorem dec_ne : Meets (Builtin.«int.__ne__» ⟨[.int i t, .ref y], []⟩) (fun _ R s => s.heap.get? y = some (instObj C dy) ∧ R (.ok (.ret Value.notImplemented)) s) :=
  .of_wp fun prog w A R s h => by obtain ⟨hp, g, d, tk, os⟩ := s; obtain ⟨hl, h⟩ := h; wp_walk using wpAny_loadPart' hl; exact ⟨_, rfl, h⟩
theorem dec_lt : Meets (Builtin.«int.__lt__» ⟨[.int i t, .ref y], []⟩) (fun _ R s => s.heap.get? y = some (instObj C dy) ∧ R (.ok (.ret Value.notImplemented)) s) :=
  .of_wp fun prog w A R s h => by obtain ⟨hp, g, d, tk, os⟩ := s; obtain ⟨hl, h⟩ := h; wp_walk using wpAny_loadPart' hl; exact ⟨_, rfl, h⟩
theorem dec_le : Meets (Builtin.«int.__le__» ⟨[.int i t, .ref y], []⟩) (fun _ R s => s.heap.get? y = some (instObj C dy) ∧ R (.ok (.ret Value.notImplemented)) s) :=
  .of_wp fun prog w A R s h => by obtain ⟨hp, g, d, tk, os⟩ := s; obtain ⟨hl, h⟩ := h; wp_walk using wpAny_loadPart' hl; exact ⟨_, rfl, h⟩
theorem dec_gt : Meets (Builtin.«int.__gt__» ⟨[.int i t, .ref y], []⟩) (fun _ R s => s.heap.get? y = some (instObj C dy) ∧ R (.ok (.ret Value.notImplemented)) s) :=
  .of_wp fun prog w A R s h => by obtain ⟨hp, g, d, tk, os⟩ := s; obtain ⟨hl, h⟩ := h; wp_walk using wpAny_loadPart' hl; exact ⟨_, rfl, h⟩
theorem dec_ge : Meets (Builtin.«int.__ge__» ⟨[.int i t, .ref y], []⟩) (fun _ R s => s.heap.get? y = some (instObj C dy) ∧ R (.ok (.ret Value.notImplemented)) s) :=
  .of_wp fun prog w A R s h => by obtain ⟨hp, g, d, tk, os⟩ := s; obtain ⟨hl, h⟩ := h; wp_walk using wpAny_loadPart' hl; exact ⟨_, rfl, h⟩

/-- the left one, an int, declines -/
structure Dec (y C dy : Addr) (name : Str) (id : String) (B : Builtin) : Prop where
  slot : Slot "int" name id
  entry : entryFor table id = some B
  args : ∀ a b : Value, argsOk id ⟨[a, b], []⟩
  meets : ∀ (i : Int) (t : Tok), Meets (B ⟨[.int i t, .ref y], []⟩) (fun _ R s => s.heap.get? y = some (instObj C dy) ∧ R (.ok (.ret Value.notImplemented)) s)

/-- i op y: y's reflected def is called -/
theorem bin_refl {op : Operator} {id : String} {B : Builtin} {cd : ClassData} {rest : List Value} {Q : Value → Shared → Prop} (D : Dec y C dy (PySem.dunder op.info.2) id B) (X : K.In s.heap) (hy : s.heap.get? y = some (instObj C dy)) {od : Option Obj} (I : InstAt s.heap y (instObj C dy) C od)
    (hcd : clsIn K C = some cd) (hm : cd.mro = .ref C :: rest) (hfT : fillsNumberSlot (.type "int") op.info.2 = pure true) (hs0 : findIn K (.ref C) (PySem.dunder op.info.2) = some (some (.ref f0)))
    (hs : findIn K (.ref C) (dunderR op.info.2) = some (some (.ref f))) (hf : isFn K (.ref f) = true) (hsub : subIn K (.ref C) (.type "int") = some false)
    (h : wpAny (model prog w) A (call (.ref f) [.ref y, .int i t]) (W.CmpBack Q) E s) : wpAny (model prog w) A (binaryOp op (.int i t) (.ref y)) Q E s := by
  rcases hi : op.info with ⟨sym, nm⟩
  rw [hi] at D hs0 hs hfT
  dsimp only at D hs0 hs hfT
  have two := ksp_try X I hs hf h
  have one : wpAny (model prog w) A (tryMethod (.int i t) (PySem.dunder nm) (.ref y)) (fun r s' => r = none ∧ s' = s) E s :=
    wpAny_tryMethod_declines (typeIs_int s i t) D.slot (call_meets D.slot (typeIs_int s i t) D.entry (D.args _ _) (D.meets i t) ⟨hy, rfl, rfl, rfl⟩)
  obtain ⟨hh, g, d, tt, os⟩ := s
  have L1 : Looks (model prog w) hh (typeOf (.ref y)) (.ref C) := I.type
  have L2 : Looks (model prog w) hh (typeOf (.int i t)) (.type "int") := Looks.of_pure rfl
  have L3 : Looks (model prog w) hh (fillsNumberSlot (.ref C) nm) true := fills_K X hcd hm hs0
  have L4 : Looks (model prog w) hh (fillsNumberSlot (.type "int") nm) true := Looks.of_pure hfT
  have L5 : Looks (model prog w) hh (isSubtype (.ref C) (.type "int")) false := looks_subIn X hsub
  have L7 : Looks (model prog w) hh (numberSlotInPython (.type "int") nm) false := Looks.of_pure rfl
  have hne : (Value.type "int" == Value.ref C) = false := rfl
  simp only [binaryOp, hi]
  refine wpAny_holding (wpAny_bind ?_)
  unfold binaryOp1
  refine wpAny_bind (L2.at (wpAny_bind (L1.at (wpAny_bind (L4.at ?_)))))
  simp only [hne, Bool.false_eq_true, if_false]
  ksp_lk
  refine wpAny_mono one (fun r s' hr' => ?_) fun _ _ e => e
  obtain ⟨rfl, rfl⟩ := hr'
  ksp_lk
  refine wpAny_mono two (fun r s' hr' => ?_) fun _ _ e => e
  obtain ⟨v, rfl, hq⟩ := hr'
  ksp_lk
  exact hq

/-- i cmp y: y's reflected def is called -/
theorem cmp_refl {op : CmpOp} {id : String} {B : Builtin} {Q : Value → Shared → Prop} (D : Dec y C dy (cmpInfo op).2.1 id B) (hu : A.units < cLine) (X : K.In s.heap) (hy : s.heap.get? y = some (instObj C dy)) {od : Option Obj} (I : InstAt s.heap y (instObj C dy) C od)
    (hs : findIn K (.ref C) (cmpInfo op).2.2 = some (some (.ref f))) (hf : isFn K (.ref f) = true) (hsub : subIn K (.ref C) (.type "int") = some false)
    (h : wpAny (model prog w) A (call (.ref f) [.ref y, .int i t]) (W.CmpBack Q) E s) : wpAny (model prog w) A (richCompare op (.int i t) (.ref y)) Q E s := by
  have two : wpAny (model prog w) A (tryCompare (.ref y) (cmpInfo op).2.2 (.int i t)) (fun r s' => ∃ v, r = some v ∧ Q v s') E s := by
    unfold tryCompare
    refine wpAny_bind (ifBound_K X I hs hf (wpAny_mono h (fun v s' hv => ?_) fun _ _ e => e))
    cases v <;> first | exact hv.elim | exact wpAny_pure ⟨_, rfl, hv⟩
  have one : wpAny (model prog w) A (tryCompare (.int i t) (cmpInfo op).2.1 (.ref y)) (fun r s' => r = none ∧ s' = s) E s := by
    unfold tryCompare
    refine wpAny_bind (wpAny_callSpecialIfBound?_slot (typeIs_int s i t) D.slot (call_meets (Q := fun v s' => v = .notImplemented ∧ s' = s) D.slot (typeIs_int s i t) D.entry (D.args _ _) (D.meets i t) ⟨hy, rfl, rfl⟩ |> fun z => wpAny_mono z (fun v s' hv => ?_) fun _ _ e => e))
    obtain ⟨rfl, rfl⟩ := hv
    exact wpAny_pure ⟨rfl, rfl⟩
  have hone : oneThing? op (.int i t) (.ref y) = none := rfl
  unfold richCompare
  simp only [hone]
  refine wpAny_holding (wpAny_bind (wpAny_cRoomFor hu ?_))
  have L2 : Looks (model prog w) s.heap (typeOf (.int i t)) (.type "int") := Looks.of_pure rfl
  refine wpAny_bind (L2.here (wpAny_bind (I.type.here ?_)))
  rw [if_pos (show (Value.type "int" != Value.ref C) = true from rfl)]
  refine wpAny_bind ((looks_subIn X hsub).here ?_)
  simp only [Bool.false_eq_true, if_false, Bool.not_false, if_true]
  refine wpAny_bind (wpAny_mono one (fun r s' hr' => ?_) fun _ _ e => e)
  obtain ⟨rfl, rfl⟩ := hr'
  refine wpAny_bind (wpAny_mono two (fun r s' hr' => ?_) fun _ _ e => e)
  obtain ⟨v, rfl, hq⟩ := hr'
  exact wpAny_pure hq
end
end PySem.TPX

/-! Layer E: the same over the hand layer. -/
namespace L2.TP
open PySem PySem.Spec PyProof.Rows

/-- the def at f that a slot of the class at C calls -/
structure SlotF (K : PySem.W.Frag) (C : Addr) (name : Str) (f : Addr) : Prop where
  at_ : PySem.W.findIn K (.ref C) name = some (some (.ref f))
  fn : PySem.W.isFn K (.ref f) = true
/-- what a class says so that its signs beside ints are its own -/
structure NumC (K : PySem.W.Frag) (C : Addr) : Prop where
  slf : PySem.W.selfFirst K C = true
  sub1 : PySem.W.subIn K (.type "int") (.ref C) = some false
  sub2 : PySem.W.subIn K (.ref C) (.type "int") = some false

theorem backV {P : Value → Shared → Prop} {z : V} {v : Value} {s' : Shared} (r : RelV z v) (h : P v s') : PySem.W.CmpBack P v s' := by
  cases z with
  | non => cases r; exact h
  | bl b => cases r; exact h
  | int i => obtain ⟨t, rfl⟩ := r; exact h
  | str x => obtain ⟨t, rfl⟩ := r; exact h
  | byt b => obtain ⟨t, rfl⟩ := r; exact h
  | flt b => obtain ⟨t, rfl⟩ := r; exact h
  | ref a => cases r; exact h
  | ty n => cases r; exact h
theorem notFirst_int {K : PySem.W.Frag} {C : Addr} (N : NumC K C) : PySem.W.notFirst K C (.type "int") = true := by
  unfold PySem.W.notFirst
  rw [N.sub1]
  simp
theorem notFirst_self {K : PySem.W.Frag} {C : Addr} : PySem.W.notFirst K C (.ref C) = true := by
  unfold PySem.W.notFirst
  simp

section
variable {X : Cx} {CX : CXT} {k : Nat} {C f fr : Addr} {fd fdr : FuncData} {sp spr : Sp} {p1 p2 q1 q2 : Str} {E : XK} {pins : List (Addr × Obj)} {σ : St} {H : Hp} {s : Shared}

/-- x op y, at least one of them an instance of the class at C, the other one such or an int -/
def rOwnB (C : Addr) (sp spr : Sp) (E : XK) : R2 := fun x y H Q =>
  (∃ a dx fs, x = .ref a ∧ H a = some (.ins C dx fs) ∧ ((∃ b dy gs, y = .ref b ∧ H b = some (.ins C dy gs)) ∨ ∃ i, y = .int i) ∧ sp [x, y] H Q E) ∨
  (∃ i b dy gs, x = .int i ∧ y = .ref b ∧ H b = some (.ins C dy gs) ∧ spr [y, x] H Q E)

theorem inst_of (I : Inv X pins σ H s) {a dx : Addr} {fs : List (Str × V)} (e : H a = some (.ins C dx fs)) : ∃ od, PySem.W.InstAt s.heap a (PySem.W.instObj C dx) C (some od) := by
  obtain ⟨mA, O, _⟩ := ins_get I.hok e
  obtain ⟨od, J, _⟩ := O.look
  exact ⟨od, J⟩
theorem obj_of (I : Inv X pins σ H s) {a dx : Addr} {fs : List (Str × V)} (e : H a = some (.ins C dx fs)) : s.heap.get? a = some (PySem.W.instObj C dx) := by
  obtain ⟨od, J⟩ := inst_of I e
  exact J.at_

theorem op_ownB {op : Operator} {id : String} {B : Builtin} {fo ro : Option Value} (N : NumC X.K C) (S : SlotF X.K C (PySem.dunder op.info.2) f) (R : SlotF X.K C (dunderR op.info.2) fr)
    (t1 : PySem.W.findIn X.K (.type "int") (PySem.dunder op.info.2) = some fo) (t2 : PySem.W.findIn X.K (.type "int") (dunderR op.info.2) = some ro) (hfT : fillsNumberSlot (.type "int") op.info.2 = pure true)
    (D : ∀ y dy, PySem.TPX.Dec y C dy (PySem.dunder op.info.2) id B)
    (F : FnOk X.prog X.w X.K X.mg X.base CX k f fd [p1, p2] sp) (FR : FnOk X.prog X.w X.K X.mg X.base CX k fr fdr [q1, q2] spr)
    (hr : Room k X.A) (hb : Binds X.K fd [p1, p2] []) (hbr : Binds X.K fdr [q1, q2] []) (hx : Passes CX X E) : OpR X (binaryOp op) (rOwnB C sp spr E) := by
  intro pins s σ H x y v u Q I rx ry h
  obtain ⟨m, Fm⟩ := I.fr
  have K0 := I.ok.mod.kin
  rcases h with ⟨a, dx, fs, rfl, ea, hy, hs⟩ | ⟨i, b, dy, gs, rfl, rfl, eb, hs⟩
  · cases rx
    obtain ⟨od, J⟩ := inst_of I ea
    have run : wpAny (model X.prog X.w) X.A (call (.ref f) [.ref a, u]) (PySem.W.CmpBack (EP X pins σ Q)) X.xe s :=
      thn (run_fn (dvs := []) (ds := []) (vs := [.ref a, y]) F hr hb .nil hx I (.cons rfl (.cons ry .nil)) (by rw [List.append_nil]; exact hs)) fun z s' hz => by
        obtain ⟨zv, H', I', rz, q⟩ := hz
        exact backV rz ⟨zv, H', I', rz, q⟩
    rcases hy with ⟨b, dy, gs, rfl, eb⟩ | ⟨i, rfl⟩
    · cases ry
      obtain ⟨od2, J2⟩ := inst_of I eb
      exact PySem.W.binop_K Fm K0 J J2.type N.slf S.at_ S.fn run
    · obtain ⟨t, rfl⟩ := ry
      exact PySem.W.ksp_binT (T := "int") Fm K0 J rfl N.slf S.at_ S.fn R.at_ (.inr ⟨_, rfl⟩) t1 t2 N.sub1 run
  · cases ry
    obtain ⟨t, rfl⟩ := rx
    obtain ⟨od, J⟩ := inst_of I eb
    obtain ⟨cd, rest, hcd, hm⟩ := PySem.W.ksp_first N.slf
    refine PySem.TPX.bin_refl (D b dy) I.kIn (obj_of I eb) J hcd hm hfT S.at_ R.at_ R.fn N.sub2 ?_
    exact thn (run_fn (dvs := []) (ds := []) (vs := [.ref b, .int i]) FR hr hbr .nil hx I (.cons rfl (.cons ⟨t, rfl⟩ .nil)) (by rw [List.append_nil]; exact hs)) fun z s' hz => by
      obtain ⟨zv, H', I', rz, q⟩ := hz
      exact backV rz ⟨zv, H', I', rz, q⟩

theorem op_ownC {op : CmpOp} {id : String} {B : Builtin} (hop : ∀ a b, compareOp op a b = richCompare op a b) (N : NumC X.K C) (S : SlotF X.K C (cmpInfo op).2.1 f) (R : SlotF X.K C (cmpInfo op).2.2 fr)
    (D : ∀ y dy, PySem.TPX.Dec y C dy (cmpInfo op).2.1 id B)
    (F : FnOk X.prog X.w X.K X.mg X.base CX k f fd [p1, p2] sp) (FR : FnOk X.prog X.w X.K X.mg X.base CX k fr fdr [q1, q2] spr)
    (hr : Room k X.A) (hb : Binds X.K fd [p1, p2] []) (hbr : Binds X.K fdr [q1, q2] []) (hx : Passes CX X E) : OpR X (compareOp op) (rOwnB C sp spr E) := by
  intro pins s σ H x y v u Q I rx ry h
  obtain ⟨m, Fm⟩ := I.fr
  have K0 := I.ok.mod.kin
  rw [hop]
  rcases h with ⟨a, dx, fs, rfl, ea, hy, hs⟩ | ⟨i, b, dy, gs, rfl, rfl, eb, hs⟩
  · cases rx
    obtain ⟨od, J⟩ := inst_of I ea
    have run : wpAny (model X.prog X.w) X.A (call (.ref f) [.ref a, u]) (PySem.W.CmpBack (EP X pins σ Q)) X.xe s :=
      thn (run_fn (dvs := []) (ds := []) (vs := [.ref a, y]) F hr hb .nil hx I (.cons rfl (.cons ry .nil)) (by rw [List.append_nil]; exact hs)) fun z s' hz => by
        obtain ⟨zv, H', I', rz, q⟩ := hz
        exact backV rz ⟨zv, H', I', rz, q⟩
    rcases hy with ⟨b, dy, gs, rfl, eb⟩ | ⟨i, rfl⟩
    · cases ry
      obtain ⟨od2, J2⟩ := inst_of I eb
      exact PySem.W.cmp_K hr.units0 Fm K0 J J2.type notFirst_self S.at_ S.fn run
    · obtain ⟨t, rfl⟩ := ry
      exact PySem.W.cmp_K hr.units0 Fm K0 J (PySem.W.Looks.of_pure rfl) (notFirst_int N) S.at_ S.fn run
  · cases ry
    obtain ⟨t, rfl⟩ := rx
    obtain ⟨od, J⟩ := inst_of I eb
    refine PySem.TPX.cmp_refl (D b dy) hr.units0 I.kIn (obj_of I eb) J R.at_ R.fn N.sub2 ?_
    exact thn (run_fn (dvs := []) (ds := []) (vs := [.ref b, .int i]) FR hr hbr .nil hx I (.cons rfl (.cons ⟨t, rfl⟩ .nil)) (by rw [List.append_nil]; exact hs)) fun z s' hz => by
      obtain ⟨zv, H', I', rz, q⟩ := hz
      exact backV rz ⟨zv, H', I', rz, q⟩

/-- - x -/
def rOwnN (C : Addr) (sp : Sp) (E : XK) : V → Hp → VK → Prop := fun x H Q => ∃ a dx fs, x = .ref a ∧ H a = some (.ins C dx fs) ∧ sp [x] H Q E
theorem un_ownN (S : SlotF X.K C "__neg__" f) (F : FnOk X.prog X.w X.K X.mg X.base CX k f fd [p1] sp) (hr : Room k X.A) (hb : Binds X.K fd [p1] []) (hx : Passes CX X E) : UnR X (unaryOp .USub) (rOwnN C sp E) := by
  intro pins s σ H x v Q I rx h
  obtain ⟨a, dx, fs, rfl, ea, hs⟩ := h
  cases rx
  obtain ⟨m, Fm⟩ := I.fr
  obtain ⟨od, J⟩ := inst_of I ea
  exact PySem.W.ksp_neg Fm I.ok.mod.kin J S.at_ S.fn (run_fn (dvs := []) (ds := []) (vs := [.ref a]) F hr hb .nil hx I (.cons rfl .nil) (by rw [List.append_nil]; exact hs))

/-! ### what an int declines -/
theorem Dadd (y C dy : Addr) : PySem.TPX.Dec y C dy (PySem.dunder Operator.Add.info.2) "int.__add__" Builtin.«int.__add__» := ⟨F.slot_int_add, F.entry_int_add, F.args_int_add_2, fun _ _ => PySem.TPX.dec_add⟩
theorem Dsub (y C dy : Addr) : PySem.TPX.Dec y C dy (PySem.dunder Operator.Sub.info.2) "int.__sub__" Builtin.«int.__sub__» := ⟨F.slot_int_sub, F.entry_int_sub, F.args_int_sub_2, fun _ _ => PySem.TPX.dec_sub⟩
theorem Dmul (y C dy : Addr) : PySem.TPX.Dec y C dy (PySem.dunder Operator.Mult.info.2) "int.__mul__" Builtin.«int.__mul__» := ⟨F.slot_int_mul, F.entry_int_mul, F.args_int_mul_2, fun _ _ => PySem.TPX.dec_mul⟩
theorem Dfdiv (y C dy : Addr) : PySem.TPX.Dec y C dy (PySem.dunder Operator.FloorDiv.info.2) "int.__floordiv__" Builtin.«int.__floordiv__» := ⟨F.slot_int_floordiv, F.entry_int_floordiv, F.args_int_floordiv_2, fun _ _ => PySem.TPX.dec_floordiv⟩
theorem Deq (y C dy : Addr) : PySem.TPX.Dec y C dy (cmpInfo .Eq).2.1 "int.__eq__" Builtin.«int.__eq__» := ⟨F.slot_int_eq, F.entry_int_eq, F.args_int_eq_2, fun _ _ => PySem.TPX.dec_eq⟩
theorem Dne (y C dy : Addr) : PySem.TPX.Dec y C dy (cmpInfo .NotEq).2.1 "int.__ne__" Builtin.«int.__ne__» := ⟨F.slot_int_ne, F.entry_int_ne, F.args_int_ne_2, fun _ _ => PySem.TPX.dec_ne⟩
theorem Dlt (y C dy : Addr) : PySem.TPX.Dec y C dy (cmpInfo .Lt).2.1 "int.__lt__" Builtin.«int.__lt__» := ⟨F.slot_int_lt, F.entry_int_lt, F.args_int_lt_2, fun _ _ => PySem.TPX.dec_lt⟩
theorem Dle (y C dy : Addr) : PySem.TPX.Dec y C dy (cmpInfo .LtE).2.1 "int.__le__" Builtin.«int.__le__» := ⟨F.slot_int_le, F.entry_int_le, F.args_int_le_2, fun _ _ => PySem.TPX.dec_le⟩
theorem Dgt (y C dy : Addr) : PySem.TPX.Dec y C dy (cmpInfo .Gt).2.1 "int.__gt__" Builtin.«int.__gt__» := ⟨F.slot_int_gt, F.entry_int_gt, F.args_int_gt_2, fun _ _ => PySem.TPX.dec_gt⟩
theorem Dge (y C dy : Addr) : PySem.TPX.Dec y C dy (cmpInfo .GtE).2.1 "int.__ge__" Builtin.«int.__ge__» := ⟨F.slot_int_ge, F.entry_int_ge, F.args_int_ge_2, fun _ _ => PySem.TPX.dec_ge⟩
end
end L2.TP

/-! Layer F: odds and ends: bindings with defaults, powers of great numbers, isinstance beside an own class, growing heaps, the pot of draws. -/
namespace L2.TP
open PySem PySem.Spec PyProof.Rows
theorem cls_some {K : PySem.W.Frag} {C : Addr} (h : PySem.W.hasDictIn K C = true) : (PySem.W.clsIn K C).isSome = true := by
  obtain ⟨cd, hc, _⟩ := PySem.W.any_some h
  rw [hc]
  rfl
theorem EXM {K : PySem.W.Frag} {C : Addr} {cls : Value} {b : Bool} (h1 : PySem.W.subIn K (.ref C) (.type "BaseException") = some true) (hd : PySem.W.hasDictIn K C = true) (ht : PySem.W.typeIn K (.ref C) = some (.type "type")) (h4 : PySem.W.subIn K cls (.ref C) = some b) : PySem.W.exmOne K cls (.ref C) = some b :=
  PySem.W.exm_ref h1 hd ht h4
/-- every parameter is given, though there are defaults -/
theorem binds_ks {K : PySem.W.Frag} {fd : FuncData} {ps : List Str} {T : Addr} {o : Obj} {its : List Value} {n : Nat} (lT : K.lookup T = some o) (oT : o.data = .seq its.toArray n)
    (h : ∀ us : List Value, us.length = ps.length → ∃ k, bindArgs fd ⟨us, []⟩ = seqItems? (.ref T) >>= k ∧ k (some its.toArray) = pure (ps.zip us)) : Binds K fd ps [] := fun s us X hl => by
  rw [List.append_nil] at hl ⊢
  obtain ⟨k, e1, e2⟩ := h us hl
  refine BindsTo.of_looks fun M => ?_
  rw [e1]
  exact looks_items X lT oT (.of_pure e2)
/-- isinstance(x, C), by the class of x -/
theorem kit_ref {K : PySem.W.Frag} {C : Addr} {t : Value} {b : Bool} (h : (PySem.W.clsIn K C).isSome = true ∧ PySem.W.typeIn K (.ref C) = some (.type "type")) (hs : PySem.W.subIn K t (.ref C) = some b) (hb : t = .ref C → b = true) : PySem.W.kitOne K t (.ref C) = some b := by
  unfold PySem.W.kitOne PySem.W.kitCls
  by_cases e : t = .ref C
  · rw [if_pos (by rw [e]; exact beq_self_eq_true _), hb e]
  · rw [if_neg (by simpa using e)]
    dsimp only
    rw [if_pos (by rw [h.1, h.2]; rfl)]
    exact hs
section
variable {X : Cx}
def CPowW (i j : Int) : Prop := 0 ≤ j ∧ (Builtin.Int.intBits i : Int) * j ≤ 2 ^ 27
theorem op_powW : OpR X (binaryOp .Pow) (rI CPowW fun i j => .int (i ^ j.toNat)) := opI fun _ _ _ _ _ _ _ hc q => pow_int hc.1 hc.2 q

theorem op_sign {CX : CXT} {k : Nat} {C f fr : Addr} {fd fdr : FuncData} {sp spr : Sp} {p1 p2 q1 q2 : Str} {E : XK} {op : Operator} {id : String} {B : Builtin} {n1 n2 : Str} (e1 : PySem.dunder op.info.2 = n1) (e2 : dunderR op.info.2 = n2) (N : NumC X.K C) (S : SlotF X.K C n1 f) (R : SlotF X.K C n2 fr)
    (t1 : ∃ fo, PySem.W.findIn X.K (.type "int") n1 = some fo) (t2 : ∃ ro, PySem.W.findIn X.K (.type "int") n2 = some ro) (hfT : fillsNumberSlot (.type "int") op.info.2 = pure true)
    (D : ∀ y dy, PySem.TPX.Dec y C dy (PySem.dunder op.info.2) id B)
    (F : FnOk X.prog X.w X.K X.mg X.base CX k f fd [p1, p2] sp) (FR : FnOk X.prog X.w X.K X.mg X.base CX k fr fdr [q1, q2] spr)
    (hr : Room k X.A) (hb : Binds X.K fd [p1, p2] []) (hbr : Binds X.K fdr [q1, q2] []) (hx : Passes CX X E) : OpR X (binaryOp op) (rOwnB C sp spr E) := by
  subst e1 e2
  obtain ⟨_, t1⟩ := t1
  obtain ⟨_, t2⟩ := t2
  exact op_ownB N S R t1 t2 hfT D F FR hr hb hbr hx
end
/-! ### growing heaps -/
theorem ext_upd {H : Hp} {p : Addr} {o : HO} (h : H p = none) : Ext H (upd H p o) := Ext.upd h
theorem ext_none {H H' : Hp} {p : Addr} (e : Ext H H') (h : H' p = none) : H p = none := by
  cases q : H p with
  | none => rfl
  | some o =>
    rw [e _ _ q] at h
    cases h
theorem ext_over {G H : Hp} {p : Addr} {o : HO} (e : Ext G H) (h : G p = none) : Ext G (upd H p o) := fun a u q => by
  have z : a ≠ p := fun z => by
    rw [z, h] at q
    cases q
  rw [upd_ne z]
  exact e _ _ q
theorem ext_both {G H : Hp} {p : Addr} {o : HO} (e : Ext G H) : Ext (upd G p o) (upd H p o) := fun a u q => by
  by_cases z : a = p
  · subst z
    rw [upd_same] at q ⊢
    exact q
  · rw [upd_ne z] at q ⊢
    exact e _ _ q
theorem ext_new {H H' : Hp} {x dx : Addr} {o u : HO} (e : Ext H H') (h1 : H x = none) (h2 : H dx = none) : Ext H (upd (upd H' dx o) x u) := ext_over (ext_over e h2) h1

/-! ### the pot of draws: a list of three ints -/
structure Pot (H : Hp) (p : Addr) (n : Nat) : Prop where
  at_ : ∃ a b c : Int, H p = some (.lst [.int a, .int b, .int c]) ∧ 0 ≤ a ∧ 0 ≤ b ∧ b < 2305843009213693952 ∧ 0 ≤ c ∧ c ≤ n
/-- the known part G, the pot beside it -/
structure WP (G : Hp) (p : Addr) (n : Nat) (H : Hp) : Prop where
  ext : Ext G H
  no : G p = none
  pot : Pot H p n
theorem WP.mono {G H : Hp} {p : Addr} {n m : Nat} (w : WP G p n H) (h : n ≤ m) : WP G p m H := by
  obtain ⟨a, b, c, e, h1, h2, h3, h4, h5⟩ := w.pot.at_
  exact ⟨w.ext, w.no, ⟨a, b, c, e, h1, h2, h3, h4, by omega⟩⟩
theorem WP.grow {G H H' : Hp} {p : Addr} {n : Nat} (w : WP G p n H) (e : Ext H H') : WP G p n H' := by
  obtain ⟨a, b, c, q, h⟩ := w.pot.at_
  exact ⟨w.ext.trans e, w.no, ⟨a, b, c, e _ _ q, h⟩⟩
/-- what is new may be known from now on -/
theorem WP.new {G H : Hp} {p x : Addr} {o : HO} {n : Nat} (w : WP G p n H) (h : H x = none) : WP (upd G x o) p n (upd H x o) := by
  obtain ⟨a, b, c, q, h2⟩ := w.pot.at_
  have ne : p ≠ x := ne_of_none q h
  exact ⟨ext_both w.ext, by rw [upd_ne ne]; exact w.no, ⟨a, b, c, by rw [upd_ne ne]; exact q, h2⟩⟩
theorem WP.ne {G H : Hp} {p x : Addr} {n : Nat} (w : WP G p n H) (h : H x = none) : p ≠ x := by
  obtain ⟨a, b, c, q, h2⟩ := w.pot.at_
  exact ne_of_none q h
/-- all of H but the pot may be known -/
def butP (H : Hp) (p : Addr) : Hp := fun b => if b = p then none else H b
theorem butP_ext {H : Hp} {p : Addr} : Ext (butP H p) H := fun a o e => by
  unfold butP at e
  split at e
  · cases e
  · exact e
theorem WP.all {G H : Hp} {p : Addr} {n : Nat} (w : WP G p n H) : WP (butP H p) p n H ∧ Ext G (butP H p) := by
  refine ⟨⟨butP_ext, if_pos rfl, w.pot⟩, fun a o e => ?_⟩
  have z : a ≠ p := fun z => by
    rw [z, w.no] at e
    cases e
  show (if a = p then none else H a) = some o
  rw [if_neg z]
  exact w.ext _ _ e
/-- a draw -/
def spTake : Sp := fun vs H Q _ => ∃ (G : Hp) (p : Addr) (n : Nat) (m : Int), vs = [.ref p, .int m] ∧ WP G p n H ∧ n ≤ 100000 ∧ 0 < m ∧ m ≤ 100000 ∧
  ∀ (r : Int) (H' : Hp), 0 ≤ r → r < m → WP G p (n + 1) H' → Q (.int r) H'
end L2.TP

/-! Layer G: data that is small enough to be shown. -/
namespace L2.TP
open PySem PySem.Spec PyProof.Rows
structure Sm (k w : Nat) (d : PyData) : Prop where
  dep : d.depth ≤ k
  wt : d.weight ≤ w
  short : d.leavesShort 13 = true
  shw : d.showable = true
structure SmA (k w : Nat) (ds : List PyData) : Prop where
  dep : PyData.depthAll ds ≤ k
  wt : PyData.weightAll ds ≤ w
  short : PyData.leavesShortAll 13 ds = true
  shw : PyData.showableAll ds = true
theorem Sm.mono {k k' w w' : Nat} {d : PyData} (h : Sm k w d) (hk : k ≤ k') (hw : w ≤ w') : Sm k' w' d := ⟨Nat.le_trans h.dep hk, Nat.le_trans h.wt hw, h.short, h.shw⟩
theorem SmA.mono {k k' w w' : Nat} {d : List PyData} (h : SmA k w d) (hk : k ≤ k') (hw : w ≤ w') : SmA k' w' d := ⟨Nat.le_trans h.dep hk, Nat.le_trans h.wt hw, h.short, h.shw⟩
theorem SmA.nil {k w : Nat} : SmA k w [] := ⟨Nat.zero_le _, Nat.zero_le _, rfl, rfl⟩
theorem SmA.cons {k w w' : Nat} {d : PyData} {ds : List PyData} (h : Sm k w d) (t : SmA k w' ds) : SmA k (w + 1 + w') (d :: ds) := by
  obtain ⟨a1, a2, a3, a4⟩ := h
  obtain ⟨b1, b2, b3, b4⟩ := t
  refine ⟨?_, ?_, ?_, ?_⟩
  · show max d.depth (PyData.depthAll ds) ≤ k
    omega
  · show d.weight + 1 + PyData.weightAll ds ≤ _
    omega
  · show (d.leavesShort 13 && PyData.leavesShortAll 13 ds) = true
    rw [a3, b3]
    rfl
  · show (d.showable && PyData.showableAll ds) = true
    rw [a4, b4]
    rfl
theorem Sm.tup {k w : Nat} {ds : List PyData} (h : SmA k w ds) : Sm (k + 1) w (.tuple ds) := ⟨by show PyData.depthAll ds + 1 ≤ _; have := h.dep; omega, h.wt, h.short, h.shw⟩
theorem Sm.lst {k w : Nat} {ds : List PyData} (h : SmA k w ds) : Sm (k + 1) w (.list ds) := ⟨by show PyData.depthAll ds + 1 ≤ _; have := h.dep; omega, h.wt, h.short, h.shw⟩
theorem Sm.non {k w : Nat} : Sm k w .none := ⟨Nat.zero_le _, Nat.zero_le _, rfl, rfl⟩
theorem Sm.bl {k w : Nat} (b : Bool) : Sm k w (.bool b) := ⟨Nat.zero_le _, Nat.zero_le _, rfl, rfl⟩
theorem log_lt {i : Int} {k : Nat} (h : i.natAbs < 2 ^ k) (hk : 0 < k) : i.natAbs.log2 < k := by
  by_cases z : i.natAbs = 0
  · rw [z]
    exact hk
  · exact (Nat.log2_lt z).mpr h
theorem Sm.int {k : Nat} {i : Int} (h : i.natAbs < 10 ^ 12) : Sm k 41 (.int i) := by
  have h2 : i.natAbs < 2 ^ 40 := Nat.lt_trans h (by decide)
  have h3 := log_lt h2 (by decide)
  refine ⟨Nat.zero_le _, ?_, ?_, ?_⟩
  · show (if i == 0 then 0 else i.natAbs.log2 + 1) ≤ 41
    split <;> omega
  · exact decide_eq_true (PyData.shown_int_le h)
  · exact decide_eq_true (by omega : i.natAbs.log2 < 1920)
theorem Sm.d40 {d : PyData} {k w : Nat} (s : Sm k w d) (hk : k ≤ 40 := by decide) : d.depth ≤ 40 := Nat.le_trans s.dep hk
theorem Sm.len {d : PyData} {k w : Nat} (s : Sm k w d) (hw : w ≤ 1000000 := by decide) : d.shown.length ≤ sizeLine := PyData.shown_fits (by decide) (by decide) s.short (Nat.le_trans (Nat.le_trans s.wt hw) (by decide))
/-- what repr asks -/
theorem rRepr_of {K : PySem.W.Frag} {H : Hp} {v : V} {d : PyData} {Q : VK} {k w : Nat} (h : Dp K H v d) (s : Sm k w d) (hk : k ≤ 40) (hw : w ≤ 1000000) (q : Q (.str d.shown) H) : rRepr K [v] H Q :=
  ⟨v, d, rfl, h, s.shw, Nat.le_trans s.dep hk, PyData.shown_fits (by decide) (by decide) s.short (Nat.le_trans (Nat.le_trans s.wt hw) (by decide)), q⟩
end L2.TP

/-! Layer H: an own class's x[i], x[i] = v, x op= y, len(x); starred items of a tuple's display. -/
namespace L2.TP
open PySem PySem.Spec PyProof.Rows
section
variable {X : Cx} {CX : CXT} {k : Nat} {C f : Addr} {fd : FuncData} {ps : List Str} {sp : Sp} {E : St → XK} {a b o i e : Expr} {ta tb to ti te : TE} {pos : Pos}

/-- a call, one level deeper -/
theorem run_in1 {pins : List (Addr × Obj)} {σ : St} {H : Hp} {s : Shared} {Q : VK} {us : List Value} {vs : List V} (F : FnOk X.prog X.w X.K X.mg X.base CX k f fd ps sp) (hr : Room (k + 1) X.A) (hb : Binds X.K fd ps []) (hx : PassesAt CX X σ (E σ))
    (I : Inv X pins σ H s) (r : Vals vs us) (h : sp vs H Q (E σ)) : wpAny (model X.prog X.w) X.A.in1 (call (.ref f) us) (EP X pins σ Q) X.xe s := by
  have hl : us.length = ps.length := by rw [← r.length]; exact F.len _ _ _ _ h
  have b := hb s us I.kIn (by rw [List.append_nil]; exact hl)
  rw [List.append_nil] at b
  refine wpAny_call (codeAny_mono (F.run X.A.in1 X.stack s H ⟨us, []⟩ us vs Q (E σ) hr.in1 I.env0.in1 b r h) fun r s' hq => ?_)
  cases r with
  | error e => exact hx pins H s e s' I hq
  | ok fl =>
    cases fl with
    | ret u => exact I.after hq
    | next => exact False.elim hq
    | brk => exact False.elim hq
    | cont => exact False.elim hq

/-- a[b], by the own class at C -/
def tGetK (C : Addr) (sp : Sp) (E : St → XK) (ta tb : TE) : TE := fun σ H Q => ta σ H fun x H1 => tb σ H1 fun y H2 => ∃ a dx fs, x = .ref a ∧ H2 a = some (.ins C dx fs) ∧ sp [x, y] H2 Q (E σ)
theorem pe_getK (S : SlotF X.K C "__getitem__" f) (hf : PySem.W.fnIn X.K f = true) (F : FnOk X.prog X.w X.K X.mg X.base CX k f fd ps sp) (hr : Room (k + 1) X.A) (hb : Binds X.K fd ps []) (hx : ∀ σ, PassesAt CX X σ (E σ))
    (h1 : PE X a ta) (h2 : PE X b tb) (hs : ∀ (x : Addr) (i : Value), subscripted b true (.ref x) i = runValue (.builtin "lifetime.subscript" ⟨[.ref x, i], []⟩) := by intros; rfl) : PE X (.Subscript a b pos) (tGetK C sp E ta tb) := by
  refine ⟨fun pins s σ H Q I h => ?_⟩
  refine Subscript_ (thn (h1.run pins s σ H _ I h) fun v s1 ⟨x, H1, I1, rx, q1⟩ => thn (h2.run pins s1 σ H1 _ I1 q1) fun u s2 ⟨y, H2, I2, ry, q2⟩ => ?_)
  obtain ⟨x0, dx, fs, rfl, ea, q⟩ := q2
  cases rx
  obtain ⟨m, Fm⟩ := I2.fr
  obtain ⟨od, J⟩ := inst_of I2 ea
  exact PySem.W.sub_K Fm I2.ok.mod.kin J S.at_ hf S.fn (run_in1 (vs := [.ref x0, y]) F hr hb (hx σ) I2 (.cons rfl (.cons ry .nil)) q) (hs _ _)

/-- o[i] = v, by the own class at C -/
def gSubK (C : Addr) (sp : Sp) (E : St → XK) (to ti : TE) : TG := fun v σ H Q => to σ H fun o H1 => ti σ H1 fun i H2 => ∃ a dx fs, o = .ref a ∧ H2 a = some (.ins C dx fs) ∧ sp [o, i, v] H2 (fun _ H3 => Q σ H3) (E σ)
theorem pg_subK (S : SlotF X.K C "__setitem__" f) (hq : PySem.W.noSeq X.K C = true) (F : FnOk X.prog X.w X.K X.mg X.base CX k f fd ps sp) (hr : Room k X.A) (hb : Binds X.K fd ps []) (hx : ∀ σ, PassesAt CX X σ (E σ)) (ho : PE X o to) (hi : PE X i ti)
    (ha : ∀ v, assign (.Subscript o i pos) X.env v = (holding [v] (eval o X.env) >>= fun ov => holding [v, ov] (eval i X.env) >>= fun iv => standAt pos >>= fun _ => holding [v, ov, iv] (setItem ov iv v) >>= fun _ => release [v, ov, iv] []) := by intro _; rfl) :
    PG X (.Subscript o i pos) (gSubK C sp E to ti) := by
  refine ⟨fun pins s σ H v u Q I r h => ?_⟩
  rw [ha]
  refine wpAny_bind (wpAny_holding (thn (ho.run pins s σ H _ I h) fun ov s1 ⟨x, H1, I1, r1, q1⟩ => ?_))
  refine wpAny_bind (wpAny_holding (thn (hi.run pins s1 σ H1 _ I1 q1) fun iv s2 ⟨y, H2, I2, r2, q2⟩ => ?_))
  obtain ⟨x0, dx, fs, rfl, ea, q⟩ := q2
  cases r1
  obtain ⟨m, Fm⟩ := I2.fr
  obtain ⟨od, J⟩ := inst_of I2 ea
  refine wpAny_bind (wpAny_standAt (wpAny_bind (wpAny_holding ?_)))
  refine PySem.W.ksp_setItem Fm I2.ok.mod.kin J hq S.at_ S.fn ?_
  exact thn (run_fnS (vs := [.ref x0, y, v]) F hr hb (hx σ) I2 (.cons rfl (.cons r2 (.cons r .nil))) q) fun _ s3 ⟨_, H3, I3, _, q3⟩ => wpAny_release ⟨σ, H3, I3, q3⟩

/-- name op= e, by the own class at C -/
def tAugK (C : Addr) (sp : Sp) (E : St → XK) (i : Nat) (te : TE) : TS := fun D σ H => ∃ x, σ[i]? = some (some x) ∧ te σ H fun y H1 => ∃ a dx fs, x = .ref a ∧ H1 a = some (.ins C dx fs) ∧ sp [x, y] H1 (fun z H2 => D.nx (σ.set i (some z)) H2) (E σ)
theorem ps_augK {n : Nat} {x : Str} {op : Operator} {pos' : Pos} (hN : X.N.Nodup) (hi : X.N[n]? = some x) (hx : X.env.scope.names.lookup x = some .local) (hc : PySem.W.selfFirst X.K C = true) (S : SlotF X.K C (dunderI op.info.2) f)
    (F : FnOk X.prog X.w X.K X.mg X.base CX k f fd ps sp) (hr : Room k X.A) (hb : Binds X.K fd ps []) (hp : ∀ σ, PassesAt CX X σ (E σ)) (he : PE X e te) : PS X (.AugAssign (.Name x pos') op e pos) (tAugK C sp E n te) := by
  refine ⟨fun pins s σ H D I h => ?_⟩
  obtain ⟨v, e1, h⟩ := h
  obtain ⟨m, hn, hl⟩ := I.loc
  obtain ⟨u, r, l⟩ := hl n x v hi e1 (.inl hx)
  refine wpAny_AugAssign_Name ?_
  have go : wpAny (model X.prog X.w) X.A (eval e X.env) (fun w s₂ => wpAny (model X.prog X.w) X.A (inplaceOp op u w) (fun r s₃ => wpAny (model X.prog X.w) X.A (storeName X.env x r) (fun _ => SP X pins D .next) X.xe s₃) X.xe s₂) X.xe s := by
    refine thn (he.run pins s σ H _ I h) fun w s1 ⟨y, H1, I1, r1, q1⟩ => ?_
    obtain ⟨x0, dx, fs, rfl, ea, q⟩ := q1
    cases r
    obtain ⟨m, Fm⟩ := I1.fr
    obtain ⟨od, J⟩ := inst_of I1 ea
    refine PySem.W.ksp_inplace Fm I1.ok.mod.kin J hc S.at_ S.fn ?_
    refine thn (run_fnS (vs := [.ref x0, y]) F hr hb (hp σ) I1 (.cons rfl (.cons r1 .nil)) q) fun z s2 ⟨zv, H2, I2, r2, q2⟩ => ?_
    exact backV r2 (store_ok I2 hN hi (.inl hx) r2 (fun s3 I3 => ⟨_, H2, I3, q2⟩) (.inr hx))
  rcases l with ⟨hk, hm⟩ | ⟨hk, c, hc', hcell⟩
  · exact wpAny_loadName_local I.ok.kind hk hn hm go
  · exfalso
    rcases hk with hk | hk
    · have : X.env.scope.names.lookup x = some .cell := hk
      rw [hx] at this
      cases this
    · have : X.env.scope.names.lookup x = some .free := hk
      rw [hx] at this
      cases this

/-- len of an own class's instance -/
def rLenK (C : Addr) (sp : Sp) : List V → Hp → VK → Prop := fun xs H Q => ∃ a dx fs, xs = [.ref a] ∧ H a = some (.ins C dx fs) ∧ sp [.ref a] H (fun v H' => ∃ n : Int, v = .int n ∧ 0 ≤ n ∧ n < 2 ^ 63 ∧ Q (.int n) H') E0
theorem call_lenK (S : SlotF X.K C "__len__" f) (F : FnOk X.prog X.w X.K X.mg X.base CX0 k f fd ps sp) (hr : Room (k + 1) X.A) (hb : Binds X.K fd ps []) : CallR X (.builtin "len") (rLenK C sp) := by
  intro pins s σ H xs us Q I r h
  obtain ⟨a, dx, fs, rfl, ea, q⟩ := h
  cases r with
  | cons r rr =>
    cases rr
    cases r
    obtain ⟨m, Fm⟩ := I.fr
    obtain ⟨od, J⟩ := inst_of I ea
    refine PySem.W.len_K Fm I.ok.mod.kin J S.at_ S.fn ?_
    refine thn (run_in1 (vs := [.ref a]) (E := fun _ => E0) F hr hb (fun _ _ _ _ _ _ z => z.elim) I (.cons rfl .nil) q) fun v s2 ⟨zv, H2, I2, r2, n, e2, n0, n1, q2⟩ => ?_
    subst e2
    obtain ⟨t, rfl⟩ := r2
    exact ⟨⟨n0, n1⟩, .int n, H2, I2.tok _, ⟨_, rfl⟩, q2⟩

/-- *e ahead of more items, e a tuple -/
def tStar (K : PySem.W.Frag) (te : TE) (t : TA) : TA := fun σ H Q => te σ H fun x H1 => ∃ a ys, x = .ref a ∧ SqT K H1 a ys ∧ t σ H1 fun xs H2 => Q (ys ++ xs) H2
theorem pa_star {es : List Expr} {t : TA} {p : Pos} (ha : PE X e te) (hr : PA X es t) : PA X (.Starred e p :: es) (tStar X.K te t) := by
  refine ⟨fun pos pins s σ H Q I h => ?_⟩
  show wpAny _ _ (spliced ((true, (do let v ← eval e X.env; standAt pos; pure v)) :: backTo pos (starEach es X.env))) _ _ s
  refine PySem.W.ks_spliced (thn (ha.run pins s σ H _ I h) fun u s1 ⟨x, H1, I1, r1, q1⟩ => ?_)
  obtain ⟨a, ys, rfl, hy, q⟩ := q1
  cases r1
  refine star_tup I1 hy fun us s2 I2 rv => ?_
  exact thn (hr.run pos pins s2 σ H1 _ I2 q) fun vs s3 ⟨xs, H2, I3, r3, q3⟩ => ⟨ys ++ xs, H2, I3, rv.append r3, q3⟩
end
end L2.TP

namespace K02
open PySem PySem.Spec PyProof.Rows L2 L2.TP
def topS (i : Nat) : Stmt := PySem.Challenge.pw_tapedonce_k02_rows_read_set_and_pushed.main.body.getD i (.Pass ⟨0, 0, 0, 0⟩)
abbrev s_is_integer : Stmt := topS 8
abbrev N_is_integer : List Str := ["value"]
theorem sc_is_integer : FnScope N_is_integer ["value"] (defScope s_is_integer) := ⟨rfl, rfl, rfl, by decide +kernel, rfl, by decide +kernel, by decide +kernel⟩
abbrev s_is_from : Stmt := topS 9
abbrev N_is_from : List Str := ["value", "low", "high"]
theorem sc_is_from : FnScope N_is_from ["value", "low", "high"] (defScope s_is_from) := ⟨rfl, rfl, rfl, by decide +kernel, rfl, by decide +kernel, by decide +kernel⟩
abbrev s_worth_of : Stmt := topS 14
abbrev N_worth_of : List Str := ["number"]
theorem sc_worth_of : FnScope N_worth_of ["number"] (defScope s_worth_of) := ⟨rfl, rfl, rfl, by decide +kernel, rfl, by decide +kernel, by decide +kernel⟩
abbrev s_Number___init__ : Stmt := inClass (topS 17) 0
abbrev N_Number___init__ : List Str := ["self", "size", "worth"]
theorem sc_Number___init__ : FnScope N_Number___init__ ["self", "size", "worth"] (defScope s_Number___init__) := ⟨rfl, rfl, rfl, by decide +kernel, rfl, by decide +kernel, by decide +kernel⟩
abbrev s_Number_size : Stmt := inClass (topS 17) 1
abbrev N_Number_size : List Str := ["self"]
theorem sc_Number_size : FnScope N_Number_size ["self"] (defScope s_Number_size) := ⟨rfl, rfl, rfl, by decide +kernel, rfl, by decide +kernel, by decide +kernel⟩
abbrev s_Number_worth : Stmt := inClass (topS 17) 2
abbrev N_Number_worth : List Str := ["self"]
theorem sc_Number_worth : FnScope N_Number_worth ["self"] (defScope s_Number_worth) := ⟨rfl, rfl, rfl, by decide +kernel, rfl, by decide +kernel, by decide +kernel⟩
abbrev s_are_items : Stmt := topS 23
abbrev N_are_items : List Str := ["size", "most", "value", "one"]
theorem sc_are_items : FnScope N_are_items ["size", "most", "value"] (defScope s_are_items) := ⟨rfl, rfl, rfl, by decide +kernel, rfl, by decide +kernel, by decide +kernel⟩
abbrev s_Row___init__ : Stmt := inClass (topS 24) 0
abbrev N_Row___init__ : List Str := ["self", "size", "most", "items"]
theorem sc_Row___init__ : FnScope N_Row___init__ ["self", "size", "most", "items"] (defScope s_Row___init__) := ⟨rfl, rfl, rfl, by decide +kernel, rfl, by decide +kernel, by decide +kernel⟩
abbrev s_Row_worths : Stmt := inClass (topS 24) 1
abbrev N_Row_worths : List Str := ["self"]
theorem sc_Row_worths : FnScope N_Row_worths ["self"] (defScope s_Row_worths) := ⟨rfl, rfl, rfl, by decide +kernel, rfl, by decide +kernel, by decide +kernel⟩
abbrev s_Row___len__ : Stmt := inClass (topS 24) 2
abbrev N_Row___len__ : List Str := ["self"]
theorem sc_Row___len__ : FnScope N_Row___len__ ["self"] (defScope s_Row___len__) := ⟨rfl, rfl, rfl, by decide +kernel, rfl, by decide +kernel, by decide +kernel⟩
abbrev s_Row_has : Stmt := inClass (topS 24) 4
abbrev N_Row_has : List Str := ["self", "i"]
theorem sc_Row_has : FnScope N_Row_has ["self", "i"] (defScope s_Row_has) := ⟨rfl, rfl, rfl, by decide +kernel, rfl, by decide +kernel, by decide +kernel⟩
abbrev s_Row_worth_at : Stmt := inClass (topS 24) 5
abbrev N_Row_worth_at : List Str := ["self", "place", "what"]
theorem sc_Row_worth_at : FnScope N_Row_worth_at ["self", "place", "what"] (defScope s_Row_worth_at) := ⟨rfl, rfl, rfl, by decide +kernel, rfl, by decide +kernel, by decide +kernel⟩
abbrev s_Row_lay : Stmt := inClass (topS 24) 6
abbrev N_Row_lay : List Str := ["self", "place", "worth", "what"]
theorem sc_Row_lay : FnScope N_Row_lay ["self", "place", "worth", "what"] (defScope s_Row_lay) := ⟨rfl, rfl, rfl, by decide +kernel, rfl, by decide +kernel, by decide +kernel⟩
abbrev s_Row_push : Stmt := inClass (topS 24) 7
abbrev N_Row_push : List Str := ["self", "worth", "what"]
theorem sc_Row_push : FnScope N_Row_push ["self", "worth", "what"] (defScope s_Row_push) := ⟨rfl, rfl, rfl, by decide +kernel, rfl, by decide +kernel, by decide +kernel⟩
abbrev s_Row_count : Stmt := inClass (topS 24) 8
abbrev N_Row_count : List Str := ["self"]
theorem sc_Row_count : FnScope N_Row_count ["self"] (defScope s_Row_count) := ⟨rfl, rfl, rfl, by decide +kernel, rfl, by decide +kernel, by decide +kernel⟩
abbrev s_Row___getitem__ : Stmt := inClass (topS 24) 9
abbrev N_Row___getitem__ : List Str := ["self", "i"]
theorem sc_Row___getitem__ : FnScope N_Row___getitem__ ["self", "i"] (defScope s_Row___getitem__) := ⟨rfl, rfl, rfl, by decide +kernel, rfl, by decide +kernel, by decide +kernel⟩
abbrev s_Row___setitem__ : Stmt := inClass (topS 24) 10
abbrev N_Row___setitem__ : List Str := ["self", "i", "x"]
theorem sc_Row___setitem__ : FnScope N_Row___setitem__ ["self", "i", "x"] (defScope s_Row___setitem__) := ⟨rfl, rfl, rfl, by decide +kernel, rfl, by decide +kernel, by decide +kernel⟩
abbrev s_Row___iadd__ : Stmt := inClass (topS 24) 11
abbrev N_Row___iadd__ : List Str := ["self", "x"]
theorem sc_Row___iadd__ : FnScope N_Row___iadd__ ["self", "x"] (defScope s_Row___iadd__) := ⟨rfl, rfl, rfl, by decide +kernel, rfl, by decide +kernel, by decide +kernel⟩
abbrev s__law_pot : Stmt := topS 26
abbrev N__law_pot : List Str := ["_law_script", "_law_k", "_law_cell", "_law_own"]
theorem sc__law_pot : FnScope N__law_pot ["_law_script", "_law_k"] (defScope s__law_pot) := ⟨rfl, rfl, rfl, by decide +kernel, rfl, by decide +kernel, by decide +kernel⟩
abbrev s__law_take : Stmt := topS 27
abbrev N__law_take : List Str := ["_law_pot_here", "_law_upto", "_law_digit", "_law_prime", "_law_mixed"]
theorem sc__law_take : FnScope N__law_take ["_law_pot_here", "_law_upto"] (defScope s__law_take) := ⟨rfl, rfl, rfl, by decide +kernel, rfl, by decide +kernel, by decide +kernel⟩
abbrev s__law_number : Stmt := topS 29
abbrev N__law_number : List Str := ["_law_pot_here", "_law_size", "_law_worth"]
theorem sc__law_number : FnScope N__law_number ["_law_pot_here", "_law_size"] (defScope s__law_number) := ⟨rfl, rfl, rfl, by decide +kernel, rfl, by decide +kernel, by decide +kernel⟩
abbrev s__law_read : Stmt := topS 30
abbrev N__law_read : List Str := ["_law_row", "_law_at", "_law_told", "fault"]
theorem sc__law_read : FnScope N__law_read ["_law_row", "_law_at"] (defScope s__law_read) := ⟨rfl, rfl, rfl, by decide +kernel, rfl, by decide +kernel, by decide +kernel⟩
abbrev s__law_set : Stmt := topS 31
abbrev N__law_set : List Str := ["_law_row", "_law_at", "_law_x", "fault"]
theorem sc__law_set : FnScope N__law_set ["_law_row", "_law_at", "_law_x"] (defScope s__law_set) := ⟨rfl, rfl, rfl, by decide +kernel, rfl, by decide +kernel, by decide +kernel⟩
abbrev s__law_pushed : Stmt := topS 32
abbrev N__law_pushed : List Str := ["_law_row", "_law_x", "_law_other", "fault"]
theorem sc__law_pushed : FnScope N__law_pushed ["_law_row", "_law_x"] (defScope s__law_pushed) := ⟨rfl, rfl, rfl, by decide +kernel, rfl, by decide +kernel, by decide +kernel⟩
abbrev s__law_deed_right : Stmt := topS 33
abbrev N__law_deed_right : List Str := ["_law_pot_here", "_law_row", "_law_mine", "_law_lore", "_law_size", "_law_most", "_law_way", "_law_at", "_law_spot", "_law_x", "_law_worth", "_law_due", "_law_told"]
theorem sc__law_deed_right : FnScope N__law_deed_right ["_law_pot_here", "_law_row", "_law_mine", "_law_lore"] (defScope s__law_deed_right) := ⟨rfl, rfl, rfl, by decide +kernel, rfl, by decide +kernel, by decide +kernel⟩
abbrev s__law_row_right : Stmt := topS 34
abbrev N__law_row_right : List Str := ["_law_pot_here", "_law_size", "_law_most", "_law_mine", "_law_begun", "_law_row", "_law_mate", "_law_turn", "_law_lap"]
theorem sc__law_row_right : FnScope N__law_row_right ["_law_pot_here"] (defScope s__law_row_right) := ⟨rfl, rfl, rfl, by decide +kernel, rfl, by decide +kernel, by decide +kernel⟩
abbrev s_law : Stmt := topS 35
abbrev N_law : List Str := ["_law_script", "_law_k", "_law_pot_here", "_law_turn"]
theorem sc_law : FnScope N_law ["_law_script"] (defScope s_law) := ⟨rfl, rfl, rfl, by decide +kernel, rfl, by decide +kernel, by decide +kernel⟩
structure Tx (P : Program) (K : PySem.W.Frag) (mg : Str → Option Value) where
  C_Number : Addr
  Number_mg : mg "Number" = some (.ref C_Number)
  C_Row : Addr
  Row_mg : mg "Row" = some (.ref C_Row)
  C_Fault : Addr
  Fault_mg : mg "Fault" = some (.ref C_Fault)
  Number_cl : Cls K C_Number
  Number_ty : (PySem.W.clsIn K C_Number).isSome = true ∧ PySem.W.typeIn K (.ref C_Number) = some (.type "type")
  Row_cl : Cls K C_Row
  Row_ty : (PySem.W.clsIn K C_Row).isSome = true ∧ PySem.W.typeIn K (.ref C_Row) = some (.type "type")
  F_is_integer : Addr
  fd_is_integer : FuncData
  is_integer_ok : Fun K "is_integer" "is_integer" s_is_integer F_is_integer fd_is_integer
  b_is_integer : Binds K fd_is_integer ["value"] []
  is_integer_mg : mg "is_integer" = some (.ref F_is_integer)
  F_is_from : Addr
  fd_is_from : FuncData
  is_from_ok : Fun K "is_from" "is_from" s_is_from F_is_from fd_is_from
  b_is_from : Binds K fd_is_from ["value", "low", "high"] []
  is_from_mg : mg "is_from" = some (.ref F_is_from)
  F_worth_of : Addr
  fd_worth_of : FuncData
  worth_of_ok : Fun K "worth_of" "worth_of" s_worth_of F_worth_of fd_worth_of
  b_worth_of : Binds K fd_worth_of ["number"] []
  worth_of_mg : mg "worth_of" = some (.ref F_worth_of)
  F_Number___init__ : Addr
  fd_Number___init__ : FuncData
  Number___init___ok : Fun K "__init__" "Number.__init__" s_Number___init__ F_Number___init__ fd_Number___init__
  b_Number___init__ : Binds K fd_Number___init__ ["self", "size", "worth"] []
  Number___init___sl : SlotF K C_Number "__init__" F_Number___init__
  Number_mk : Mk K C_Number F_Number___init__
  F_Number_size : Addr
  fd_Number_size : FuncData
  Number_size_ok : Fun K "size" "Number.size" s_Number_size F_Number_size fd_Number_size
  b_Number_size : Binds K fd_Number_size ["self"] []
  pr_Number_size : Addr
  Number_size_pr : PropOf K C_Number "size" pr_Number_size F_Number_size
  F_Number_worth : Addr
  fd_Number_worth : FuncData
  Number_worth_ok : Fun K "worth" "Number.worth" s_Number_worth F_Number_worth fd_Number_worth
  b_Number_worth : Binds K fd_Number_worth ["self"] []
  pr_Number_worth : Addr
  Number_worth_pr : PropOf K C_Number "worth" pr_Number_worth F_Number_worth
  F_are_items : Addr
  fd_are_items : FuncData
  are_items_ok : Fun K "are_items" "are_items" s_are_items F_are_items fd_are_items
  b_are_items : Binds K fd_are_items ["size", "most", "value"] []
  are_items_mg : mg "are_items" = some (.ref F_are_items)
  F_Row___init__ : Addr
  fd_Row___init__ : FuncData
  Row___init___ok : Fun K "__init__" "Row.__init__" s_Row___init__ F_Row___init__ fd_Row___init__
  b_Row___init__ : Binds K fd_Row___init__ ["self", "size", "most", "items"] []
  Row___init___sl : SlotF K C_Row "__init__" F_Row___init__
  Row_mk : Mk K C_Row F_Row___init__
  F_Row_worths : Addr
  fd_Row_worths : FuncData
  Row_worths_ok : Fun K "worths" "Row.worths" s_Row_worths F_Row_worths fd_Row_worths
  b_Row_worths : Binds K fd_Row_worths ["self"] []
  pr_Row_worths : Addr
  Row_worths_pr : PropOf K C_Row "worths" pr_Row_worths F_Row_worths
  F_Row___len__ : Addr
  fd_Row___len__ : FuncData
  Row___len___ok : Fun K "__len__" "Row.__len__" s_Row___len__ F_Row___len__ fd_Row___len__
  b_Row___len__ : Binds K fd_Row___len__ ["self"] []
  Row___len___sl : SlotF K C_Row "__len__" F_Row___len__
  F_Row_has : Addr
  fd_Row_has : FuncData
  Row_has_ok : Fun K "has" "Row.has" s_Row_has F_Row_has fd_Row_has
  b_Row_has : Binds K fd_Row_has ["self", "i"] []
  Row_has_sl : SlotF K C_Row "has" F_Row_has
  F_Row_worth_at : Addr
  fd_Row_worth_at : FuncData
  Row_worth_at_ok : FunD K "worth_at" "Row.worth_at" (defArgs s_Row_worth_at) (defBody s_Row_worth_at) (defScope s_Row_worth_at) [.non] [] F_Row_worth_at fd_Row_worth_at
  Row_worth_at_sl : SlotF K C_Row "worth_at" F_Row_worth_at
  F_Row_lay : Addr
  fd_Row_lay : FuncData
  Row_lay_ok : FunD K "lay" "Row.lay" (defArgs s_Row_lay) (defBody s_Row_lay) (defScope s_Row_lay) [.non] [] F_Row_lay fd_Row_lay
  Row_lay_sl : SlotF K C_Row "lay" F_Row_lay
  F_Row_push : Addr
  fd_Row_push : FuncData
  Row_push_ok : FunD K "push" "Row.push" (defArgs s_Row_push) (defBody s_Row_push) (defScope s_Row_push) [.non] [] F_Row_push fd_Row_push
  Row_push_sl : SlotF K C_Row "push" F_Row_push
  F_Row_count : Addr
  fd_Row_count : FuncData
  Row_count_ok : Fun K "count" "Row.count" s_Row_count F_Row_count fd_Row_count
  b_Row_count : Binds K fd_Row_count ["self"] []
  Row_count_sl : SlotF K C_Row "count" F_Row_count
  F_Row___getitem__ : Addr
  fd_Row___getitem__ : FuncData
  Row___getitem___ok : Fun K "__getitem__" "Row.__getitem__" s_Row___getitem__ F_Row___getitem__ fd_Row___getitem__
  b_Row___getitem__ : Binds K fd_Row___getitem__ ["self", "i"] []
  Row___getitem___sl : SlotF K C_Row "__getitem__" F_Row___getitem__
  F_Row___setitem__ : Addr
  fd_Row___setitem__ : FuncData
  Row___setitem___ok : Fun K "__setitem__" "Row.__setitem__" s_Row___setitem__ F_Row___setitem__ fd_Row___setitem__
  b_Row___setitem__ : Binds K fd_Row___setitem__ ["self", "i", "x"] []
  Row___setitem___sl : SlotF K C_Row "__setitem__" F_Row___setitem__
  F_Row___iadd__ : Addr
  fd_Row___iadd__ : FuncData
  Row___iadd___ok : Fun K "__iadd__" "Row.__iadd__" s_Row___iadd__ F_Row___iadd__ fd_Row___iadd__
  b_Row___iadd__ : Binds K fd_Row___iadd__ ["self", "x"] []
  Row___iadd___sl : SlotF K C_Row "__iadd__" F_Row___iadd__
  F__law_pot : Addr
  fd__law_pot : FuncData
  _law_pot_ok : Fun K "_law_pot" "_law_pot" s__law_pot F__law_pot fd__law_pot
  b__law_pot : Binds K fd__law_pot ["_law_script", "_law_k"] []
  _law_pot_mg : mg "_law_pot" = some (.ref F__law_pot)
  F__law_take : Addr
  fd__law_take : FuncData
  _law_take_ok : Fun K "_law_take" "_law_take" s__law_take F__law_take fd__law_take
  b__law_take : Binds K fd__law_take ["_law_pot_here", "_law_upto"] []
  _law_take_mg : mg "_law_take" = some (.ref F__law_take)
  F__law_number : Addr
  fd__law_number : FuncData
  _law_number_ok : Fun K "_law_number" "_law_number" s__law_number F__law_number fd__law_number
  b__law_number : Binds K fd__law_number ["_law_pot_here", "_law_size"] []
  _law_number_mg : mg "_law_number" = some (.ref F__law_number)
  F__law_read : Addr
  fd__law_read : FuncData
  _law_read_ok : Fun K "_law_read" "_law_read" s__law_read F__law_read fd__law_read
  b__law_read : Binds K fd__law_read ["_law_row", "_law_at"] []
  _law_read_mg : mg "_law_read" = some (.ref F__law_read)
  F__law_set : Addr
  fd__law_set : FuncData
  _law_set_ok : Fun K "_law_set" "_law_set" s__law_set F__law_set fd__law_set
  b__law_set : Binds K fd__law_set ["_law_row", "_law_at", "_law_x"] []
  _law_set_mg : mg "_law_set" = some (.ref F__law_set)
  F__law_pushed : Addr
  fd__law_pushed : FuncData
  _law_pushed_ok : Fun K "_law_pushed" "_law_pushed" s__law_pushed F__law_pushed fd__law_pushed
  b__law_pushed : Binds K fd__law_pushed ["_law_row", "_law_x"] []
  _law_pushed_mg : mg "_law_pushed" = some (.ref F__law_pushed)
  F__law_deed_right : Addr
  fd__law_deed_right : FuncData
  _law_deed_right_ok : Fun K "_law_deed_right" "_law_deed_right" s__law_deed_right F__law_deed_right fd__law_deed_right
  b__law_deed_right : Binds K fd__law_deed_right ["_law_pot_here", "_law_row", "_law_mine", "_law_lore"] []
  _law_deed_right_mg : mg "_law_deed_right" = some (.ref F__law_deed_right)
  F__law_row_right : Addr
  fd__law_row_right : FuncData
  _law_row_right_ok : Fun K "_law_row_right" "_law_row_right" s__law_row_right F__law_row_right fd__law_row_right
  b__law_row_right : Binds K fd__law_row_right ["_law_pot_here"] []
  _law_row_right_mg : mg "_law_row_right" = some (.ref F__law_row_right)
  F_law : Addr
  fd_law : FuncData
  law_ok : Fun K "law" "law" s_law F_law fd_law
  b_law : Binds K fd_law ["_law_script"] []
  law_mg : mg "law" = some (.ref F_law)
  Fault_err : Err P K mg "Fault" ["words", "what"] C_Fault
  Fault_xf : XfC K C_Fault
  Fault_no0 : PySem.W.findIn K (.ref C_Fault) "words" = some none
  Fault_no1 : PySem.W.findIn K (.ref C_Fault) "what" = some none
  Fault_te : PySem.W.exmOne K (.ref C_Fault) (.ref C_Fault) = some true
  b_int : mg "int" = none
  b_bool : mg "bool" = none
  b_abs : mg "abs" = none
  b_len : mg "len" = none
  b_isinstance : mg "isinstance" = none
  b_repr : mg "repr" = none
  b_all : mg "all" = none
  b_range : mg "range" = none
  b_tuple : mg "tuple" = none
  tk_LEAST_SIZE : Tok
  k_LEAST_SIZE : mg "LEAST_SIZE" = some (.int 2 tk_LEAST_SIZE)
  tk_MOST_SIZE : Tok
  k_MOST_SIZE : mg "MOST_SIZE" = some (.int 4 tk_MOST_SIZE)
  tk_INDEX : Tok
  k_INDEX : mg "INDEX" = some (.str "index" tk_INDEX)
  tk_FULL : Tok
  k_FULL : mg "FULL" = some (.str "full" tk_FULL)
  tk_LEAST_MOST : Tok
  k_LEAST_MOST : mg "LEAST_MOST" = some (.int 1 tk_LEAST_MOST)
  tk_GREATEST_MOST : Tok
  k_GREATEST_MOST : mg "GREATEST_MOST" = some (.int 2 tk_GREATEST_MOST)
  x_cg : PySem.W.specialIn K (.builtin "object.__class__") "__get__" = some (some (.builtin "getset_descriptor.__get__"))
  x_cc : PySem.W.findIn K (.ref C_Number) "__class__" = some (some (.builtin "object.__class__"))
  x_ct : PySem.W.takesIn K (.builtin "object.__class__") = some true
  x_cm : PySem.W.mroIn K C_Number (.type "object") = some true
  x_rcc : PySem.W.findIn K (.ref C_Row) "__class__" = some (some (.builtin "object.__class__"))
  x_rct : PySem.W.takesIn K (.builtin "object.__class__") = some true
  x_rcm : PySem.W.mroIn K C_Row (.type "object") = some true
  x_s1 : PySem.W.subIn K (.type "int") (.ref C_Number) = some false
  x_s3 : PySem.W.subIn K (.ref C_Number) (.ref C_Number) = some true
  x_r3 : PySem.W.subIn K (.ref C_Row) (.ref C_Row) = some true
  x_nS : PySem.W.findIn K (.ref C_Number) "own_size" = some none
  x_nW : PySem.W.findIn K (.ref C_Number) "own_worth" = some none
  x_n_size : PySem.W.findIn K (.ref C_Row) "own_size" = some none
  x_n_most : PySem.W.findIn K (.ref C_Row) "own_most" = some none
  x_n_worths : PySem.W.findIn K (.ref C_Row) "own_worths" = some none
  x_n_counter : PySem.W.findIn K (.ref C_Row) "own_counter" = some none
  x_n_name : PySem.W.findIn K (.ref C_Row) "own_name" = some none
  x_fget : PySem.W.fnIn K F_Row___getitem__ = true
  x_nsq : PySem.W.noSeq K C_Row = true
  x_rslf : PySem.W.selfFirst K C_Row = true
def tx_mk {P : Program} {K : PySem.W.Frag} {h : Heap} {mg : Str → Option Value} {C_Number : Addr} {C_Row : Addr} {C_Fault : Addr} {F_is_integer : Addr} {oc_is_integer kV_is_integer dc_is_integer pm_is_integer cd_is_integer ct_is_integer : Value} {od_is_integer an_is_integer : Option Addr} {sl_is_integer : Array (Option Value)} {F_is_from : Addr} {oc_is_from kV_is_from dc_is_from pm_is_from cd_is_from ct_is_from : Value} {od_is_from an_is_from : Option Addr} {sl_is_from : Array (Option Value)} {F_worth_of : Addr} {oc_worth_of kV_worth_of dc_worth_of pm_worth_of cd_worth_of ct_worth_of : Value} {od_worth_of an_worth_of : Option Addr} {sl_worth_of : Array (Option Value)} {F_Number___init__ : Addr} {oc_Number___init__ kV_Number___init__ dc_Number___init__ pm_Number___init__ cd_Number___init__ ct_Number___init__ : Value} {od_Number___init__ an_Number___init__ : Option Addr} {sl_Number___init__ : Array (Option Value)} {F_Number_size : Addr} {oc_Number_size kV_Number_size dc_Number_size pm_Number_size cd_Number_size ct_Number_size : Value} {od_Number_size an_Number_size : Option Addr} {sl_Number_size : Array (Option Value)} {pr_Number_size : Addr} {rs_Number_size : List Value} {F_Number_worth : Addr} {oc_Number_worth kV_Number_worth dc_Number_worth pm_Number_worth cd_Number_worth ct_Number_worth : Value} {od_Number_worth an_Number_worth : Option Addr} {sl_Number_worth : Array (Option Value)} {pr_Number_worth : Addr} {rs_Number_worth : List Value} {F_are_items : Addr} {oc_are_items kV_are_items dc_are_items pm_are_items cd_are_items ct_are_items : Value} {od_are_items an_are_items : Option Addr} {sl_are_items : Array (Option Value)} {F_Row___init__ : Addr} {oc_Row___init__ kV_Row___init__ dc_Row___init__ pm_Row___init__ cd_Row___init__ ct_Row___init__ : Value} {od_Row___init__ an_Row___init__ : Option Addr} {sl_Row___init__ : Array (Option Value)} {F_Row_worths : Addr} {oc_Row_worths kV_Row_worths dc_Row_worths pm_Row_worths cd_Row_worths ct_Row_worths : Value} {od_Row_worths an_Row_worths : Option Addr} {sl_Row_worths : Array (Option Value)} {pr_Row_worths : Addr} {rs_Row_worths : List Value} {F_Row___len__ : Addr} {oc_Row___len__ kV_Row___len__ dc_Row___len__ pm_Row___len__ cd_Row___len__ ct_Row___len__ : Value} {od_Row___len__ an_Row___len__ : Option Addr} {sl_Row___len__ : Array (Option Value)} {F_Row_has : Addr} {oc_Row_has kV_Row_has dc_Row_has pm_Row_has cd_Row_has ct_Row_has : Value} {od_Row_has an_Row_has : Option Addr} {sl_Row_has : Array (Option Value)} {F_Row_worth_at : Addr} {oc_Row_worth_at kV_Row_worth_at dc_Row_worth_at pm_Row_worth_at cd_Row_worth_at ct_Row_worth_at : Value} {od_Row_worth_at an_Row_worth_at : Option Addr} {sl_Row_worth_at : Array (Option Value)} {dV_Row_worth_at : Value} {tT_Row_worth_at : Addr} {to_Row_worth_at : Obj} {ti_Row_worth_at : List Value} {tn_Row_worth_at : Nat} {F_Row_lay : Addr} {oc_Row_lay kV_Row_lay dc_Row_lay pm_Row_lay cd_Row_lay ct_Row_lay : Value} {od_Row_lay an_Row_lay : Option Addr} {sl_Row_lay : Array (Option Value)} {dV_Row_lay : Value} {tT_Row_lay : Addr} {to_Row_lay : Obj} {ti_Row_lay : List Value} {tn_Row_lay : Nat} {F_Row_push : Addr} {oc_Row_push kV_Row_push dc_Row_push pm_Row_push cd_Row_push ct_Row_push : Value} {od_Row_push an_Row_push : Option Addr} {sl_Row_push : Array (Option Value)} {dV_Row_push : Value} {tT_Row_push : Addr} {to_Row_push : Obj} {ti_Row_push : List Value} {tn_Row_push : Nat} {F_Row_count : Addr} {oc_Row_count kV_Row_count dc_Row_count pm_Row_count cd_Row_count ct_Row_count : Value} {od_Row_count an_Row_count : Option Addr} {sl_Row_count : Array (Option Value)} {F_Row___getitem__ : Addr} {oc_Row___getitem__ kV_Row___getitem__ dc_Row___getitem__ pm_Row___getitem__ cd_Row___getitem__ ct_Row___getitem__ : Value} {od_Row___getitem__ an_Row___getitem__ : Option Addr} {sl_Row___getitem__ : Array (Option Value)} {F_Row___setitem__ : Addr} {oc_Row___setitem__ kV_Row___setitem__ dc_Row___setitem__ pm_Row___setitem__ cd_Row___setitem__ ct_Row___setitem__ : Value} {od_Row___setitem__ an_Row___setitem__ : Option Addr} {sl_Row___setitem__ : Array (Option Value)} {F_Row___iadd__ : Addr} {oc_Row___iadd__ kV_Row___iadd__ dc_Row___iadd__ pm_Row___iadd__ cd_Row___iadd__ ct_Row___iadd__ : Value} {od_Row___iadd__ an_Row___iadd__ : Option Addr} {sl_Row___iadd__ : Array (Option Value)} {F__law_pot : Addr} {oc__law_pot kV__law_pot dc__law_pot pm__law_pot cd__law_pot ct__law_pot : Value} {od__law_pot an__law_pot : Option Addr} {sl__law_pot : Array (Option Value)} {F__law_take : Addr} {oc__law_take kV__law_take dc__law_take pm__law_take cd__law_take ct__law_take : Value} {od__law_take an__law_take : Option Addr} {sl__law_take : Array (Option Value)} {F__law_number : Addr} {oc__law_number kV__law_number dc__law_number pm__law_number cd__law_number ct__law_number : Value} {od__law_number an__law_number : Option Addr} {sl__law_number : Array (Option Value)} {F__law_read : Addr} {oc__law_read kV__law_read dc__law_read pm__law_read cd__law_read ct__law_read : Value} {od__law_read an__law_read : Option Addr} {sl__law_read : Array (Option Value)} {F__law_set : Addr} {oc__law_set kV__law_set dc__law_set pm__law_set cd__law_set ct__law_set : Value} {od__law_set an__law_set : Option Addr} {sl__law_set : Array (Option Value)} {F__law_pushed : Addr} {oc__law_pushed kV__law_pushed dc__law_pushed pm__law_pushed cd__law_pushed ct__law_pushed : Value} {od__law_pushed an__law_pushed : Option Addr} {sl__law_pushed : Array (Option Value)} {F__law_deed_right : Addr} {oc__law_deed_right kV__law_deed_right dc__law_deed_right pm__law_deed_right cd__law_deed_right ct__law_deed_right : Value} {od__law_deed_right an__law_deed_right : Option Addr} {sl__law_deed_right : Array (Option Value)} {F__law_row_right : Addr} {oc__law_row_right kV__law_row_right dc__law_row_right pm__law_row_right cd__law_row_right ct__law_row_right : Value} {od__law_row_right an__law_row_right : Option Addr} {sl__law_row_right : Array (Option Value)} {F_law : Addr} {oc_law kV_law dc_law pm_law cd_law ct_law : Value} {od_law an_law : Option Addr} {sl_law : Array (Option Value)} {eI_Fault ecd_Fault ecc_Fault : Addr} {eoc_Fault ekV_Fault edc_Fault epm_Fault ect_Fault edV_Fault : Value} {eod_Fault ean_Fault : Option Addr} {esl_Fault : Array (Option Value)} {enm_Fault eq_Fault : Str} {eN_Fault : Addr} {ebs_Fault ebm_Fault : List Value} {esn_Fault : List Str} {esb_Fault : List Value} {eab_Fault : Bool} {ecol_Fault : Option Bool} {edd_Fault : Option Addr} {ek0_Fault ek1_Fault ek2_Fault ek3_Fault ek5_Fault : Option Value} {eccl_Fault : Value} {ecdd_Fault : Option Addr} {evs_Fault : Array Value} {eccs_Fault : Array (Option Value)} {efile_Fault : Str} {etf_Fault : Tok} {ecl_Fault : Value} {ecld_Fault : Option Addr} {ecsl_Fault : Array (Option Value)} {tT_Fault : Addr} {to_Fault : Obj} {ti_Fault : List Value} {tn_Fault : Nat} {tk_LEAST_SIZE : Tok} {tk_MOST_SIZE : Tok} {tk_INDEX : Tok} {tk_FULL : Tok} {tk_LEAST_MOST : Tok} {tk_GREATEST_MOST : Tok} (X : K.In h) (G : h.Ns mainGlobals mg) (hP : (P.main.scope.names.lookup ("super" : Str)).isSome = false ∧ True)
  (a_Number : PySem.W.nsIn K mainGlobals "Number" = some (some (.ref C_Number)))
  (a_Row : PySem.W.nsIn K mainGlobals "Row" = some (some (.ref C_Row)))
  (a_Fault : PySem.W.nsIn K mainGlobals "Fault" = some (some (.ref C_Fault)))
  (pg_Number : PySem.W.plainGet K C_Number Str.empty = true)
  (hd_Number : PySem.W.hasDictIn K C_Number = true)
  (po_Number : PySem.W.plainOver K C_Number = true)
  (sa_Number : PySem.W.findIn K (.ref C_Number) "__setattr__" = some (some (.builtin "object.__setattr__")))
  (kc_Number : PySem.W.keepIn K (.ref C_Number) = true)
  (tc_Number : PySem.W.typeIn K (.ref C_Number) = some (.type "type"))
  (mk_Number : PySem.W.makesIn K C_Number = true)
  (pg_Row : PySem.W.plainGet K C_Row Str.empty = true)
  (hd_Row : PySem.W.hasDictIn K C_Row = true)
  (po_Row : PySem.W.plainOver K C_Row = true)
  (sa_Row : PySem.W.findIn K (.ref C_Row) "__setattr__" = some (some (.builtin "object.__setattr__")))
  (kc_Row : PySem.W.keepIn K (.ref C_Row) = true)
  (tc_Row : PySem.W.typeIn K (.ref C_Row) = some (.type "type"))
  (mk_Row : PySem.W.makesIn K C_Row = true)
  (g_is_integer : PySem.W.nsIn K mainGlobals "is_integer" = some (some (.ref F_is_integer)))
  (l_is_integer : K.lookup F_is_integer = some ⟨oc_is_integer, od_is_integer, .func (PySem.W.fnOf "is_integer" "is_integer" (defArgs s_is_integer) (defBody s_is_integer) (defScope s_is_integer) .none kV_is_integer dc_is_integer pm_is_integer an_is_integer cd_is_integer ct_is_integer), sl_is_integer⟩)
  (c_is_integer : PySem.W.codeIn K cd_is_integer "is_integer" = true)
  (k_is_integer : PySem.W.keepIn K (.ref F_is_integer) = true)
  (g_is_from : PySem.W.nsIn K mainGlobals "is_from" = some (some (.ref F_is_from)))
  (l_is_from : K.lookup F_is_from = some ⟨oc_is_from, od_is_from, .func (PySem.W.fnOf "is_from" "is_from" (defArgs s_is_from) (defBody s_is_from) (defScope s_is_from) .none kV_is_from dc_is_from pm_is_from an_is_from cd_is_from ct_is_from), sl_is_from⟩)
  (c_is_from : PySem.W.codeIn K cd_is_from "is_from" = true)
  (k_is_from : PySem.W.keepIn K (.ref F_is_from) = true)
  (g_worth_of : PySem.W.nsIn K mainGlobals "worth_of" = some (some (.ref F_worth_of)))
  (l_worth_of : K.lookup F_worth_of = some ⟨oc_worth_of, od_worth_of, .func (PySem.W.fnOf "worth_of" "worth_of" (defArgs s_worth_of) (defBody s_worth_of) (defScope s_worth_of) .none kV_worth_of dc_worth_of pm_worth_of an_worth_of cd_worth_of ct_worth_of), sl_worth_of⟩)
  (c_worth_of : PySem.W.codeIn K cd_worth_of "worth_of" = true)
  (k_worth_of : PySem.W.keepIn K (.ref F_worth_of) = true)
  (g_Number___init__ : PySem.W.findIn K (.ref C_Number) "__init__" = some (some (.ref F_Number___init__)))
  (i_Number___init__ : PySem.W.isFn K (.ref F_Number___init__) = true)
  (l_Number___init__ : K.lookup F_Number___init__ = some ⟨oc_Number___init__, od_Number___init__, .func (PySem.W.fnOf "__init__" "Number.__init__" (defArgs s_Number___init__) (defBody s_Number___init__) (defScope s_Number___init__) .none kV_Number___init__ dc_Number___init__ pm_Number___init__ an_Number___init__ cd_Number___init__ ct_Number___init__), sl_Number___init__⟩)
  (c_Number___init__ : PySem.W.codeIn K cd_Number___init__ "Number.__init__" = true)
  (k_Number___init__ : PySem.W.keepIn K (.ref F_Number___init__) = true)
  (g_Number_size : PySem.W.findIn K (.ref C_Number) "size" = some (some (.ref pr_Number_size)))
  (gg_Number_size : PySem.W.specialIn K (.ref pr_Number_size) "__get__" = some (some (.builtin "property.__get__")))
  (gt_Number_size : PySem.W.takesIn K (.ref pr_Number_size) = some true)
  (gr_Number_size : PySem.W.recIn K pr_Number_size "property" = some (.ref F_Number_size :: rs_Number_size))
  (l_Number_size : K.lookup F_Number_size = some ⟨oc_Number_size, od_Number_size, .func (PySem.W.fnOf "size" "Number.size" (defArgs s_Number_size) (defBody s_Number_size) (defScope s_Number_size) .none kV_Number_size dc_Number_size pm_Number_size an_Number_size cd_Number_size ct_Number_size), sl_Number_size⟩)
  (c_Number_size : PySem.W.codeIn K cd_Number_size "Number.size" = true)
  (k_Number_size : PySem.W.keepIn K (.ref F_Number_size) = true)
  (g_Number_worth : PySem.W.findIn K (.ref C_Number) "worth" = some (some (.ref pr_Number_worth)))
  (gg_Number_worth : PySem.W.specialIn K (.ref pr_Number_worth) "__get__" = some (some (.builtin "property.__get__")))
  (gt_Number_worth : PySem.W.takesIn K (.ref pr_Number_worth) = some true)
  (gr_Number_worth : PySem.W.recIn K pr_Number_worth "property" = some (.ref F_Number_worth :: rs_Number_worth))
  (l_Number_worth : K.lookup F_Number_worth = some ⟨oc_Number_worth, od_Number_worth, .func (PySem.W.fnOf "worth" "Number.worth" (defArgs s_Number_worth) (defBody s_Number_worth) (defScope s_Number_worth) .none kV_Number_worth dc_Number_worth pm_Number_worth an_Number_worth cd_Number_worth ct_Number_worth), sl_Number_worth⟩)
  (c_Number_worth : PySem.W.codeIn K cd_Number_worth "Number.worth" = true)
  (k_Number_worth : PySem.W.keepIn K (.ref F_Number_worth) = true)
  (g_are_items : PySem.W.nsIn K mainGlobals "are_items" = some (some (.ref F_are_items)))
  (l_are_items : K.lookup F_are_items = some ⟨oc_are_items, od_are_items, .func (PySem.W.fnOf "are_items" "are_items" (defArgs s_are_items) (defBody s_are_items) (defScope s_are_items) .none kV_are_items dc_are_items pm_are_items an_are_items cd_are_items ct_are_items), sl_are_items⟩)
  (c_are_items : PySem.W.codeIn K cd_are_items "are_items" = true)
  (k_are_items : PySem.W.keepIn K (.ref F_are_items) = true)
  (g_Row___init__ : PySem.W.findIn K (.ref C_Row) "__init__" = some (some (.ref F_Row___init__)))
  (i_Row___init__ : PySem.W.isFn K (.ref F_Row___init__) = true)
  (l_Row___init__ : K.lookup F_Row___init__ = some ⟨oc_Row___init__, od_Row___init__, .func (PySem.W.fnOf "__init__" "Row.__init__" (defArgs s_Row___init__) (defBody s_Row___init__) (defScope s_Row___init__) .none kV_Row___init__ dc_Row___init__ pm_Row___init__ an_Row___init__ cd_Row___init__ ct_Row___init__), sl_Row___init__⟩)
  (c_Row___init__ : PySem.W.codeIn K cd_Row___init__ "Row.__init__" = true)
  (k_Row___init__ : PySem.W.keepIn K (.ref F_Row___init__) = true)
  (g_Row_worths : PySem.W.findIn K (.ref C_Row) "worths" = some (some (.ref pr_Row_worths)))
  (gg_Row_worths : PySem.W.specialIn K (.ref pr_Row_worths) "__get__" = some (some (.builtin "property.__get__")))
  (gt_Row_worths : PySem.W.takesIn K (.ref pr_Row_worths) = some true)
  (gr_Row_worths : PySem.W.recIn K pr_Row_worths "property" = some (.ref F_Row_worths :: rs_Row_worths))
  (l_Row_worths : K.lookup F_Row_worths = some ⟨oc_Row_worths, od_Row_worths, .func (PySem.W.fnOf "worths" "Row.worths" (defArgs s_Row_worths) (defBody s_Row_worths) (defScope s_Row_worths) .none kV_Row_worths dc_Row_worths pm_Row_worths an_Row_worths cd_Row_worths ct_Row_worths), sl_Row_worths⟩)
  (c_Row_worths : PySem.W.codeIn K cd_Row_worths "Row.worths" = true)
  (k_Row_worths : PySem.W.keepIn K (.ref F_Row_worths) = true)
  (g_Row___len__ : PySem.W.findIn K (.ref C_Row) "__len__" = some (some (.ref F_Row___len__)))
  (i_Row___len__ : PySem.W.isFn K (.ref F_Row___len__) = true)
  (l_Row___len__ : K.lookup F_Row___len__ = some ⟨oc_Row___len__, od_Row___len__, .func (PySem.W.fnOf "__len__" "Row.__len__" (defArgs s_Row___len__) (defBody s_Row___len__) (defScope s_Row___len__) .none kV_Row___len__ dc_Row___len__ pm_Row___len__ an_Row___len__ cd_Row___len__ ct_Row___len__), sl_Row___len__⟩)
  (c_Row___len__ : PySem.W.codeIn K cd_Row___len__ "Row.__len__" = true)
  (k_Row___len__ : PySem.W.keepIn K (.ref F_Row___len__) = true)
  (g_Row_has : PySem.W.findIn K (.ref C_Row) "has" = some (some (.ref F_Row_has)))
  (i_Row_has : PySem.W.isFn K (.ref F_Row_has) = true)
  (l_Row_has : K.lookup F_Row_has = some ⟨oc_Row_has, od_Row_has, .func (PySem.W.fnOf "has" "Row.has" (defArgs s_Row_has) (defBody s_Row_has) (defScope s_Row_has) .none kV_Row_has dc_Row_has pm_Row_has an_Row_has cd_Row_has ct_Row_has), sl_Row_has⟩)
  (c_Row_has : PySem.W.codeIn K cd_Row_has "Row.has" = true)
  (k_Row_has : PySem.W.keepIn K (.ref F_Row_has) = true)
  (g_Row_worth_at : PySem.W.findIn K (.ref C_Row) "worth_at" = some (some (.ref F_Row_worth_at)))
  (i_Row_worth_at : PySem.W.isFn K (.ref F_Row_worth_at) = true)
  (l_Row_worth_at : K.lookup F_Row_worth_at = some ⟨oc_Row_worth_at, od_Row_worth_at, .func (PySem.W.fnOf "worth_at" "Row.worth_at" (defArgs s_Row_worth_at) (defBody s_Row_worth_at) (defScope s_Row_worth_at) dV_Row_worth_at kV_Row_worth_at dc_Row_worth_at pm_Row_worth_at an_Row_worth_at cd_Row_worth_at ct_Row_worth_at), sl_Row_worth_at⟩)
  (c_Row_worth_at : PySem.W.codeIn K cd_Row_worth_at "Row.worth_at" = true)
  (k_Row_worth_at : PySem.W.keepIn K (.ref F_Row_worth_at) = true)
  (dV1_Row_worth_at : dV_Row_worth_at = .ref tT_Row_worth_at)
  (dV2_Row_worth_at : K.lookup tT_Row_worth_at = some to_Row_worth_at)
  (dV3_Row_worth_at : to_Row_worth_at.data = .seq ti_Row_worth_at.toArray tn_Row_worth_at)
  (dV4_Row_worth_at : Vals [.non] ti_Row_worth_at)
  (g_Row_lay : PySem.W.findIn K (.ref C_Row) "lay" = some (some (.ref F_Row_lay)))
  (i_Row_lay : PySem.W.isFn K (.ref F_Row_lay) = true)
  (l_Row_lay : K.lookup F_Row_lay = some ⟨oc_Row_lay, od_Row_lay, .func (PySem.W.fnOf "lay" "Row.lay" (defArgs s_Row_lay) (defBody s_Row_lay) (defScope s_Row_lay) dV_Row_lay kV_Row_lay dc_Row_lay pm_Row_lay an_Row_lay cd_Row_lay ct_Row_lay), sl_Row_lay⟩)
  (c_Row_lay : PySem.W.codeIn K cd_Row_lay "Row.lay" = true)
  (k_Row_lay : PySem.W.keepIn K (.ref F_Row_lay) = true)
  (dV1_Row_lay : dV_Row_lay = .ref tT_Row_lay)
  (dV2_Row_lay : K.lookup tT_Row_lay = some to_Row_lay)
  (dV3_Row_lay : to_Row_lay.data = .seq ti_Row_lay.toArray tn_Row_lay)
  (dV4_Row_lay : Vals [.non] ti_Row_lay)
  (g_Row_push : PySem.W.findIn K (.ref C_Row) "push" = some (some (.ref F_Row_push)))
  (i_Row_push : PySem.W.isFn K (.ref F_Row_push) = true)
  (l_Row_push : K.lookup F_Row_push = some ⟨oc_Row_push, od_Row_push, .func (PySem.W.fnOf "push" "Row.push" (defArgs s_Row_push) (defBody s_Row_push) (defScope s_Row_push) dV_Row_push kV_Row_push dc_Row_push pm_Row_push an_Row_push cd_Row_push ct_Row_push), sl_Row_push⟩)
  (c_Row_push : PySem.W.codeIn K cd_Row_push "Row.push" = true)
  (k_Row_push : PySem.W.keepIn K (.ref F_Row_push) = true)
  (dV1_Row_push : dV_Row_push = .ref tT_Row_push)
  (dV2_Row_push : K.lookup tT_Row_push = some to_Row_push)
  (dV3_Row_push : to_Row_push.data = .seq ti_Row_push.toArray tn_Row_push)
  (dV4_Row_push : Vals [.non] ti_Row_push)
  (g_Row_count : PySem.W.findIn K (.ref C_Row) "count" = some (some (.ref F_Row_count)))
  (i_Row_count : PySem.W.isFn K (.ref F_Row_count) = true)
  (l_Row_count : K.lookup F_Row_count = some ⟨oc_Row_count, od_Row_count, .func (PySem.W.fnOf "count" "Row.count" (defArgs s_Row_count) (defBody s_Row_count) (defScope s_Row_count) .none kV_Row_count dc_Row_count pm_Row_count an_Row_count cd_Row_count ct_Row_count), sl_Row_count⟩)
  (c_Row_count : PySem.W.codeIn K cd_Row_count "Row.count" = true)
  (k_Row_count : PySem.W.keepIn K (.ref F_Row_count) = true)
  (g_Row___getitem__ : PySem.W.findIn K (.ref C_Row) "__getitem__" = some (some (.ref F_Row___getitem__)))
  (i_Row___getitem__ : PySem.W.isFn K (.ref F_Row___getitem__) = true)
  (l_Row___getitem__ : K.lookup F_Row___getitem__ = some ⟨oc_Row___getitem__, od_Row___getitem__, .func (PySem.W.fnOf "__getitem__" "Row.__getitem__" (defArgs s_Row___getitem__) (defBody s_Row___getitem__) (defScope s_Row___getitem__) .none kV_Row___getitem__ dc_Row___getitem__ pm_Row___getitem__ an_Row___getitem__ cd_Row___getitem__ ct_Row___getitem__), sl_Row___getitem__⟩)
  (c_Row___getitem__ : PySem.W.codeIn K cd_Row___getitem__ "Row.__getitem__" = true)
  (k_Row___getitem__ : PySem.W.keepIn K (.ref F_Row___getitem__) = true)
  (g_Row___setitem__ : PySem.W.findIn K (.ref C_Row) "__setitem__" = some (some (.ref F_Row___setitem__)))
  (i_Row___setitem__ : PySem.W.isFn K (.ref F_Row___setitem__) = true)
  (l_Row___setitem__ : K.lookup F_Row___setitem__ = some ⟨oc_Row___setitem__, od_Row___setitem__, .func (PySem.W.fnOf "__setitem__" "Row.__setitem__" (defArgs s_Row___setitem__) (defBody s_Row___setitem__) (defScope s_Row___setitem__) .none kV_Row___setitem__ dc_Row___setitem__ pm_Row___setitem__ an_Row___setitem__ cd_Row___setitem__ ct_Row___setitem__), sl_Row___setitem__⟩)
  (c_Row___setitem__ : PySem.W.codeIn K cd_Row___setitem__ "Row.__setitem__" = true)
  (k_Row___setitem__ : PySem.W.keepIn K (.ref F_Row___setitem__) = true)
  (g_Row___iadd__ : PySem.W.findIn K (.ref C_Row) "__iadd__" = some (some (.ref F_Row___iadd__)))
  (i_Row___iadd__ : PySem.W.isFn K (.ref F_Row___iadd__) = true)
  (l_Row___iadd__ : K.lookup F_Row___iadd__ = some ⟨oc_Row___iadd__, od_Row___iadd__, .func (PySem.W.fnOf "__iadd__" "Row.__iadd__" (defArgs s_Row___iadd__) (defBody s_Row___iadd__) (defScope s_Row___iadd__) .none kV_Row___iadd__ dc_Row___iadd__ pm_Row___iadd__ an_Row___iadd__ cd_Row___iadd__ ct_Row___iadd__), sl_Row___iadd__⟩)
  (c_Row___iadd__ : PySem.W.codeIn K cd_Row___iadd__ "Row.__iadd__" = true)
  (k_Row___iadd__ : PySem.W.keepIn K (.ref F_Row___iadd__) = true)
  (g__law_pot : PySem.W.nsIn K mainGlobals "_law_pot" = some (some (.ref F__law_pot)))
  (l__law_pot : K.lookup F__law_pot = some ⟨oc__law_pot, od__law_pot, .func (PySem.W.fnOf "_law_pot" "_law_pot" (defArgs s__law_pot) (defBody s__law_pot) (defScope s__law_pot) .none kV__law_pot dc__law_pot pm__law_pot an__law_pot cd__law_pot ct__law_pot), sl__law_pot⟩)
  (c__law_pot : PySem.W.codeIn K cd__law_pot "_law_pot" = true)
  (k__law_pot : PySem.W.keepIn K (.ref F__law_pot) = true)
  (g__law_take : PySem.W.nsIn K mainGlobals "_law_take" = some (some (.ref F__law_take)))
  (l__law_take : K.lookup F__law_take = some ⟨oc__law_take, od__law_take, .func (PySem.W.fnOf "_law_take" "_law_take" (defArgs s__law_take) (defBody s__law_take) (defScope s__law_take) .none kV__law_take dc__law_take pm__law_take an__law_take cd__law_take ct__law_take), sl__law_take⟩)
  (c__law_take : PySem.W.codeIn K cd__law_take "_law_take" = true)
  (k__law_take : PySem.W.keepIn K (.ref F__law_take) = true)
  (g__law_number : PySem.W.nsIn K mainGlobals "_law_number" = some (some (.ref F__law_number)))
  (l__law_number : K.lookup F__law_number = some ⟨oc__law_number, od__law_number, .func (PySem.W.fnOf "_law_number" "_law_number" (defArgs s__law_number) (defBody s__law_number) (defScope s__law_number) .none kV__law_number dc__law_number pm__law_number an__law_number cd__law_number ct__law_number), sl__law_number⟩)
  (c__law_number : PySem.W.codeIn K cd__law_number "_law_number" = true)
  (k__law_number : PySem.W.keepIn K (.ref F__law_number) = true)
  (g__law_read : PySem.W.nsIn K mainGlobals "_law_read" = some (some (.ref F__law_read)))
  (l__law_read : K.lookup F__law_read = some ⟨oc__law_read, od__law_read, .func (PySem.W.fnOf "_law_read" "_law_read" (defArgs s__law_read) (defBody s__law_read) (defScope s__law_read) .none kV__law_read dc__law_read pm__law_read an__law_read cd__law_read ct__law_read), sl__law_read⟩)
  (c__law_read : PySem.W.codeIn K cd__law_read "_law_read" = true)
  (k__law_read : PySem.W.keepIn K (.ref F__law_read) = true)
  (g__law_set : PySem.W.nsIn K mainGlobals "_law_set" = some (some (.ref F__law_set)))
  (l__law_set : K.lookup F__law_set = some ⟨oc__law_set, od__law_set, .func (PySem.W.fnOf "_law_set" "_law_set" (defArgs s__law_set) (defBody s__law_set) (defScope s__law_set) .none kV__law_set dc__law_set pm__law_set an__law_set cd__law_set ct__law_set), sl__law_set⟩)
  (c__law_set : PySem.W.codeIn K cd__law_set "_law_set" = true)
  (k__law_set : PySem.W.keepIn K (.ref F__law_set) = true)
  (g__law_pushed : PySem.W.nsIn K mainGlobals "_law_pushed" = some (some (.ref F__law_pushed)))
  (l__law_pushed : K.lookup F__law_pushed = some ⟨oc__law_pushed, od__law_pushed, .func (PySem.W.fnOf "_law_pushed" "_law_pushed" (defArgs s__law_pushed) (defBody s__law_pushed) (defScope s__law_pushed) .none kV__law_pushed dc__law_pushed pm__law_pushed an__law_pushed cd__law_pushed ct__law_pushed), sl__law_pushed⟩)
  (c__law_pushed : PySem.W.codeIn K cd__law_pushed "_law_pushed" = true)
  (k__law_pushed : PySem.W.keepIn K (.ref F__law_pushed) = true)
  (g__law_deed_right : PySem.W.nsIn K mainGlobals "_law_deed_right" = some (some (.ref F__law_deed_right)))
  (l__law_deed_right : K.lookup F__law_deed_right = some ⟨oc__law_deed_right, od__law_deed_right, .func (PySem.W.fnOf "_law_deed_right" "_law_deed_right" (defArgs s__law_deed_right) (defBody s__law_deed_right) (defScope s__law_deed_right) .none kV__law_deed_right dc__law_deed_right pm__law_deed_right an__law_deed_right cd__law_deed_right ct__law_deed_right), sl__law_deed_right⟩)
  (c__law_deed_right : PySem.W.codeIn K cd__law_deed_right "_law_deed_right" = true)
  (k__law_deed_right : PySem.W.keepIn K (.ref F__law_deed_right) = true)
  (g__law_row_right : PySem.W.nsIn K mainGlobals "_law_row_right" = some (some (.ref F__law_row_right)))
  (l__law_row_right : K.lookup F__law_row_right = some ⟨oc__law_row_right, od__law_row_right, .func (PySem.W.fnOf "_law_row_right" "_law_row_right" (defArgs s__law_row_right) (defBody s__law_row_right) (defScope s__law_row_right) .none kV__law_row_right dc__law_row_right pm__law_row_right an__law_row_right cd__law_row_right ct__law_row_right), sl__law_row_right⟩)
  (c__law_row_right : PySem.W.codeIn K cd__law_row_right "_law_row_right" = true)
  (k__law_row_right : PySem.W.keepIn K (.ref F__law_row_right) = true)
  (g_law : PySem.W.nsIn K mainGlobals "law" = some (some (.ref F_law)))
  (l_law : K.lookup F_law = some ⟨oc_law, od_law, .func (PySem.W.fnOf "law" "law" (defArgs s_law) (defBody s_law) (defScope s_law) .none kV_law dc_law pm_law an_law cd_law ct_law), sl_law⟩)
  (c_law : PySem.W.codeIn K cd_law "law" = true)
  (k_law : PySem.W.keepIn K (.ref F_law) = true)
  (e1_Fault : K.lookup C_Fault = some (excClassObj enm_Fault eq_Fault C_Fault eN_Fault ebs_Fault ebm_Fault true esn_Fault esb_Fault eab_Fault ecol_Fault edd_Fault ek0_Fault ek1_Fault ek2_Fault ek3_Fault ek5_Fault "ValueError.__new__"))
  (e2_Fault : PySem.HandSPX.refsVE ebm_Fault = true)
  (e3_Fault : PySem.W.findIn K (.ref C_Fault) "__setattr__" = some (some (.builtin "object.__setattr__")))
  (e4_Fault : PySem.W.findIn K (.ref C_Fault) "__init__" = some (some (.ref eI_Fault)))
  (e5_Fault : PySem.W.typeIn K (.ref eI_Fault) = some (.type "function"))
  (e6_Fault : PySem.W.ks_superIn K C_Fault C_Fault "__init__" = some (some (.builtin "ValueError.__init__")))
  (e7_Fault : PySem.W.subIn K (.ref C_Fault) (.type "ValueError") = some true)
  (e8_Fault : PySem.W.mroIn K C_Fault (.ref C_Fault) = some true)
  (ef0_Fault : PySem.W.findIn K (.ref C_Fault) "words" = some none)
  (ef1_Fault : PySem.W.findIn K (.ref C_Fault) "what" = some none)
  (e9_Fault : K.lookup eI_Fault = some ⟨eoc_Fault, eod_Fault, .func (PySem.W.ksFn "__init__" "Fault.__init__" (defArgs (inClass (topS 2) 0)) (defBody (inClass (topS 2) 0)) (defScope (inClass (topS 2) 0)) edV_Fault ekV_Fault edc_Fault epm_Fault ean_Fault (.ref ecd_Fault) ect_Fault ecc_Fault), esl_Fault⟩)
  (ea_Fault : PySem.W.codeIn K (.ref ecd_Fault) "Fault.__init__" = true)
  (eb_Fault : K.lookup ecd_Fault = some ⟨eccl_Fault, ecdd_Fault, .fields evs_Fault, eccs_Fault⟩)
  (ec_Fault : evs_Fault[2]? = some (.str efile_Fault etf_Fault))
  (ed_Fault : ((P.main.file : Str) == efile_Fault) = true)
  (ee_Fault : K.lookup ecc_Fault = some ⟨ecl_Fault, ecld_Fault, .cell (some (.ref C_Fault)), ecsl_Fault⟩)
  (ek_Fault : PySem.W.keepIn K (.ref C_Fault) = true)
  (ex_Fault : PySem.W.subIn K (.ref C_Fault) (.type "BaseException") = some true)
  (et_Fault : PySem.W.typeIn K (.ref C_Fault) = some (.type "type"))
  (eh_Fault : PySem.W.hasDictIn K C_Fault = true)
  (eg_Fault : PySem.W.findIn K (.ref C_Fault) "__getattribute__" = some (some (.builtin "BaseException.__getattribute__")))
  (ei_Fault : PySem.W.findIn K (.ref C_Fault) "__getattr__" = some none)
  (dV1_Fault : edV_Fault = .ref tT_Fault)
  (dV2_Fault : K.lookup tT_Fault = some to_Fault)
  (dV3_Fault : to_Fault.data = .seq ti_Fault.toArray tn_Fault)
  (dV4_Fault : Vals [.non] ti_Fault)
  (z_super : PySem.W.nsIn K mainGlobals "super" = some none)
  (z_tp : PySem.W.nsIn K cStatics "thirdparty.any" = some none)
  (z_int : PySem.W.nsIn K mainGlobals "int" = some none)
  (z_bool : PySem.W.nsIn K mainGlobals "bool" = some none)
  (z_abs : PySem.W.nsIn K mainGlobals "abs" = some none)
  (z_len : PySem.W.nsIn K mainGlobals "len" = some none)
  (z_isinstance : PySem.W.nsIn K mainGlobals "isinstance" = some none)
  (z_repr : PySem.W.nsIn K mainGlobals "repr" = some none)
  (z_all : PySem.W.nsIn K mainGlobals "all" = some none)
  (z_range : PySem.W.nsIn K mainGlobals "range" = some none)
  (z_tuple : PySem.W.nsIn K mainGlobals "tuple" = some none)
  (q_LEAST_SIZE : PySem.W.nsIn K mainGlobals "LEAST_SIZE" = some (some (.int 2 tk_LEAST_SIZE)))
  (q_MOST_SIZE : PySem.W.nsIn K mainGlobals "MOST_SIZE" = some (some (.int 4 tk_MOST_SIZE)))
  (q_INDEX : PySem.W.nsIn K mainGlobals "INDEX" = some (some (.str "index" tk_INDEX)))
  (q_FULL : PySem.W.nsIn K mainGlobals "FULL" = some (some (.str "full" tk_FULL)))
  (q_LEAST_MOST : PySem.W.nsIn K mainGlobals "LEAST_MOST" = some (some (.int 1 tk_LEAST_MOST)))
  (q_GREATEST_MOST : PySem.W.nsIn K mainGlobals "GREATEST_MOST" = some (some (.int 2 tk_GREATEST_MOST)))
  (x_cg : PySem.W.specialIn K (.builtin "object.__class__") "__get__" = some (some (.builtin "getset_descriptor.__get__")))
  (x_cc : PySem.W.findIn K (.ref C_Number) "__class__" = some (some (.builtin "object.__class__")))
  (x_ct : PySem.W.takesIn K (.builtin "object.__class__") = some true)
  (x_cm : PySem.W.mroIn K C_Number (.type "object") = some true)
  (x_rcc : PySem.W.findIn K (.ref C_Row) "__class__" = some (some (.builtin "object.__class__")))
  (x_rct : PySem.W.takesIn K (.builtin "object.__class__") = some true)
  (x_rcm : PySem.W.mroIn K C_Row (.type "object") = some true)
  (x_s1 : PySem.W.subIn K (.type "int") (.ref C_Number) = some false)
  (x_s3 : PySem.W.subIn K (.ref C_Number) (.ref C_Number) = some true)
  (x_r3 : PySem.W.subIn K (.ref C_Row) (.ref C_Row) = some true)
  (x_nS : PySem.W.findIn K (.ref C_Number) "own_size" = some none)
  (x_nW : PySem.W.findIn K (.ref C_Number) "own_worth" = some none)
  (x_n_size : PySem.W.findIn K (.ref C_Row) "own_size" = some none)
  (x_n_most : PySem.W.findIn K (.ref C_Row) "own_most" = some none)
  (x_n_worths : PySem.W.findIn K (.ref C_Row) "own_worths" = some none)
  (x_n_counter : PySem.W.findIn K (.ref C_Row) "own_counter" = some none)
  (x_n_name : PySem.W.findIn K (.ref C_Row) "own_name" = some none)
  (x_fget : PySem.W.fnIn K F_Row___getitem__ = true)
  (x_nsq : PySem.W.noSeq K C_Row = true)
  (x_rslf : PySem.W.selfFirst K C_Row = true) : Tx P K mg where
  C_Number := C_Number
  Number_mg := PySem.W.mg_of X G a_Number
  C_Row := C_Row
  Row_mg := PySem.W.mg_of X G a_Row
  C_Fault := C_Fault
  Fault_mg := PySem.W.mg_of X G a_Fault
  Number_cl := ⟨pg_Number, hd_Number, po_Number, sa_Number⟩
  Number_ty := ⟨cls_some hd_Number, tc_Number⟩
  Row_cl := ⟨pg_Row, hd_Row, po_Row, sa_Row⟩
  Row_ty := ⟨cls_some hd_Row, tc_Row⟩
  F_is_integer := F_is_integer
  fd_is_integer := (PySem.W.fnOf "is_integer" "is_integer" (defArgs s_is_integer) (defBody s_is_integer) (defScope s_is_integer) .none kV_is_integer dc_is_integer pm_is_integer an_is_integer cd_is_integer ct_is_integer)
  is_integer_ok := fun_mk l_is_integer c_is_integer k_is_integer
  b_is_integer := (fun_mk (st := s_is_integer) l_is_integer c_is_integer k_is_integer).binds (ps := ["value"]) fun _ _ _ _ _ _ us hl => match us, hl with | [_], _ => rfl
  is_integer_mg := PySem.W.mg_of X G g_is_integer
  F_is_from := F_is_from
  fd_is_from := (PySem.W.fnOf "is_from" "is_from" (defArgs s_is_from) (defBody s_is_from) (defScope s_is_from) .none kV_is_from dc_is_from pm_is_from an_is_from cd_is_from ct_is_from)
  is_from_ok := fun_mk l_is_from c_is_from k_is_from
  b_is_from := (fun_mk (st := s_is_from) l_is_from c_is_from k_is_from).binds (ps := ["value", "low", "high"]) fun _ _ _ _ _ _ us hl => match us, hl with | [_, _, _], _ => rfl
  is_from_mg := PySem.W.mg_of X G g_is_from
  F_worth_of := F_worth_of
  fd_worth_of := (PySem.W.fnOf "worth_of" "worth_of" (defArgs s_worth_of) (defBody s_worth_of) (defScope s_worth_of) .none kV_worth_of dc_worth_of pm_worth_of an_worth_of cd_worth_of ct_worth_of)
  worth_of_ok := fun_mk l_worth_of c_worth_of k_worth_of
  b_worth_of := (fun_mk (st := s_worth_of) l_worth_of c_worth_of k_worth_of).binds (ps := ["number"]) fun _ _ _ _ _ _ us hl => match us, hl with | [_], _ => rfl
  worth_of_mg := PySem.W.mg_of X G g_worth_of
  F_Number___init__ := F_Number___init__
  fd_Number___init__ := (PySem.W.fnOf "__init__" "Number.__init__" (defArgs s_Number___init__) (defBody s_Number___init__) (defScope s_Number___init__) .none kV_Number___init__ dc_Number___init__ pm_Number___init__ an_Number___init__ cd_Number___init__ ct_Number___init__)
  Number___init___ok := fun_mk l_Number___init__ c_Number___init__ k_Number___init__
  b_Number___init__ := (fun_mk (st := s_Number___init__) l_Number___init__ c_Number___init__ k_Number___init__).binds (ps := ["self", "size", "worth"]) fun _ _ _ _ _ _ us hl => match us, hl with | [_, _, _], _ => rfl
  Number___init___sl := ⟨g_Number___init__, i_Number___init__⟩
  Number_mk := ⟨mk_Number, g_Number___init__, i_Number___init__, kc_Number⟩
  F_Number_size := F_Number_size
  fd_Number_size := (PySem.W.fnOf "size" "Number.size" (defArgs s_Number_size) (defBody s_Number_size) (defScope s_Number_size) .none kV_Number_size dc_Number_size pm_Number_size an_Number_size cd_Number_size ct_Number_size)
  Number_size_ok := fun_mk l_Number_size c_Number_size k_Number_size
  b_Number_size := (fun_mk (st := s_Number_size) l_Number_size c_Number_size k_Number_size).binds (ps := ["self"]) fun _ _ _ _ _ _ us hl => match us, hl with | [_], _ => rfl
  pr_Number_size := pr_Number_size
  Number_size_pr := ⟨g_Number_size, gg_Number_size, gt_Number_size, _, gr_Number_size⟩
  F_Number_worth := F_Number_worth
  fd_Number_worth := (PySem.W.fnOf "worth" "Number.worth" (defArgs s_Number_worth) (defBody s_Number_worth) (defScope s_Number_worth) .none kV_Number_worth dc_Number_worth pm_Number_worth an_Number_worth cd_Number_worth ct_Number_worth)
  Number_worth_ok := fun_mk l_Number_worth c_Number_worth k_Number_worth
  b_Number_worth := (fun_mk (st := s_Number_worth) l_Number_worth c_Number_worth k_Number_worth).binds (ps := ["self"]) fun _ _ _ _ _ _ us hl => match us, hl with | [_], _ => rfl
  pr_Number_worth := pr_Number_worth
  Number_worth_pr := ⟨g_Number_worth, gg_Number_worth, gt_Number_worth, _, gr_Number_worth⟩
  F_are_items := F_are_items
  fd_are_items := (PySem.W.fnOf "are_items" "are_items" (defArgs s_are_items) (defBody s_are_items) (defScope s_are_items) .none kV_are_items dc_are_items pm_are_items an_are_items cd_are_items ct_are_items)
  are_items_ok := fun_mk l_are_items c_are_items k_are_items
  b_are_items := (fun_mk (st := s_are_items) l_are_items c_are_items k_are_items).binds (ps := ["size", "most", "value"]) fun _ _ _ _ _ _ us hl => match us, hl with | [_, _, _], _ => rfl
  are_items_mg := PySem.W.mg_of X G g_are_items
  F_Row___init__ := F_Row___init__
  fd_Row___init__ := (PySem.W.fnOf "__init__" "Row.__init__" (defArgs s_Row___init__) (defBody s_Row___init__) (defScope s_Row___init__) .none kV_Row___init__ dc_Row___init__ pm_Row___init__ an_Row___init__ cd_Row___init__ ct_Row___init__)
  Row___init___ok := fun_mk l_Row___init__ c_Row___init__ k_Row___init__
  b_Row___init__ := (fun_mk (st := s_Row___init__) l_Row___init__ c_Row___init__ k_Row___init__).binds (ps := ["self", "size", "most", "items"]) fun _ _ _ _ _ _ us hl => match us, hl with | [_, _, _, _], _ => rfl
  Row___init___sl := ⟨g_Row___init__, i_Row___init__⟩
  Row_mk := ⟨mk_Row, g_Row___init__, i_Row___init__, kc_Row⟩
  F_Row_worths := F_Row_worths
  fd_Row_worths := (PySem.W.fnOf "worths" "Row.worths" (defArgs s_Row_worths) (defBody s_Row_worths) (defScope s_Row_worths) .none kV_Row_worths dc_Row_worths pm_Row_worths an_Row_worths cd_Row_worths ct_Row_worths)
  Row_worths_ok := fun_mk l_Row_worths c_Row_worths k_Row_worths
  b_Row_worths := (fun_mk (st := s_Row_worths) l_Row_worths c_Row_worths k_Row_worths).binds (ps := ["self"]) fun _ _ _ _ _ _ us hl => match us, hl with | [_], _ => rfl
  pr_Row_worths := pr_Row_worths
  Row_worths_pr := ⟨g_Row_worths, gg_Row_worths, gt_Row_worths, _, gr_Row_worths⟩
  F_Row___len__ := F_Row___len__
  fd_Row___len__ := (PySem.W.fnOf "__len__" "Row.__len__" (defArgs s_Row___len__) (defBody s_Row___len__) (defScope s_Row___len__) .none kV_Row___len__ dc_Row___len__ pm_Row___len__ an_Row___len__ cd_Row___len__ ct_Row___len__)
  Row___len___ok := fun_mk l_Row___len__ c_Row___len__ k_Row___len__
  b_Row___len__ := (fun_mk (st := s_Row___len__) l_Row___len__ c_Row___len__ k_Row___len__).binds (ps := ["self"]) fun _ _ _ _ _ _ us hl => match us, hl with | [_], _ => rfl
  Row___len___sl := ⟨g_Row___len__, i_Row___len__⟩
  F_Row_has := F_Row_has
  fd_Row_has := (PySem.W.fnOf "has" "Row.has" (defArgs s_Row_has) (defBody s_Row_has) (defScope s_Row_has) .none kV_Row_has dc_Row_has pm_Row_has an_Row_has cd_Row_has ct_Row_has)
  Row_has_ok := fun_mk l_Row_has c_Row_has k_Row_has
  b_Row_has := (fun_mk (st := s_Row_has) l_Row_has c_Row_has k_Row_has).binds (ps := ["self", "i"]) fun _ _ _ _ _ _ us hl => match us, hl with | [_, _], _ => rfl
  Row_has_sl := ⟨g_Row_has, i_Row_has⟩
  F_Row_worth_at := F_Row_worth_at
  fd_Row_worth_at := (PySem.W.fnOf "worth_at" "Row.worth_at" (defArgs s_Row_worth_at) (defBody s_Row_worth_at) (defScope s_Row_worth_at) dV_Row_worth_at kV_Row_worth_at dc_Row_worth_at pm_Row_worth_at an_Row_worth_at cd_Row_worth_at ct_Row_worth_at)
  Row_worth_at_ok := ⟨⟨_, _, _, _, _, _, _, _, _, _, rfl, l_Row_worth_at, c_Row_worth_at, .inr ⟨by simp, _, _, _, _, dV1_Row_worth_at, dV2_Row_worth_at, dV3_Row_worth_at, dV4_Row_worth_at⟩, .inl rfl⟩, k_Row_worth_at⟩
  Row_worth_at_sl := ⟨g_Row_worth_at, i_Row_worth_at⟩
  F_Row_lay := F_Row_lay
  fd_Row_lay := (PySem.W.fnOf "lay" "Row.lay" (defArgs s_Row_lay) (defBody s_Row_lay) (defScope s_Row_lay) dV_Row_lay kV_Row_lay dc_Row_lay pm_Row_lay an_Row_lay cd_Row_lay ct_Row_lay)
  Row_lay_ok := ⟨⟨_, _, _, _, _, _, _, _, _, _, rfl, l_Row_lay, c_Row_lay, .inr ⟨by simp, _, _, _, _, dV1_Row_lay, dV2_Row_lay, dV3_Row_lay, dV4_Row_lay⟩, .inl rfl⟩, k_Row_lay⟩
  Row_lay_sl := ⟨g_Row_lay, i_Row_lay⟩
  F_Row_push := F_Row_push
  fd_Row_push := (PySem.W.fnOf "push" "Row.push" (defArgs s_Row_push) (defBody s_Row_push) (defScope s_Row_push) dV_Row_push kV_Row_push dc_Row_push pm_Row_push an_Row_push cd_Row_push ct_Row_push)
  Row_push_ok := ⟨⟨_, _, _, _, _, _, _, _, _, _, rfl, l_Row_push, c_Row_push, .inr ⟨by simp, _, _, _, _, dV1_Row_push, dV2_Row_push, dV3_Row_push, dV4_Row_push⟩, .inl rfl⟩, k_Row_push⟩
  Row_push_sl := ⟨g_Row_push, i_Row_push⟩
  F_Row_count := F_Row_count
  fd_Row_count := (PySem.W.fnOf "count" "Row.count" (defArgs s_Row_count) (defBody s_Row_count) (defScope s_Row_count) .none kV_Row_count dc_Row_count pm_Row_count an_Row_count cd_Row_count ct_Row_count)
  Row_count_ok := fun_mk l_Row_count c_Row_count k_Row_count
  b_Row_count := (fun_mk (st := s_Row_count) l_Row_count c_Row_count k_Row_count).binds (ps := ["self"]) fun _ _ _ _ _ _ us hl => match us, hl with | [_], _ => rfl
  Row_count_sl := ⟨g_Row_count, i_Row_count⟩
  F_Row___getitem__ := F_Row___getitem__
  fd_Row___getitem__ := (PySem.W.fnOf "__getitem__" "Row.__getitem__" (defArgs s_Row___getitem__) (defBody s_Row___getitem__) (defScope s_Row___getitem__) .none kV_Row___getitem__ dc_Row___getitem__ pm_Row___getitem__ an_Row___getitem__ cd_Row___getitem__ ct_Row___getitem__)
  Row___getitem___ok := fun_mk l_Row___getitem__ c_Row___getitem__ k_Row___getitem__
  b_Row___getitem__ := (fun_mk (st := s_Row___getitem__) l_Row___getitem__ c_Row___getitem__ k_Row___getitem__).binds (ps := ["self", "i"]) fun _ _ _ _ _ _ us hl => match us, hl with | [_, _], _ => rfl
  Row___getitem___sl := ⟨g_Row___getitem__, i_Row___getitem__⟩
  F_Row___setitem__ := F_Row___setitem__
  fd_Row___setitem__ := (PySem.W.fnOf "__setitem__" "Row.__setitem__" (defArgs s_Row___setitem__) (defBody s_Row___setitem__) (defScope s_Row___setitem__) .none kV_Row___setitem__ dc_Row___setitem__ pm_Row___setitem__ an_Row___setitem__ cd_Row___setitem__ ct_Row___setitem__)
  Row___setitem___ok := fun_mk l_Row___setitem__ c_Row___setitem__ k_Row___setitem__
  b_Row___setitem__ := (fun_mk (st := s_Row___setitem__) l_Row___setitem__ c_Row___setitem__ k_Row___setitem__).binds (ps := ["self", "i", "x"]) fun _ _ _ _ _ _ us hl => match us, hl with | [_, _, _], _ => rfl
  Row___setitem___sl := ⟨g_Row___setitem__, i_Row___setitem__⟩
  F_Row___iadd__ := F_Row___iadd__
  fd_Row___iadd__ := (PySem.W.fnOf "__iadd__" "Row.__iadd__" (defArgs s_Row___iadd__) (defBody s_Row___iadd__) (defScope s_Row___iadd__) .none kV_Row___iadd__ dc_Row___iadd__ pm_Row___iadd__ an_Row___iadd__ cd_Row___iadd__ ct_Row___iadd__)
  Row___iadd___ok := fun_mk l_Row___iadd__ c_Row___iadd__ k_Row___iadd__
  b_Row___iadd__ := (fun_mk (st := s_Row___iadd__) l_Row___iadd__ c_Row___iadd__ k_Row___iadd__).binds (ps := ["self", "x"]) fun _ _ _ _ _ _ us hl => match us, hl with | [_, _], _ => rfl
  Row___iadd___sl := ⟨g_Row___iadd__, i_Row___iadd__⟩
  F__law_pot := F__law_pot
  fd__law_pot := (PySem.W.fnOf "_law_pot" "_law_pot" (defArgs s__law_pot) (defBody s__law_pot) (defScope s__law_pot) .none kV__law_pot dc__law_pot pm__law_pot an__law_pot cd__law_pot ct__law_pot)
  _law_pot_ok := fun_mk l__law_pot c__law_pot k__law_pot
  b__law_pot := (fun_mk (st := s__law_pot) l__law_pot c__law_pot k__law_pot).binds (ps := ["_law_script", "_law_k"]) fun _ _ _ _ _ _ us hl => match us, hl with | [_, _], _ => rfl
  _law_pot_mg := PySem.W.mg_of X G g__law_pot
  F__law_take := F__law_take
  fd__law_take := (PySem.W.fnOf "_law_take" "_law_take" (defArgs s__law_take) (defBody s__law_take) (defScope s__law_take) .none kV__law_take dc__law_take pm__law_take an__law_take cd__law_take ct__law_take)
  _law_take_ok := fun_mk l__law_take c__law_take k__law_take
  b__law_take := (fun_mk (st := s__law_take) l__law_take c__law_take k__law_take).binds (ps := ["_law_pot_here", "_law_upto"]) fun _ _ _ _ _ _ us hl => match us, hl with | [_, _], _ => rfl
  _law_take_mg := PySem.W.mg_of X G g__law_take
  F__law_number := F__law_number
  fd__law_number := (PySem.W.fnOf "_law_number" "_law_number" (defArgs s__law_number) (defBody s__law_number) (defScope s__law_number) .none kV__law_number dc__law_number pm__law_number an__law_number cd__law_number ct__law_number)
  _law_number_ok := fun_mk l__law_number c__law_number k__law_number
  b__law_number := (fun_mk (st := s__law_number) l__law_number c__law_number k__law_number).binds (ps := ["_law_pot_here", "_law_size"]) fun _ _ _ _ _ _ us hl => match us, hl with | [_, _], _ => rfl
  _law_number_mg := PySem.W.mg_of X G g__law_number
  F__law_read := F__law_read
  fd__law_read := (PySem.W.fnOf "_law_read" "_law_read" (defArgs s__law_read) (defBody s__law_read) (defScope s__law_read) .none kV__law_read dc__law_read pm__law_read an__law_read cd__law_read ct__law_read)
  _law_read_ok := fun_mk l__law_read c__law_read k__law_read
  b__law_read := (fun_mk (st := s__law_read) l__law_read c__law_read k__law_read).binds (ps := ["_law_row", "_law_at"]) fun _ _ _ _ _ _ us hl => match us, hl with | [_, _], _ => rfl
  _law_read_mg := PySem.W.mg_of X G g__law_read
  F__law_set := F__law_set
  fd__law_set := (PySem.W.fnOf "_law_set" "_law_set" (defArgs s__law_set) (defBody s__law_set) (defScope s__law_set) .none kV__law_set dc__law_set pm__law_set an__law_set cd__law_set ct__law_set)
  _law_set_ok := fun_mk l__law_set c__law_set k__law_set
  b__law_set := (fun_mk (st := s__law_set) l__law_set c__law_set k__law_set).binds (ps := ["_law_row", "_law_at", "_law_x"]) fun _ _ _ _ _ _ us hl => match us, hl with | [_, _, _], _ => rfl
  _law_set_mg := PySem.W.mg_of X G g__law_set
  F__law_pushed := F__law_pushed
  fd__law_pushed := (PySem.W.fnOf "_law_pushed" "_law_pushed" (defArgs s__law_pushed) (defBody s__law_pushed) (defScope s__law_pushed) .none kV__law_pushed dc__law_pushed pm__law_pushed an__law_pushed cd__law_pushed ct__law_pushed)
  _law_pushed_ok := fun_mk l__law_pushed c__law_pushed k__law_pushed
  b__law_pushed := (fun_mk (st := s__law_pushed) l__law_pushed c__law_pushed k__law_pushed).binds (ps := ["_law_row", "_law_x"]) fun _ _ _ _ _ _ us hl => match us, hl with | [_, _], _ => rfl
  _law_pushed_mg := PySem.W.mg_of X G g__law_pushed
  F__law_deed_right := F__law_deed_right
  fd__law_deed_right := (PySem.W.fnOf "_law_deed_right" "_law_deed_right" (defArgs s__law_deed_right) (defBody s__law_deed_right) (defScope s__law_deed_right) .none kV__law_deed_right dc__law_deed_right pm__law_deed_right an__law_deed_right cd__law_deed_right ct__law_deed_right)
  _law_deed_right_ok := fun_mk l__law_deed_right c__law_deed_right k__law_deed_right
  b__law_deed_right := (fun_mk (st := s__law_deed_right) l__law_deed_right c__law_deed_right k__law_deed_right).binds (ps := ["_law_pot_here", "_law_row", "_law_mine", "_law_lore"]) fun _ _ _ _ _ _ us hl => match us, hl with | [_, _, _, _], _ => rfl
  _law_deed_right_mg := PySem.W.mg_of X G g__law_deed_right
  F__law_row_right := F__law_row_right
  fd__law_row_right := (PySem.W.fnOf "_law_row_right" "_law_row_right" (defArgs s__law_row_right) (defBody s__law_row_right) (defScope s__law_row_right) .none kV__law_row_right dc__law_row_right pm__law_row_right an__law_row_right cd__law_row_right ct__law_row_right)
  _law_row_right_ok := fun_mk l__law_row_right c__law_row_right k__law_row_right
  b__law_row_right := (fun_mk (st := s__law_row_right) l__law_row_right c__law_row_right k__law_row_right).binds (ps := ["_law_pot_here"]) fun _ _ _ _ _ _ us hl => match us, hl with | [_], _ => rfl
  _law_row_right_mg := PySem.W.mg_of X G g__law_row_right
  F_law := F_law
  fd_law := (PySem.W.fnOf "law" "law" (defArgs s_law) (defBody s_law) (defScope s_law) .none kV_law dc_law pm_law an_law cd_law ct_law)
  law_ok := fun_mk l_law c_law k_law
  b_law := (fun_mk (st := s_law) l_law c_law k_law).binds (ps := ["_law_script"]) fun _ _ _ _ _ _ us hl => match us, hl with | [_], _ => rfl
  law_mg := PySem.W.mg_of X G g_law
  Fault_err := ⟨⟨_, (PySem.W.ksFn "__init__" "Fault.__init__" (defArgs (inClass (topS 2) 0)) (defBody (inClass (topS 2) 0)) (defScope (inClass (topS 2) 0)) edV_Fault ekV_Fault edc_Fault epm_Fault ean_Fault (.ref ecd_Fault) ect_Fault ecc_Fault), ⟨⟨_, _, _, _, _, _, _, _, _, _, _, _, _, _, _, e1_Fault, e2_Fault⟩, e3_Fault, e4_Fault, e5_Fault, e6_Fault, e7_Fault, e8_Fault, z_super, z_tp, hP.1, (by intro f hf; simp only [List.mem_cons, List.not_mem_nil, or_false] at hf; rcases hf with rfl | rfl; exact ef0_Fault; exact ef1_Fault), ⟨_, _, _, _, _, _, _, _, _, _, _, _, _, _, _, rfl, e9_Fault, ea_Fault, ⟨_, _, _, _, _, _, eb_Fault, ec_Fault, ed_Fault⟩, ⟨_, _, _, ee_Fault⟩, ⟨_, rfl, rfl⟩, ⟨rfl, rfl, rfl, by decide +kernel, by decide +kernel, by decide +kernel, by decide +kernel, by decide +kernel, by decide +kernel, by decide +kernel⟩, .inr ⟨_, _, _, _, _, _, _, _, _, _, _, _, _, _, _, _, rfl, rfl, by decide +kernel, rfl⟩⟩⟩, (by subst dV1_Fault; cases dV4_Fault with | cons r t => cases t; exact binds_ks dV2_Fault dV3_Fault fun us hl => match us, hl with | [_, _, _], _ => ⟨_, rfl, rfl⟩)⟩, PySem.W.mg_of X G a_Fault, ek_Fault, ex_Fault, et_Fault⟩
  Fault_xf := ⟨eg_Fault, ei_Fault, ex_Fault, eh_Fault⟩
  Fault_no0 := ef0_Fault
  Fault_no1 := ef1_Fault
  Fault_te := EXM ex_Fault eh_Fault et_Fault e8_Fault
  b_int := PySem.W.mg_none_of X G z_int
  b_bool := PySem.W.mg_none_of X G z_bool
  b_abs := PySem.W.mg_none_of X G z_abs
  b_len := PySem.W.mg_none_of X G z_len
  b_isinstance := PySem.W.mg_none_of X G z_isinstance
  b_repr := PySem.W.mg_none_of X G z_repr
  b_all := PySem.W.mg_none_of X G z_all
  b_range := PySem.W.mg_none_of X G z_range
  b_tuple := PySem.W.mg_none_of X G z_tuple
  tk_LEAST_SIZE := tk_LEAST_SIZE
  k_LEAST_SIZE := PySem.W.mg_of X G q_LEAST_SIZE
  tk_MOST_SIZE := tk_MOST_SIZE
  k_MOST_SIZE := PySem.W.mg_of X G q_MOST_SIZE
  tk_INDEX := tk_INDEX
  k_INDEX := PySem.W.mg_of X G q_INDEX
  tk_FULL := tk_FULL
  k_FULL := PySem.W.mg_of X G q_FULL
  tk_LEAST_MOST := tk_LEAST_MOST
  k_LEAST_MOST := PySem.W.mg_of X G q_LEAST_MOST
  tk_GREATEST_MOST := tk_GREATEST_MOST
  k_GREATEST_MOST := PySem.W.mg_of X G q_GREATEST_MOST
  x_cg := x_cg
  x_cc := x_cc
  x_ct := x_ct
  x_cm := x_cm
  x_rcc := x_rcc
  x_rct := x_rct
  x_rcm := x_rcm
  x_s1 := x_s1
  x_s3 := x_s3
  x_r3 := x_r3
  x_nS := x_nS
  x_nW := x_nW
  x_n_size := x_n_size
  x_n_most := x_n_most
  x_n_worths := x_n_worths
  x_n_counter := x_n_counter
  x_n_name := x_n_name
  x_fget := x_fget
  x_nsq := x_nsq
  x_rslf := x_rslf

end K02

namespace K02
open PySem PySem.Spec PyProof.Rows L2 L2.TP
/-! ### Numbers -/
def nf (n p : Int) : List (Str × V) := [("own_size", .int n), ("own_worth", .int p)]
theorem nf_size (n p : Int) : (nf n p).lookup ("own_size" : Str) = some (.int n) := rfl
theorem nf_worth (n p : Int) : (nf n p).lookup ("own_worth" : Str) = some (.int p) := by
  show List.lookup ("own_worth" : Str) [(("own_size" : Str), V.int n), ("own_worth", V.int p)] = _
  have q : (("own_worth" : Str) == ("own_size" : Str)) = false := by decide +kernel
  simp [List.lookup, q]
theorem nf_put1 (n : Int) : putF "own_size" (.int n) [] = ([("own_size", .int n)] : List (Str × V)) := rfl
theorem nf_put2 (n p : Int) : putF "own_worth" (.int p) ([("own_size", .int n)] : List (Str × V)) = nf n p := by
  show (if ("own_size" : Str) = "own_worth" then _ else _) = _
  rw [if_neg (by decide +kernel)]
  rfl
structure NumAt (C : Addr) (H : Hp) (a : Addr) (n p : Int) : Prop where
  at_ : ∃ dx, H a = some (.ins C dx (nf n p))
  n2 : 2 ≤ n
  n4 : n ≤ 4
  p0 : 0 ≤ p
  pn : p < n
theorem NumAt.ext {C : Addr} {H H' : Hp} {a : Addr} {n p : Int} (h : NumAt C H a n p) (e : Ext H H') : NumAt C H' a n p := by
  obtain ⟨dx, q⟩ := h.at_
  exact ⟨⟨dx, e _ _ q⟩, h.n2, h.n4, h.p0, h.pn⟩
/-- what counts as a number of size n -/
def IsN (C : Addr) (H : Hp) (v : V) (n p : Int) : Prop := (∃ a, v = .ref a ∧ NumAt C H a n p) ∨ (v = .int p ∧ 0 ≤ p ∧ p < n)
theorem IsN.ext {C : Addr} {H H' : Hp} {v : V} {n p : Int} (h : IsN C H v n p) (e : Ext H H') : IsN C H' v n p := by
  rcases h with ⟨a, rfl, h⟩ | h
  · exact .inl ⟨a, rfl, h.ext e⟩
  · exact .inr h

section
variable {P : Program} {w : World} {K : PySem.W.Frag} {mg : Str → Option Value} {base : Heap}
theorem ty_num (T : Tx P K mg) {H : Hp} {a : Addr} {n p : Int} (h : NumAt T.C_Number H a n p) : TyX K H (.ref a) (.ref T.C_Number) := by
  obtain ⟨dx, q⟩ := h.at_
  exact .base (.ins q T.Number_cl T.x_cc T.x_cg T.x_ct T.x_cm)
theorem kit_num (T : Tx P K mg) : PySem.W.kitOne K (.ref T.C_Number) (.ref T.C_Number) = some true := kit_ref T.Number_ty T.x_s3 fun _ => rfl
theorem kit_int (T : Tx P K mg) : PySem.W.kitOne K (.type "int") (.ref T.C_Number) = some false := kit_ref T.Number_ty T.x_s1 fun z => nomatch z

def spIsInteger : Sp := fun vs H Q _ => ∃ i : Int, vs = [.int i] ∧ Q (.bl true) H
theorem ok_is_integer (T : Tx P K mg) : FnOk P w K mg base CX0 1 T.F_is_integer T.fd_is_integer ["value"] spIsInteger := by
  refine T.is_integer_ok.ok sc_is_integer (fun vs H Q E h => ?_) (fun cdv A outer s H vs Q E hr h => ?_)
  · obtain ⟨i, rfl, _⟩ := h
    rfl
  · obtain ⟨i, rfl, q⟩ := h
    have nd := sc_is_integer.nd
    refine ⟨_, (pss_one (ps_ret (pe_and (pe_callB call_isi (by rfl) T.b_isinstance (by decide +kernel) (pa_cons (pv 0) (pa_cons (pe_bltn (by rfl) T.b_int (by decide +kernel) (v := .ty "int") rfl) pa_nil))) (pe_one (pe_not (pe_callB call_isi (by rfl) T.b_isinstance (by decide +kernel) (pa_cons (pv 0) (pa_cons (pe_bltn (by rfl) T.b_bool (by decide +kernel) (v := .ty "bool") rfl) pa_nil)))))))), ?_⟩
    refine ⟨_, rfl, _, _, _, _, _, rfl, .ty _, .base (.int i), kit_ty (r := true) (by decide +kernel), _, rfl, iteT ?_⟩
    exact ⟨_, rfl, _, _, _, _, _, rfl, .ty _, .base (.int i), kit_ty (r := false) (by decide +kernel), _, rfl, q⟩

def spIsFrom : Sp := fun vs H Q _ => ∃ i lo hi : Int, vs = [.int i, .int lo, .int hi] ∧ Q (.bl (decide (lo ≤ i) && decide (i ≤ hi))) H
theorem ok_is_from (T : Tx P K mg) : FnOk P w K mg base CX0 2 T.F_is_from T.fd_is_from ["value", "low", "high"] spIsFrom := by
  refine T.is_from_ok.ok sc_is_from (fun vs H Q E h => ?_) (fun cdv A outer s H vs Q E hr h => ?_)
  · obtain ⟨i, lo, hi, rfl, _⟩ := h
    rfl
  · obtain ⟨i, lo, hi, rfl, q⟩ := h
    have nd := sc_is_from.nd
    refine ⟨_, (pss_one (ps_ret (pe_and (pe_call (ok_is_integer T) (hr.mono (by decide)) rfl T.is_integer_mg T.is_integer_ok.kp T.b_is_integer .nil pass0 (pa_cons (pv 0) pa_nil)) (pe_one (pe_chain op_le op_le (pv 1) (pv 0) (pv 2)))))), ?_⟩
    refine ⟨_, rfl, i, rfl, _, rfl, iteT ?_⟩
    refine ⟨_, rfl, _, rfl, _, _, rfl, rfl, _, rfl, ?_⟩
    by_cases c : lo ≤ i
    · rw [decide_eq_true c] at q ⊢
      exact iteT ⟨_, rfl, _, _, rfl, rfl, q⟩
    · rw [decide_eq_false c] at q ⊢
      exact iteF q

def spWorthOf (C : Addr) : Sp := fun vs H Q _ => ∃ (v : V) (n p : Int), vs = [v] ∧ IsN C H v n p ∧ Q (.int p) H
theorem ok_Number_size (T : Tx P K mg) : FnOk P w K mg base CX0 1 T.F_Number_size T.fd_Number_size ["self"] (getSp T.C_Number "own_size") := by
  obtain ⟨oc, od, kV, doc, pm, an, cdv, ct, osl, e, lk, hcd⟩ := T.Number_size_ok.ex
  rw [e] at lk ⊢
  exact fn_getter lk hcd sc_Number_size rfl rfl T.Number_cl T.x_nS
theorem ok_Number_worth (T : Tx P K mg) : FnOk P w K mg base CX0 1 T.F_Number_worth T.fd_Number_worth ["self"] (getSp T.C_Number "own_worth") := by
  obtain ⟨oc, od, kV, doc, pm, an, cdv, ct, osl, e, lk, hcd⟩ := T.Number_worth_ok.ex
  rw [e] at lk ⊢
  exact fn_getter lk hcd sc_Number_worth rfl rfl T.Number_cl T.x_nW
theorem ok_worth_of (T : Tx P K mg) : FnOk P w K mg base CX0 3 T.F_worth_of T.fd_worth_of ["number"] (spWorthOf T.C_Number) := by
  refine T.worth_of_ok.ok sc_worth_of (fun vs H Q E h => ?_) (fun cdv A outer s H vs Q E hr h => ?_)
  · obtain ⟨v, n, p, rfl, _⟩ := h
    rfl
  · obtain ⟨v, n, p, rfl, hv, q⟩ := h
    have nd := sc_worth_of.nd
    refine ⟨_, (pss_one (ps_ret (pe_ifExp (pt_val (pe_callB call_isi (by rfl) T.b_isinstance (by decide +kernel) (pa_cons (pv 0) (pa_cons (pe_glob (v := .ref T.C_Number) rfl T.Number_mg rfl) pa_nil)))) (pe_prop (pv 0) T.Number_cl T.Number_worth_pr (ok_Number_worth T) (hr.mono (by decide)) T.b_Number_worth .nil pass0 rfl) (pv 0)))), ?_⟩
    rcases hv with ⟨a, rfl, ha⟩ | ⟨rfl, h0, hn⟩
    · refine ⟨_, rfl, _, _, _, _, _, rfl, .own _, ty_num T ha, kit_num T, _, rfl, iteT ?_⟩
      obtain ⟨dx, ea⟩ := ha.at_
      exact ⟨_, rfl, a, dx, _, rfl, ea, a, dx, _, _, rfl, ea, nf_worth n p, q⟩
    · refine ⟨_, rfl, _, _, _, _, _, rfl, .own _, .base (.int p), kit_int T, _, rfl, iteF ?_⟩
      exact ⟨_, rfl, q⟩

/-- Number(n, p): a new one -/
def spInit (C : Addr) : Sp := fun vs H Q _ => ∃ (x dx : Addr) (n p : Int), vs = [.ref x, .int n, .int p] ∧ H x = some (.ins C dx []) ∧ 2 ≤ n ∧ n ≤ 4 ∧ 0 ≤ p ∧ p < n ∧ Q .non (upd H x (.ins C dx (nf n p)))
theorem ok_Number__init__ (T : Tx P K mg) : FnOk P w K mg base CX0 3 T.F_Number___init__ T.fd_Number___init__ ["self", "size", "worth"] (spInit T.C_Number) := by
  refine T.Number___init___ok.ok sc_Number___init__ (fun vs H Q E h => ?_) (fun cdv A outer s H vs Q E hr h => ?_)
  · obtain ⟨x, dx, n, p, rfl, _⟩ := h
    rfl
  · obtain ⟨x, dx, n, p, rfl, hx, n2, n4, p0, pn, q⟩ := h
    have nd := sc_Number___init__.nd
    refine ⟨_, (pss_cons (ps_if (pt_not (pt_val (pe_call (ok_is_from T) (hr.mono (by decide)) rfl T.is_from_mg T.is_from_ok.kp T.b_is_from .nil pass0 (pa_cons (pv 1) (pa_cons (pe_glob (v := .int 2) rfl T.k_LEAST_SIZE ⟨_, rfl⟩) (pa_cons (pe_glob (v := .int 4) rfl T.k_MOST_SIZE ⟨_, rfl⟩) pa_nil)))))) (pss_one ps_never) pss_nil) (pss_cons (ps_if (pt_not (pt_val (pe_call (ok_is_from T) (hr.mono (by decide)) rfl T.is_from_mg T.is_from_ok.kp T.b_is_from .nil pass0 (pa_cons (pv 2) (pa_cons pe_int (pa_cons (pe_op op_sub (pv 1) pe_int) pa_nil)))))) (pss_one ps_never) pss_nil) (pss_cons (ps_fld (pv 0) (pv 1) rfl) (pss_one (ps_fld (pv 0) (pv 2) rfl))))), ?_⟩
    refine ⟨_, rfl, n, 2, 4, rfl, _, rfl, ?_⟩
    rw [decide_eq_true n2, decide_eq_true n4]
    refine iteF ?_
    refine ⟨_, rfl, _, rfl, _, _, rfl, rfl, p, 0, n - 1, rfl, _, rfl, ?_⟩
    rw [decide_eq_true p0, decide_eq_true (by omega : p ≤ n - 1)]
    refine iteF ?_
    refine ⟨_, rfl, _, rfl, x, T.C_Number, dx, [], rfl, hx, T.Number_cl, T.x_nS, by decide, ?_⟩
    refine ⟨_, rfl, _, rfl, x, T.C_Number, dx, _, rfl, upd_same, T.Number_cl, T.x_nW, by show 1 < 1000; decide, ?_⟩
    rw [upd_upd, nf_put1, nf_put2]
    exact q
/-- what the making of a Number asks -/
theorem made {C : Addr} {H : Hp} {n p : Int} {Q : VK} (n2 : 2 ≤ n) (n4 : n ≤ 4) (p0 : 0 ≤ p) (pn : p < n) (q : ∀ z H', Ext H H' → NumAt C H' z n p → Q (.ref z) H') :
    ∀ x dx, H x = none → H dx = none → dx ≠ x → spInit C (.ref x :: ([.int n, .int p] ++ [])) (upd (upd H dx (.own x)) x (.ins C dx [])) (fun v H2 => v = .non ∧ Q (.ref x) H2) E0 := by
  intro x dx hx hdx ne
  refine ⟨x, dx, n, p, rfl, upd_same, n2, n4, p0, pn, rfl, ?_⟩
  rw [upd_upd]
  exact q x _ (ext_new Ext.rfl' hx hdx) ⟨⟨dx, upd_same⟩, n2, n4, p0, pn⟩

theorem newN {C : Addr} {H : Hp} {n p : Int} {x dx : Addr} (hx : H x = none) (hdx : H dx = none) (n2 : 2 ≤ n) (n4 : n ≤ 4) (p0 : 0 ≤ p) (pn : p < n) :
    Ext H (upd (upd (upd H dx (.own x)) x (.ins C dx [])) x (.ins C dx (nf n p))) ∧ NumAt C (upd (upd (upd H dx (.own x)) x (.ins C dx [])) x (.ins C dx (nf n p))) x n p := by
  rw [upd_upd]
  exact ⟨ext_new Ext.rfl' hx hdx, ⟨dx, upd_same⟩, n2, n4, p0, pn⟩

end
section
variable {P : Program} {w : World} {K : PySem.W.Frag} {mg : Str → Option Value} {base : Heap}
theorem primes_at (i : Int) (h0 : 0 ≤ i) (h5 : i < 5) : ∃ q : Int, atI [V.int 2147483647, V.int 2147483629, V.int 2147483587, V.int 2147483579, V.int 2147483563] i = some (.int q) ∧ 0 < q ∧ q < 4294967296 := by
  have h : i = 0 ∨ i = 1 ∨ i = 2 ∨ i = 3 ∨ i = 4 := by omega
  rcases h with rfl | rfl | rfl | rfl | rfl
  all_goals exact ⟨_, rfl, by decide, by decide⟩
theorem fm_nn {x m : Int} (h : 0 < m) : 0 ≤ x.fmod m := by
  rw [Int.fmod_eq_emod_of_nonneg x (by omega)]
  exact Int.emod_nonneg x (by omega)
theorem fm_lt {x m : Int} (h : 0 < m) : x.fmod m < m := by
  rw [Int.fmod_eq_emod_of_nonneg x (by omega)]
  exact Int.emod_lt_of_pos x h
theorem fd_nn {x m : Int} (hx : 0 ≤ x) (h : 0 < m) : 0 ≤ x.fdiv m := by
  rw [Int.fdiv_eq_ediv_of_nonneg x (by omega)]
  exact Int.ediv_nonneg hx (by omega)
theorem sq_lt {c : Int} (h0 : 0 ≤ c) (h1 : c ≤ 100001) : 0 ≤ 98123 * c * c ∧ 98123 * c * c ≤ 98123 * 100001 * 100001 := by
  have a1 : 0 ≤ 98123 * c := by omega
  have a2 : 98123 * c ≤ 98123 * 100001 := by omega
  exact ⟨Int.mul_nonneg a1 h0, Int.mul_le_mul a2 h1 h0 (by decide)⟩
theorem ok__law_take (T : Tx P K mg) : FnOk P w K mg base CX0 1 T.F__law_take T.fd__law_take ["_law_pot_here", "_law_upto"] spTake := by
  refine T._law_take_ok.ok sc__law_take (fun vs H Q E h => ?_) (fun cdv A outer s H vs Q E hr h => ?_)
  · obtain ⟨G, p, n, m, rfl, _⟩ := h
    rfl
  · obtain ⟨G, p, n, m, rfl, wp, hn, m0, m1, k⟩ := h
    have nd := sc__law_take.nd
    obtain ⟨a, b, c, hp, a0, b0, b1, c0, c1⟩ := wp.pot.at_
    refine ⟨_, (pss_cons (ps_if (pt_cmpR op_gt (pe_ix ix_list (pv 0) pe_int (fun _ _ => rfl)) pe_int (nomark _)) (pss_cons (ps_set (i := 2) nd rfl (Or.inl rfl) (pe_op op_modN (pe_callTy call_int1 (by rfl) T.b_int (by decide +kernel) (pa_cons (pe_ix ix_list (pv 0) pe_int (fun _ _ => rfl)) pa_nil)) (pv 1))) (pss_cons (ps_asg (pe_op op_fdivN (pe_ix ix_list (pv 0) pe_int (fun _ _ => rfl)) (pv 1)) (pg_sub (pv 0) pe_int set_list)) (pss_one (ps_ret (pv 2))))) pss_nil) (pss_cons (ps_asg (pe_op op_add (pe_ix ix_list (pv 0) pe_int (fun _ _ => rfl)) pe_int) (pg_sub (pv 0) pe_int set_list)) (pss_cons (ps_set (i := 3) nd rfl (Or.inl rfl) (pe_ix ix_list (pe_lst (pa_cons pe_int (pa_cons pe_int (pa_cons pe_int (pa_cons pe_int (pa_cons pe_int pa_nil)))))) (pe_op op_modN (pe_callTy call_int1 (by rfl) T.b_int (by decide +kernel) (pa_cons (pe_ix ix_list (pv 0) pe_int (fun _ _ => rfl)) pa_nil)) pe_int) (fun _ _ => rfl))) (pss_cons (ps_set (i := 4) nd rfl (Or.inl rfl) (pe_op op_modN (pe_callTy call_int1 (by rfl) T.b_int (by decide +kernel) (pa_cons (pe_op op_pow (pe_callTy call_int1 (by rfl) T.b_int (by decide +kernel) (pa_cons (pe_op op_add (pe_op op_add (pe_ix ix_list (pv 0) pe_int (fun _ _ => rfl)) (pe_op op_mul (pe_op op_mul pe_int (pe_ix ix_list (pv 0) pe_int (fun _ _ => rfl))) (pe_ix ix_list (pv 0) pe_int (fun _ _ => rfl)))) pe_int) pa_nil)) pe_int) pa_nil)) (pv 3))) (pss_cons (ps_set (i := 4) nd rfl (Or.inl rfl) (pe_op op_modN (pe_callTy call_int1 (by rfl) T.b_int (by decide +kernel) (pa_cons (pe_op op_mul (pv 4) (pe_op op_add (pe_op op_modN (pe_callTy call_int1 (by rfl) T.b_int (by decide +kernel) (pa_cons (pv 4) pa_nil)) pe_int) (pe_op op_mul pe_int (pe_ix ix_list (pv 0) pe_int (fun _ _ => rfl))))) pa_nil)) pe_int)) (pss_one (ps_ret (pe_op op_modN (pe_callTy call_int1 (by rfl) T.b_int (by decide +kernel) (pa_cons (pe_op op_fdivN (pv 4) pe_int) pa_nil)) (pv 1))))))))), ?_⟩
    refine ⟨_, rfl, p, _, _, _, rfl, rfl, SqL.of hp, rfl, _, _, rfl, rfl, _, rfl, ?_⟩
    refine ite2 (fun _ => ?_) (fun _ => ?_)
    · refine ⟨_, rfl, p, _, _, _, rfl, rfl, SqL.of hp, rfl, .inl ⟨_, rfl, _, rfl, _, _, rfl, rfl, (by show m ≠ 0; omega), ?_⟩⟩
      refine ⟨_, rfl, p, _, _, _, rfl, rfl, SqL.of hp, rfl, _, rfl, _, _, rfl, rfl, ⟨by omega, by omega⟩, ?_⟩
      refine ⟨_, rfl, p, _, _, 0, rfl, rfl, hp, rfl, ?_⟩
      refine ⟨_, rfl, ?_⟩
      refine k _ _ (fm_nn m0) (fm_lt m0) ⟨ext_over wp.ext wp.no, wp.no, ⟨_, b, c, upd_same, fd_nn a0 m0, b0, b1, c0, by omega⟩⟩
    · refine ⟨_, rfl, p, _, _, _, rfl, rfl, SqL.of hp, rfl, _, _, rfl, rfl, _, rfl, p, _, _, 2, rfl, rfl, hp, rfl, ?_⟩
      refine ⟨by show 5 ≤ sizeLine; decide, fun l hl => ?_⟩
      have ne : p ≠ l := fun z => by
        rw [← z, upd_same] at hl
        cases hl
      have hp2 : upd (upd H p (.lst [.int a, .int b, .int (c + 1)])) l (.lst [V.int 2147483647, V.int 2147483629, V.int 2147483587, V.int 2147483579, V.int 2147483563]) p = some (.lst [.int a, .int b, .int (c + 1)]) := by
        rw [upd_ne ne]
        exact upd_same
      obtain ⟨q, hq, q0, q1⟩ := primes_at ((c + 1).fmod 5) (fm_nn (by decide)) (fm_lt (by decide))
      refine ⟨_, rfl, p, _, _, _, rfl, rfl, SqL.of hp2, rfl, .inl ⟨_, rfl, _, _, rfl, rfl, (by show (5 : Int) ≠ 0; decide), l, _, _, _, rfl, rfl, SqL.of upd_same, hq, ?_⟩⟩
      obtain ⟨s1, s2⟩ := sq_lt (c := c + 1) (by omega) (by omega)
      refine ⟨_, rfl, p, _, _, _, rfl, rfl, SqL.of hp2, rfl, _, rfl, p, _, _, _, rfl, rfl, SqL.of hp2, rfl, _, _, rfl, rfl, .inl ⟨by omega, by omega⟩, _, rfl, p, _, _, _, rfl, rfl, SqL.of hp2, rfl, _, _, rfl, rfl, .inr ⟨by omega, by omega⟩, _, _, rfl, rfl, _, _, rfl, rfl, .inl ⟨_, rfl, _, _, rfl, rfl, ⟨by decide, by decide, ?_⟩, .inl ⟨_, rfl, _, rfl, _, _, rfl, rfl, (by show q ≠ 0; omega), ?_⟩⟩⟩
      · show (b + 98123 * (c + 1) * (c + 1) + 37).natAbs < 2 ^ 64
        omega
      have x0 := fm_nn (x := (b + 98123 * (c + 1) * (c + 1) + 37) ^ (3 : Int).toNat) q0
      have x1 := fm_lt (x := (b + 98123 * (c + 1) * (c + 1) + 37) ^ (3 : Int).toNat) q0
      generalize hx : ((b + 98123 * (c + 1) * (c + 1) + 37) ^ (3 : Int).toNat).fmod q = x at x0 x1
      refine ⟨_, rfl, _, rfl, .inl ⟨_, rfl, _, _, rfl, rfl, (by show (10009 : Int) ≠ 0; decide), _, rfl, p, _, _, _, rfl, rfl, SqL.of hp2, rfl, _, _, rfl, rfl, .inl ⟨by omega, by omega⟩, _, _, rfl, rfl, _, _, rfl, rfl, ?_, .inl ⟨_, rfl, _, _, rfl, rfl, (by show (2305843009213693907 : Int) ≠ 0; decide), ?_⟩⟩⟩
      · refine .inl ⟨?_, ?_⟩
        · show -(2 ^ 64) < ((b + 98123 * (c + 1) * (c + 1) + 37) ^ (3 : Int).toNat).fmod q
          rw [hx]
          omega
        · show ((b + 98123 * (c + 1) * (c + 1) + 37) ^ (3 : Int).toNat).fmod q < 2 ^ 64
          rw [hx]
          omega
      refine ⟨_, rfl, _, _, rfl, rfl, ⟨by decide, by decide⟩, .inl ⟨_, rfl, _, rfl, _, _, rfl, rfl, (by show m ≠ 0; omega), ?_⟩⟩
      refine k _ _ (fm_nn m0) (fm_lt m0) ⟨ext_over (ext_over wp.ext wp.no) (ext_none (ext_over wp.ext wp.no) hl), wp.no, ⟨a, b, c + 1, hp2, a0, b0, b1, by omega, by omega⟩⟩

/-- the pot of a cell -/
def spPot (K : PySem.W.Frag) : Sp := fun vs H Q _ => ∃ (a : Addr) (ns : List Int) (k : Int), vs = [.ref a, .int k] ∧ SqL K H a (ns.map V.int) ∧ 0 ≤ k ∧ k ≤ 100 ∧
  ∀ (p : Addr) (x y : Int), H p = none → 0 ≤ x → 0 ≤ y → y < 2305843009213693952 → Q (.ref p) (upd H p (.lst [.int x, .int y, .int 0]))
theorem ok__law_pot (T : Tx P K mg) : FnOk P w K mg base CX0 1 T.F__law_pot T.fd__law_pot ["_law_script", "_law_k"] (spPot K) := by
  refine T._law_pot_ok.ok sc__law_pot (fun vs H Q E h => ?_) (fun cdv A outer s H vs Q E hr h => ?_)
  · obtain ⟨a, ns, k, rfl, _⟩ := h
    rfl
  · obtain ⟨a, ns, k, rfl, hS, k0, k1, q⟩ := h
    have nd := sc__law_pot.nd
    refine ⟨_, (Evl.pss_cut (ps_set (i := 2) nd rfl (Or.inl rfl) (pe_ifExp (pt_cmpR op_lt (pv 1) (pe_callB call_len_seq (by rfl) T.b_len (by decide +kernel) (pa_cons (pv 0) pa_nil)) (nomark _)) (pe_ix ix_list (pv 0) (pv 1) (fun _ _ => rfl)) (pe_op op_add (pe_op op_mul pe_int (pv 1)) pe_int))) (pss_cons (ps_set (i := 3) nd rfl (Or.inl rfl) (pe_op op_mul (pe_op op_modN (pe_callTy call_int1 (by rfl) T.b_int (by decide +kernel) (pa_cons (pe_callB call_abs (by rfl) T.b_abs (by decide +kernel) (pa_cons (pv 2) pa_nil)) pa_nil)) (pe_op op_powW (pe_op op_pow pe_int pe_int) pe_int)) (pe_callTy call_int1 (by rfl) T.b_int (by decide +kernel) (pa_cons (pe_cmpR op_ge (pe_callB call_abs (by rfl) T.b_abs (by decide +kernel) (pa_cons (pv 2) pa_nil)) (pe_op op_pow pe_int pe_int) (nomark _)) pa_nil)))) (pss_one (ps_ret (pe_lst (pa_cons (pv 3) (pa_cons (pe_op op_modN (pe_callTy call_int1 (by rfl) T.b_int (by decide +kernel) (pa_cons (pe_op op_add (pe_op op_add (pe_op op_mul (pe_op op_modN (pe_callTy call_int1 (by rfl) T.b_int (by decide +kernel) (pa_cons (pv 2) pa_nil)) pe_int) pe_int) (pe_op op_mul (pe_op op_mul pe_int (pv 1)) (pv 1))) pe_int) pa_nil)) pe_int) (pa_cons pe_int pa_nil)))))))), ?_⟩
    refine ⟨fun σ' H' => ∃ c : Int, σ' = [some (.ref a), some (.int k), some (.int c), none] ∧ H' = H, ?_, ?_⟩
    · refine ⟨_, rfl, _, rfl, a, _, rfl, .inl hS, _, _, rfl, rfl, _, rfl, ?_⟩
      refine ite2 (fun h => ?_) (fun _ => ?_)
      · have hk : k < ((ns.map V.int).length : Int) := of_decide_eq_true h
        rw [List.length_map] at hk
        obtain ⟨j, rfl⟩ : ∃ j : Nat, k = (j : Int) := ⟨k.toNat, by omega⟩
        have hj : j < ns.length := by omega
        refine ⟨_, rfl, _, rfl, a, _, _, _, rfl, rfl, hS, atI_nat (v := V.int ns[j]) ?_, ns[j], rfl, rfl⟩
        rw [List.getElem?_map, List.getElem?_eq_getElem hj]
        rfl
      · exact ⟨_, rfl, _, _, rfl, rfl, .inl ⟨by omega, by omega⟩, _, _, rfl, rfl, _, rfl, rfl⟩
    · rintro σ' H' ⟨c, rfl, rfl⟩
      refine ⟨_, rfl, _, rfl, .inl ⟨_, rfl, _, _, rfl, rfl, ⟨by decide, by decide, by decide⟩, _, _, rfl, rfl, ⟨by decide, by decide +kernel⟩, _, _, rfl, rfl, (by show ((10 : Int) ^ (60 : Int).toNat) ^ (5 : Int).toNat ≠ 0; decide +kernel), ?_⟩⟩
      generalize hA : (if c < 0 then -c else c) = A'
      have hb : (0 : Int) < (10 ^ (60 : Int).toNat) ^ (5 : Int).toNat := by decide +kernel
      refine ⟨_, rfl, _, rfl, _, _, rfl, rfl, ⟨by decide, by decide, by decide⟩, _, _, rfl, rfl, .inr ⟨_, rfl, _, _, rfl, rfl, .inr ?_, ?_⟩⟩
      · constructor <;> (split <;> omega)
      have own0 : 0 ≤ A'.fmod ((10 ^ (60 : Int).toNat) ^ (5 : Int).toNat) * (if decide ((10 : Int) ^ (18 : Int).toNat ≤ (if c < 0 then -c else c)) = true then (1 : Int) else 0) := by
        refine Int.mul_nonneg (fm_nn hb) ?_
        split <;> omega
      have y0 := fm_nn (x := c) (m := 2305843009213693951) (by decide)
      have y1 := fm_lt (x := c) (m := 2305843009213693951) (by decide)
      refine ⟨_, rfl, _, rfl, .inl ⟨_, rfl, _, _, rfl, rfl, (by show (2305843009213693951 : Int) ≠ 0; decide), _, _, rfl, rfl, .inr ⟨by decide, by decide⟩, _, rfl, _, _, rfl, rfl, .inl ⟨by decide, by decide⟩, _, rfl, _, _, rfl, rfl, .inr ⟨by omega, by omega⟩, _, _, rfl, rfl, _, _, rfl, rfl, .inl ⟨_, rfl, _, _, rfl, rfl, (by show (2305843009213693921 : Int) ≠ 0; decide), by show 3 ≤ sizeLine; decide, fun p hp => ?_⟩⟩⟩
      exact q p _ _ hp own0 (fm_nn (by decide)) (Int.lt_trans (fm_lt (by decide)) (by decide))

end
end K02

namespace K02
open PySem PySem.Spec PyProof.Rows L2 L2.TP
/-! ### Rows -/
def rf (n m : Int) (t : V) : List (Str × V) := [("own_size", .int n), ("own_most", .int m), ("own_worths", t), ("own_counter", .non), ("own_name", .non)]
theorem lk_no {k a : Str} {b : V} {l : List (Str × V)} (h : (k == a) = false) : List.lookup k ((a, b) :: l) = List.lookup k l := by simp [List.lookup, h]
theorem lk_yes {k : Str} {b : V} {l : List (Str × V)} : List.lookup k ((k, b) :: l) = some b := by simp [List.lookup]
theorem pf_no {f g : Str} {v x : V} {r : List (Str × V)} (h : (g == f) = false) : putF f v ((g, x) :: r) = (g, x) :: putF f v r := by
  show (if g = f then _ else _) = _
  rw [if_neg (by simpa using h)]
theorem pf_yes {f : Str} {v x : V} {r : List (Str × V)} : putF f v ((f, x) :: r) = (f, v) :: r := by
  show (if f = f then _ else _) = _
  rw [if_pos rfl]
theorem pf_nil {f : Str} {v : V} : putF f v [] = [(f, v)] := rfl
theorem rf_size (n m : Int) (t : V) : (rf n m t).lookup ("own_size" : Str) = some (.int n) := lk_yes
theorem rf_most (n m : Int) (t : V) : (rf n m t).lookup ("own_most" : Str) = some (.int m) := (lk_no (by decide +kernel)).trans lk_yes
theorem rf_worths (n m : Int) (t : V) : (rf n m t).lookup ("own_worths" : Str) = some t := (lk_no (by decide +kernel)).trans ((lk_no (by decide +kernel)).trans lk_yes)
theorem rf_counter (n m : Int) (t : V) : (rf n m t).lookup ("own_counter" : Str) = some .non := (lk_no (by decide +kernel)).trans ((lk_no (by decide +kernel)).trans ((lk_no (by decide +kernel)).trans lk_yes))
theorem rf_put (n m : Int) (t t' : V) : putF "own_worths" t' (rf n m t) = rf n m t' := by
  unfold rf
  rw [pf_no (by decide +kernel), pf_no (by decide +kernel), pf_yes]
theorem pf_b {f : Str} {v : V} : ∀ {l : List (Str × V)} {k : Nat}, l.length ≤ k → (putF f v l).length ≤ k + 1
  | [], k, _ => by rw [pf_nil]; exact Nat.succ_le_succ (Nat.zero_le _)
  | (g, x) :: r, k, h => by
    show (if g = f then _ else _ : List (Str × V)).length ≤ k + 1
    split
    · exact Nat.le_succ_of_le h
    · match k, h with
      | k + 1, h => exact Nat.succ_le_succ (pf_b (Nat.le_of_succ_le_succ h))
theorem rf_make (n m : Int) (t : V) : putF "own_name" .non (putF "own_counter" .non (putF "own_worths" t (putF "own_most" (.int m) (putF "own_size" (.int n) [])))) = rf n m t := by
  have r2 : putF "own_most" (.int m) (putF "own_size" (.int n) []) = ([("own_size", .int n), ("own_most", .int m)] : List (Str × V)) := by
    rw [pf_nil, pf_no (by decide +kernel), pf_nil]
  have r3 : putF "own_worths" t [("own_size", .int n), ("own_most", .int m)] = ([("own_size", .int n), ("own_most", .int m), ("own_worths", t)] : List (Str × V)) := by
    rw [pf_no (by decide +kernel), pf_no (by decide +kernel), pf_nil]
  have r4 : putF "own_counter" .non [("own_size", .int n), ("own_most", .int m), ("own_worths", t)] = ([("own_size", .int n), ("own_most", .int m), ("own_worths", t), ("own_counter", .non)] : List (Str × V)) := by
    rw [pf_no (by decide +kernel), pf_no (by decide +kernel), pf_no (by decide +kernel), pf_nil]
  have r5 : putF "own_name" .non [("own_size", .int n), ("own_most", .int m), ("own_worths", t), ("own_counter", .non)] = rf n m t := by
    rw [pf_no (by decide +kernel), pf_no (by decide +kernel), pf_no (by decide +kernel), pf_no (by decide +kernel), pf_nil]
    rfl
  rw [r2, r3, r4, r5]
/-- what a row may hold -/
structure Row2 (n m : Int) (ws : List Int) : Prop where
  n2 : 2 ≤ n
  n4 : n ≤ 4
  m1 : 1 ≤ m
  m2 : m ≤ 2
  len : (ws.length : Int) ≤ m
  all : ∀ x ∈ ws, 0 ≤ x ∧ x < n
def RowAt (C : Addr) (H : Hp) (r : Addr) (n m : Int) (ws : List Int) : Prop := ∃ dx t, H r = some (.ins C dx (rf n m (.ref t))) ∧ H t = some (.tup (ws.map V.int))
theorem RowAt.ext {C : Addr} {H H' : Hp} {r : Addr} {n m : Int} {ws : List Int} (h : RowAt C H r n m ws) (e : Ext H H') : RowAt C H' r n m ws := by
  obtain ⟨dx, t, h1, h2⟩ := h
  exact ⟨dx, t, e _ _ h1, e _ _ h2⟩
/-- all but what stands at r -/
def ExtB (r : Addr) (H H' : Hp) : Prop := ∀ a o, a ≠ r → H a = some o → H' a = some o
theorem ExtB.of {r : Addr} {H H' : Hp} (h : Ext H H') : ExtB r H H' := fun a o _ e => h a o e
theorem ExtB.trans {r : Addr} {H H' H2 : Hp} (h : ExtB r H H') (h2 : ExtB r H' H2) : ExtB r H H2 := fun a o n e => h2 a o n (h a o n e)
theorem extB_upd {r : Addr} {H : Hp} {o : HO} : ExtB r H (upd H r o) := fun a o' n e => by rw [upd_ne n]; exact e
/-- an own fault of one word -/
def WordE (CF : Addr) (x : Str) (H : Hp) (E : XK) : Prop := ∀ (H' : Hp) (t d : Addr), Ext H H' → H' t = some (.tup [.str x]) → H' d = some (.xd [("words", .ref t), ("what", .non)]) → E (.ref CF) (some d) H'
theorem WordE.imp {CF : Addr} {x : Str} {H H' : Hp} {E : XK} (h : WordE CF x H E) (e : Ext H H') : WordE CF x H' E := fun H2 t d y => h H2 t d (e.trans y)
theorem len_map (ws : List Int) : ((ws.map V.int).length : Int) = ws.length := by rw [List.length_map]
theorem two_of {n m : Int} {ws : List Int} (h : Row2 n m ws) : ws = [] ∨ (∃ a, ws = [a]) ∨ ∃ a b, ws = [a, b] := by
  match ws, h with
  | [], _ => exact .inl rfl
  | [a], _ => exact .inr (.inl ⟨a, rfl⟩)
  | [a, b], _ => exact .inr (.inr ⟨a, b, rfl⟩)
  | a :: b :: c :: r, h =>
    have := h.m2
    have q := h.len
    simp only [List.length_cons] at q
    omega
section
variable {P : Program} {w : World} {K : PySem.W.Frag} {mg : Str → Option Value} {base : Heap}
def spAre : Sp := fun vs H Q _ => ∃ (n m : Int) (t : Addr) (ws : List Int), vs = [.int n, .int m, .ref t] ∧ H t = some (.tup (ws.map V.int)) ∧ Row2 n m ws ∧ ∀ H', Ext H H' → Q (.bl true) H'
theorem ok_are_items (T : Tx P K mg) : FnOk P w K mg base CX0 4 T.F_are_items T.fd_are_items ["size", "most", "value"] spAre := by
  refine T.are_items_ok.ok sc_are_items (fun vs H Q E h => ?_) (fun cdv A outer s H vs Q E hr h => ?_)
  · obtain ⟨n, m, t, ws, rfl, _⟩ := h
    rfl
  · obtain ⟨n, m, t, ws, rfl, ht, R, k⟩ := h
    have nd := sc_are_items.nd
    refine ⟨_, (pss_cons (ps_if (PW.pt (pw_or (pt_not (pt_val (pe_callB call_isi (by rfl) T.b_isinstance (by decide +kernel) (pa_cons (pv 2) (pa_cons (pe_bltn (by rfl) T.b_tuple (by decide +kernel) (v := .ty "tuple") rfl) pa_nil))))) (pw_or1 (pt_cmpR op_gt (pe_callB call_len_seq (by rfl) T.b_len (by decide +kernel) (pa_cons (pv 2) pa_nil)) (pv 1) (nomark _))))) (pss_one (ps_ret pe_bl)) pss_nil) (pss_one (ps_ret (pe_callB (cr_all rfl) (by rfl) T.b_all (by decide +kernel) (pa_cons (pe_lc (own := [("one", 3)]) (g := gName 3) (by rfl) nd (pi_tup (pv 2)) (blkOk_by (own := [("one", 3)]) (N := N_are_items) (sc := defScope s_are_items) (by decide +kernel)) (fun _ _ _ _ _ => (pg_name (i := 3) nd rfl (Or.inl rfl))) (fun _ _ _ _ _ => pts_nil) (fun _ _ _ _ _ => (pe_call (ok_is_from T) (hr.mono (by decide)) rfl T.is_from_mg T.is_from_ok.kp T.b_is_from .nil pass0 (pa_cons (pv 3) (pa_cons pe_int (pa_cons (pe_op op_sub (pv 0) pe_int) pa_nil)))))) pa_nil))))), ?_⟩
    refine ⟨_, rfl, _, _, _, _, _, rfl, .ty _, .base (.tup ht), kit_ty (r := true) (by decide +kernel), _, rfl, iteF ?_⟩
    refine ⟨_, rfl, t, _, rfl, .inr (SqT.of ht), _, rfl, _, _, rfl, rfl, _, rfl, ?_⟩
    have := R.len
    refine (if_neg (show ¬ decide (m < ((ws.map V.int).length : Int)) = true by rw [len_map]; exact fun z => absurd (of_decide_eq_true z) (by omega))).mpr ?_
    refine ⟨_, rfl, t, rfl, ⟨_, SqT.of ht⟩, fun D hD => ?_⟩
    refine lc_tup (K := K) (a := t) (xs := ws.map V.int) (fun i H'' => Ext H H'' ∧ H'' D = some (.lst (List.replicate i (.bl true)))) ⟨ext_upd hD, upd_same⟩ (fun i H'' _ h => SqT.of (h.1 _ _ ht)) (fun i v H'' hv h => ?_) (fun H'' h => ?_)
    · rw [List.getElem?_map] at hv
      cases e : ws[i]? with
      | none => rw [e] at hv; cases hv
      | some x =>
        rw [e] at hv
        cases hv
        obtain ⟨x0, xn⟩ := R.all x (List.mem_of_getElem? e)
        have i2 : i < ws.length := (List.getElem?_eq_some_iff.mp e).1
        have := R.m2
        refine ⟨rfl, ?_⟩
        refine ⟨_, rfl, _, rfl, _, _, rfl, rfl, x, 0, n - 1, rfl, ?_⟩
        rw [decide_eq_true x0, decide_eq_true (by omega : x ≤ n - 1)]
        refine ⟨_, h.2, by rw [List.length_replicate]; exact Nat.lt_trans (by omega : i < 4) (by decide), ?_⟩
        refine ⟨ext_over h.1 hD, ?_⟩
        rw [upd_same, List.replicate_succ']
        rfl
    · rw [List.length_map] at h
      refine ⟨D, List.replicate ws.length true, rfl, List.map_replicate.symm ▸ SqL.of h.2, ?_⟩
      rw [show (List.replicate ws.length true).all id = true by simp]
      exact k _ h.1
def spRInit (C : Addr) : Sp := fun vs H Q _ => ∃ (x dx : Addr) (n m : Int) (t : Addr) (ws : List Int), vs = [.ref x, .int n, .int m, .ref t] ∧ H x = some (.ins C dx []) ∧ H t = some (.tup (ws.map V.int)) ∧ Row2 n m ws ∧
  ∀ H', ExtB x H H' → H' x = some (.ins C dx (rf n m (.ref t))) → Q .non H'
theorem ok_Row__init__ (T : Tx P K mg) : FnOk P w K mg base CX0 5 T.F_Row___init__ T.fd_Row___init__ ["self", "size", "most", "items"] (spRInit T.C_Row) := by
  refine T.Row___init___ok.ok sc_Row___init__ (fun vs H Q E h => ?_) (fun cdv A outer s H vs Q E hr h => ?_)
  · obtain ⟨x, dx, n, m, t, ws, rfl, _⟩ := h
    rfl
  · obtain ⟨x, dx, n, m, t, ws, rfl, hx, ht, R, q⟩ := h
    have nd := sc_Row___init__.nd
    refine ⟨_, (pss_cons (ps_if (pt_not (pt_val (pe_call (ok_is_from T) (hr.mono (by decide)) rfl T.is_from_mg T.is_from_ok.kp T.b_is_from .nil pass0 (pa_cons (pv 1) (pa_cons (pe_glob (v := .int 2) rfl T.k_LEAST_SIZE ⟨_, rfl⟩) (pa_cons (pe_glob (v := .int 4) rfl T.k_MOST_SIZE ⟨_, rfl⟩) pa_nil)))))) (pss_one ps_never) pss_nil) (pss_cons (ps_if (pt_not (pt_val (pe_call (ok_is_from T) (hr.mono (by decide)) rfl T.is_from_mg T.is_from_ok.kp T.b_is_from .nil pass0 (pa_cons (pv 2) (pa_cons (pe_glob (v := .int 1) rfl T.k_LEAST_MOST ⟨_, rfl⟩) (pa_cons (pe_glob (v := .int 2) rfl T.k_GREATEST_MOST ⟨_, rfl⟩) pa_nil)))))) (pss_one ps_never) pss_nil) (pss_cons (ps_if (pt_not (pt_val (pe_call (ok_are_items T) (hr.mono (by decide)) rfl T.are_items_mg T.are_items_ok.kp T.b_are_items .nil pass0 (pa_cons (pv 1) (pa_cons (pv 2) (pa_cons (pv 3) pa_nil)))))) (pss_one ps_never) pss_nil) (pss_cons (ps_fld (pv 0) (pv 1) rfl) (pss_cons (ps_fld (pv 0) (pv 2) rfl) (pss_cons (ps_fld (pv 0) (pv 3) rfl) (pss_cons (ps_fld (pv 0) pe_non rfl) (pss_one (ps_fld (pv 0) pe_non rfl))))))))), ?_⟩
    refine ⟨_, rfl, n, 2, 4, rfl, _, rfl, ?_⟩
    rw [decide_eq_true R.n2, decide_eq_true R.n4]
    refine iteF ?_
    refine ⟨_, rfl, m, 1, 2, rfl, _, rfl, ?_⟩
    rw [decide_eq_true R.m1, decide_eq_true R.m2]
    refine iteF ?_
    refine ⟨_, rfl, _, rfl, _, rfl, n, m, t, ws, rfl, ht, R, fun H1 x1 => ?_⟩
    refine ⟨_, rfl, iteF ?_⟩
    refine ⟨_, rfl, _, rfl, x, T.C_Row, dx, [], rfl, x1 _ _ hx, T.Row_cl, T.x_n_size, by decide, ?_⟩
    refine ⟨_, rfl, _, rfl, x, T.C_Row, dx, _, rfl, upd_same, T.Row_cl, T.x_n_most, Nat.lt_of_le_of_lt (pf_b (Nat.le_refl 0)) (by decide), ?_⟩
    refine ⟨_, rfl, _, rfl, x, T.C_Row, dx, _, rfl, upd_same, T.Row_cl, T.x_n_worths, Nat.lt_of_le_of_lt (pf_b (pf_b (Nat.le_refl 0))) (by decide), ?_⟩
    refine ⟨_, rfl, x, T.C_Row, dx, _, rfl, upd_same, T.Row_cl, T.x_n_counter, Nat.lt_of_le_of_lt (pf_b (pf_b (pf_b (Nat.le_refl 0)))) (by decide), ?_⟩
    refine ⟨_, rfl, x, T.C_Row, dx, _, rfl, upd_same, T.Row_cl, T.x_n_name, Nat.lt_of_le_of_lt (pf_b (pf_b (pf_b (pf_b (Nat.le_refl 0))))) (by decide), ?_⟩
    rw [upd_upd, upd_upd, upd_upd, upd_upd, rf_make]
    exact q _ ((ExtB.of x1).trans extB_upd) upd_same
theorem ok_Row_worths (T : Tx P K mg) : FnOk P w K mg base CX0 1 T.F_Row_worths T.fd_Row_worths ["self"] (getSp T.C_Row "own_worths") := by
  obtain ⟨oc, od, kV, doc, pm, an, cdv, ct, osl, e, lk, hcd⟩ := T.Row_worths_ok.ex
  rw [e] at lk ⊢
  exact fn_getter lk hcd sc_Row_worths rfl rfl T.Row_cl T.x_n_worths
def spLen (C : Addr) : Sp := fun vs H Q _ => ∃ (r : Addr) (n m : Int) (ws : List Int), vs = [.ref r] ∧ RowAt C H r n m ws ∧ Q (.int ws.length) H
theorem ok_Row___len__ (T : Tx P K mg) : FnOk P w K mg base CX0 1 T.F_Row___len__ T.fd_Row___len__ ["self"] (spLen T.C_Row) := by
  refine T.Row___len___ok.ok sc_Row___len__ (fun vs H Q E h => ?_) (fun cdv A outer s H vs Q E hr h => ?_)
  · obtain ⟨r, n, m, ws, rfl, _⟩ := h
    rfl
  · obtain ⟨r, n, m, ws, rfl, ⟨dx, t, er, et⟩, q⟩ := h
    have nd := sc_Row___len__.nd
    refine ⟨_, (pss_one (ps_ret (pe_callB call_len_seq (by rfl) T.b_len (by decide +kernel) (pa_cons (pe_fld (pv 0) rfl) pa_nil)))), ?_⟩
    refine ⟨_, rfl, r, T.C_Row, dx, _, _, rfl, er, T.Row_cl, T.x_n_worths, rf_worths n m _, t, _, rfl, .inr (SqT.of et), ?_⟩
    rw [len_map]
    exact q
def spHas (CN C : Addr) : Sp := fun vs H Q _ => ∃ (r : Addr) (v : V) (n m p : Int) (ws : List Int), vs = [.ref r, v] ∧ RowAt C H r n m ws ∧ IsN CN H v n p ∧ Q (.bl (decide (p < (ws.length : Int)))) H
theorem ok_Row_has (T : Tx P K mg) : FnOk P w K mg base CX0 4 T.F_Row_has T.fd_Row_has ["self", "i"] (spHas T.C_Number T.C_Row) := by
  refine T.Row_has_ok.ok sc_Row_has (fun vs H Q E h => ?_) (fun cdv A outer s H vs Q E hr h => ?_)
  · obtain ⟨r, v, n, m, p, ws, rfl, _⟩ := h
    rfl
  · obtain ⟨r, v, n, m, p, ws, rfl, ⟨dx, t, er, et⟩, hv, q⟩ := h
    have nd := sc_Row_has.nd
    refine ⟨_, (pss_one (ps_ret (pe_cmpR op_lt (pe_call (ok_worth_of T) (hr.mono (by decide)) rfl T.worth_of_mg T.worth_of_ok.kp T.b_worth_of .nil pass0 (pa_cons (pv 1) pa_nil)) (pe_callB call_len_seq (by rfl) T.b_len (by decide +kernel) (pa_cons (pe_fld (pv 0) rfl) pa_nil)) (nomark _)))), ?_⟩
    refine ⟨_, rfl, v, n, p, rfl, hv, _, rfl, r, T.C_Row, dx, _, _, rfl, er, T.Row_cl, T.x_n_worths, rf_worths n m _, t, _, rfl, .inr (SqT.of et), _, _, rfl, rfl, ?_⟩
    rw [len_map]
    exact q
def spCount (C : Addr) : Sp := fun vs H Q _ => ∃ (r : Addr) (n m : Int) (ws : List Int), vs = [.ref r] ∧ RowAt C H r n m ws ∧ Q .non H
theorem ok_Row_count (T : Tx P K mg) : FnOk P w K mg base CX0 1 T.F_Row_count T.fd_Row_count ["self"] (spCount T.C_Row) := by
  refine T.Row_count_ok.ok sc_Row_count (fun vs H Q E h => ?_) (fun cdv A outer s H vs Q E hr h => ?_)
  · obtain ⟨r, n, m, ws, rfl, _⟩ := h
    rfl
  · obtain ⟨r, n, m, ws, rfl, ⟨dx, t, er, et⟩, q⟩ := h
    have nd := sc_Row_count.nd
    refine ⟨_, (pss_one (ps_if (pt_cmpR op_notN (pe_fld (pv 0) rfl) pe_non (nomark _)) (pss_one (ps_never)) pss_nil)), ?_⟩
    exact ⟨_, rfl, r, T.C_Row, dx, _, _, rfl, er, T.Row_cl, T.x_n_counter, rf_counter n m _, rfl, _, rfl, iteF q⟩
def spWorthAt (C CF : Addr) : Sp := fun vs H Q E => ∃ (r : Addr) (n m : Int) (ws : List Int) (p : Int), vs = [.ref r, .int p, .non] ∧ RowAt C H r n m ws ∧ 0 ≤ p ∧ ((ws.length : Int) ≤ p → WordE CF "index" H E) ∧ (∀ (j : Nat) (x : Int), p = (j : Int) → ws[j]? = some x → Q (.int x) H)
theorem wd_binds (T : Tx P K mg) : ∃ ds, Vals [V.non] ds ∧ Binds K T.fd_Row_worth_at ["self", "place", "what"] ds :=
  T.Row_worth_at_ok.binds1 2 0 (by simp) rfl fun _ _ _ _ _ _ _ us its h1 h2 => match us, its, h1, h2 with | [_, _], [_], _, _ => ⟨_, rfl, rfl⟩
theorem wa_binds (T : Tx P K mg) : Binds K T.fd_Row_worth_at ["self", "place", "what"] [] := by
  obtain ⟨ds, h1, h2⟩ := T.Row_worth_at_ok.binds1 (ps := ["self", "place", "what"]) 3 1 (by simp) rfl fun _ _ _ _ _ _ _ us its h1 h2 => match us, its, h1, h2 with | [_, _, _], [_], _, _ => ⟨_, rfl, rfl⟩
  cases h1
  exact h2
theorem ok_Row_worth_at (T : Tx P K mg) : FnOk P w K mg base (L2.CX P w) 2 T.F_Row_worth_at T.fd_Row_worth_at ["self", "place", "what"] (spWorthAt T.C_Row T.C_Fault) := by
  refine T.Row_worth_at_ok.ok sc_Row_worth_at (fun vs H Q E h => ?_) (fun cdv A outer s H vs Q E hr h => ?_)
  · obtain ⟨r, n, m, ws, p, rfl, _⟩ := h
    rfl
  · obtain ⟨r, n, m, ws, p, rfl, ⟨dx, t, er, et⟩, p0, kz, kq⟩ := h
    have nd := sc_Row_worth_at.nd
    refine ⟨_, (pss_cons (ps_if (pt_cmpR op_ge (pv 1) (pe_callB call_len_seq (by rfl) T.b_len (by decide +kernel) (pa_cons (pe_fld (pv 0) rfl) pa_nil)) (nomark _)) (pss_one (ps_raiseE rfl (takes_of rfl rfl rfl rfl) T.Fault_err (by decide) hr (pa_cons (pe_tup (pa_cons (pe_glob (v := .str "index") rfl T.k_INDEX ⟨_, rfl⟩) pa_nil)) (pa_cons (pv 2) pa_nil)))) pss_nil) (pss_one (ps_ret (pe_ix ix_tup (pe_fld (pv 0) rfl) (pv 1) (fun _ _ => rfl))))), ?_⟩
    refine ⟨_, rfl, _, rfl, r, T.C_Row, dx, _, _, rfl, er, T.Row_cl, T.x_n_worths, rf_worths n m _, t, _, rfl, .inr (SqT.of et), _, _, rfl, rfl, _, rfl, ?_⟩
    rw [len_map]
    by_cases c : (ws.length : Int) ≤ p
    · refine (if_pos (decide_eq_true c)).mpr ?_
      refine ⟨by show 1 ≤ sizeLine; decide, fun p hp => ?_⟩
      refine ⟨_, rfl, rfl, fun d hd => ?_⟩
      have ne : p ≠ d := fun z => by
        rw [← z, upd_same] at hd
        cases hd
      exact kz c _ p d ((ext_upd hp).trans (ext_upd hd)) (by rw [upd_ne ne]; exact upd_same) upd_same
    · refine (if_neg (show ¬ decide ((ws.length : Int) ≤ p) = true from fun z => c (of_decide_eq_true z))).mpr ?_
      obtain ⟨j, rfl⟩ : ∃ j : Nat, p = (j : Int) := ⟨p.toNat, by omega⟩
      have hj : j < ws.length := by omega
      refine ⟨_, rfl, r, T.C_Row, dx, _, _, rfl, er, T.Row_cl, T.x_n_worths, rf_worths n m _, _, rfl, t, _, _, _, rfl, rfl, SqT.of et, atI_nat (v := V.int ws[j]) ?_, ?_⟩
      · rw [List.getElem?_map, List.getElem?_eq_getElem hj]
        rfl
      · exact kq j _ rfl (List.getElem?_eq_getElem hj)
def spLay (C CF : Addr) : Sp := fun vs H Q E => ∃ (r : Addr) (n m : Int) (ws : List Int) (p x : Int), vs = [.ref r, .int p, .int x, .non] ∧ RowAt C H r n m ws ∧ Row2 n m ws ∧ 0 ≤ p ∧ ((ws.length : Int) ≤ p → WordE CF "index" H E) ∧
  (∀ (j : Nat), p = (j : Int) → j < ws.length → ∀ H', ExtB r H H' → RowAt C H' r n m (ws.set j x) → Q .non H')
theorem lay_binds (T : Tx P K mg) : ∃ ds, Vals [V.non] ds ∧ Binds K T.fd_Row_lay ["self", "place", "worth", "what"] ds :=
  T.Row_lay_ok.binds1 3 0 (by simp) rfl fun _ _ _ _ _ _ _ us its h1 h2 => match us, its, h1, h2 with | [_, _, _], [_], _, _ => ⟨_, rfl, rfl⟩
theorem cut_set {n m : Int} {ws : List Int} (R : Row2 n m ws) (j : Nat) (hj : j < ws.length) (x : Int) : ¬ (HT.sIx (ws.map V.int).length 0 none = 0 ∧ HT.sIx (ws.map V.int).length (ws.map V.int).length (some (j : Int)) = (ws.map V.int).length) ∧
    ¬ (HT.sIx (ws.map V.int).length 0 (some ((j : Int) + 1)) = 0 ∧ HT.sIx (ws.map V.int).length (ws.map V.int).length none = (ws.map V.int).length) ∧
    cutV (ws.map V.int) none (some (j : Int)) ++ (V.int x :: (cutV (ws.map V.int) (some ((j : Int) + 1)) none ++ [])) = (ws.set j x).map V.int := by
  rcases two_of R with rfl | ⟨a, rfl⟩ | ⟨a, b, rfl⟩
  · simp at hj
  · have : j = 0 := by simp at hj; omega
    subst this
    exact ⟨fun z => absurd z.2 (by simp [HT.sIx]), fun z => absurd z.1 (by simp [HT.sIx]), rfl⟩
  · have : j = 0 ∨ j = 1 := by simp at hj; omega
    rcases this with rfl | rfl
    · exact ⟨fun z => absurd z.2 (by simp [HT.sIx]), fun z => absurd z.1 (by simp [HT.sIx]), rfl⟩
    · exact ⟨fun z => absurd z.2 (by simp [HT.sIx]), fun z => absurd z.1 (by simp [HT.sIx]), rfl⟩
theorem ok_Row_lay (T : Tx P K mg) : FnOk P w K mg base (L2.CX P w) 4 T.F_Row_lay T.fd_Row_lay ["self", "place", "worth", "what"] (spLay T.C_Row T.C_Fault) := by
  refine T.Row_lay_ok.ok sc_Row_lay (fun vs H Q E h => ?_) (fun cdv A outer s H vs Q E hr h => ?_)
  · obtain ⟨r, n, m, ws, p, x, rfl, _⟩ := h
    rfl
  · obtain ⟨r, n, m, ws, p, x, rfl, hR, R, p0, kz, kq⟩ := h
    have nd := sc_Row_lay.nd
    obtain ⟨dx, t, er, et⟩ := id hR
    refine ⟨_, (pss_cons (ps_expr (pe_meth (pv 0) T.Row_cl ⟨T.Row_worth_at_sl.at_, T.Row_worth_at_sl.fn, T.Row_worth_at_ok.kp⟩ (ok_Row_worth_at T) (hr.mono (by decide)) (wa_binds T) .nil (passes_call (takes_of rfl rfl rfl rfl) (fun _ _ _ _ z => z)) (pa_cons (pv 1) (pa_cons (pv 3) pa_nil)))) (pss_one (ps_fld (pv 0) (pe_tup (pa_star (pe_slice sl_tup (pe_fld (pv 0) rfl) po_none (po_some (pv 1))) (pa_cons (pv 2) (pa_star (pe_slice sl_tup (pe_fld (pv 0) rfl) (po_some (pe_op op_add (pv 1) pe_int)) po_none) pa_nil)))) rfl))), ?_⟩
    refine ⟨_, rfl, r, dx, _, rfl, er, by kernel_rfl, _, rfl, _, rfl, r, n, m, ws, p, rfl, hR, p0, kz, fun j y hp hj => ?_⟩
    subst hp
    have hj2 : j < ws.length := (List.getElem?_eq_some_iff.mp hj).1
    obtain ⟨c1, c2, c3⟩ := cut_set R j hj2 x
    refine ⟨_, rfl, r, T.C_Row, dx, _, _, rfl, er, T.Row_cl, T.x_n_worths, rf_worths n m _, _, rfl, _, rfl, t, _, rfl, SqT.of et, c1, fun p1 hp1 => ?_⟩
    refine ⟨p1, _, rfl, SqT.of upd_same, _, rfl, ?_⟩
    have x1 := ext_upd (o := .tup (cutV (ws.map V.int) none (some (j : Int)))) hp1
    refine ⟨_, rfl, r, T.C_Row, dx, _, _, rfl, x1 _ _ er, T.Row_cl, T.x_n_worths, rf_worths n m _, _, rfl, _, _, rfl, rfl, _, rfl, t, _, rfl, SqT.of (x1 _ _ et), c2, fun p2 hp2 => ?_⟩
    refine ⟨p2, _, rfl, SqT.of upd_same, ?_⟩
    have x2 := ext_upd (o := .tup (cutV (ws.map V.int) (some ((j : Int) + 1)) none)) hp2
    refine ⟨?_, fun p3 hp3 => ?_⟩
    · show (cutV (ws.map V.int) none (some (j : Int)) ++ (V.int x :: (cutV (ws.map V.int) (some ((j : Int) + 1)) none ++ []))).length ≤ sizeLine
      rw [c3, List.length_map, List.length_set]
      have := R.len
      have := R.m2
      exact Nat.le_trans (by omega : ws.length ≤ 2) (by decide)
    have x3 := (x1.trans x2).trans (ext_upd (o := .tup (cutV (ws.map V.int) none (some (j : Int)) ++ (V.int x :: (cutV (ws.map V.int) (some ((j : Int) + 1)) none ++ [])))) hp3)
    refine ⟨_, rfl, r, T.C_Row, dx, _, rfl, x3 _ _ er, T.Row_cl, T.x_n_worths, ?_, ?_⟩
    · show 5 < 1000
      decide
    rw [rf_put]
    refine kq j rfl hj2 _ ((ExtB.of x3).trans extB_upd) ⟨dx, p3, upd_same, ?_⟩
    have ne : p3 ≠ r := fun z => by
      rw [z] at hp3
      rw [(x1.trans x2) _ _ er] at hp3
      cases hp3
    rw [upd_ne ne, upd_same]
    exact congrArg (fun z => some (HO.tup z)) c3
def spPush (C CF : Addr) : Sp := fun vs H Q E => ∃ (r : Addr) (n m : Int) (ws : List Int) (x : Int), vs = [.ref r, .int x, .non] ∧ RowAt C H r n m ws ∧ Row2 n m ws ∧ ((ws.length : Int) = m → WordE CF "full" H E) ∧
  ((ws.length : Int) < m → ∀ H', ExtB r H H' → RowAt C H' r n m (ws ++ [x]) → Q .non H')
theorem push_binds (T : Tx P K mg) : ∃ ds, Vals [V.non] ds ∧ Binds K T.fd_Row_push ["self", "worth", "what"] ds :=
  T.Row_push_ok.binds1 2 0 (by simp) rfl fun _ _ _ _ _ _ _ us its h1 h2 => match us, its, h1, h2 with | [_, _], [_], _, _ => ⟨_, rfl, rfl⟩
theorem ok_Row_push (T : Tx P K mg) : FnOk P w K mg base (L2.CX P w) 2 T.F_Row_push T.fd_Row_push ["self", "worth", "what"] (spPush T.C_Row T.C_Fault) := by
  refine T.Row_push_ok.ok sc_Row_push (fun vs H Q E h => ?_) (fun cdv A outer s H vs Q E hr h => ?_)
  · obtain ⟨r, n, m, ws, x, rfl, _⟩ := h
    rfl
  · obtain ⟨r, n, m, ws, x, rfl, hR, R, kz, kq⟩ := h
    have nd := sc_Row_push.nd
    obtain ⟨dx, t, er, et⟩ := id hR
    refine ⟨_, (pss_cons (ps_if (pt_cmpR op_eq (pe_callB call_len_seq (by rfl) T.b_len (by decide +kernel) (pa_cons (pe_fld (pv 0) rfl) pa_nil)) (pe_fld (pv 0) rfl) (nomark _)) (pss_one (ps_raiseE rfl (takes_of rfl rfl rfl rfl) T.Fault_err (by decide) hr (pa_cons (pe_tup (pa_cons (pe_glob (v := .str "full") rfl T.k_FULL ⟨_, rfl⟩) pa_nil)) (pa_cons (pv 2) pa_nil)))) pss_nil) (pss_one (ps_fld (pv 0) (pe_tup (pa_star (pe_fld (pv 0) rfl) (pa_cons (pv 1) pa_nil))) rfl))), ?_⟩
    refine ⟨_, rfl, r, T.C_Row, dx, _, _, rfl, er, T.Row_cl, T.x_n_worths, rf_worths n m _, t, _, rfl, .inr (SqT.of et), _, rfl, r, T.C_Row, dx, _, _, rfl, er, T.Row_cl, T.x_n_most, rf_most n m _, rfl, _, rfl, ?_⟩
    rw [len_map]
    by_cases c : (ws.length : Int) = m
    · refine (if_pos (decide_eq_true (by rw [c]))).mpr ?_
      refine ⟨by show 1 ≤ sizeLine; decide, fun p hp => ?_⟩
      refine ⟨_, rfl, rfl, fun d hd => ?_⟩
      have ne : p ≠ d := fun z => by
        rw [← z, upd_same] at hd
        cases hd
      exact kz c _ p d ((ext_upd hp).trans (ext_upd hd)) (by rw [upd_ne ne]; exact upd_same) upd_same
    · refine (if_neg (show ¬ decide (V.int (ws.length : Int) = V.int m) = true from fun z => c (by injection of_decide_eq_true z))).mpr ?_
      have l := R.len
      have m2 := R.m2
      refine ⟨_, rfl, r, T.C_Row, dx, _, _, rfl, er, T.Row_cl, T.x_n_worths, rf_worths n m _, t, _, rfl, SqT.of et, _, rfl, ?_⟩
      have c3 : (ws.map V.int) ++ (V.int x :: []) = (ws ++ [x]).map V.int := by rw [List.map_append]; rfl
      refine ⟨?_, fun p3 hp3 => ?_⟩
      · show ((ws.map V.int) ++ (V.int x :: [])).length ≤ sizeLine
        rw [c3, List.length_map, List.length_append]
        exact Nat.le_trans (by simp; omega : ws.length + [x].length ≤ 3) (by decide)
      have x3 := ext_upd (o := .tup ((ws.map V.int) ++ (V.int x :: []))) hp3
      refine ⟨_, rfl, r, T.C_Row, dx, _, rfl, x3 _ _ er, T.Row_cl, T.x_n_worths, ?_, ?_⟩
      · show 5 < 1000
        decide
      rw [rf_put]
      refine kq (by omega) _ ((ExtB.of x3).trans extB_upd) ⟨dx, p3, upd_same, ?_⟩
      have ne : p3 ≠ r := fun z => by
        rw [z] at hp3
        rw [er] at hp3
        cases hp3
      rw [upd_ne ne, upd_same]
      exact congrArg (fun z => some (HO.tup z)) c3
def spGet (CN C CF : Addr) : Sp := fun vs H Q E => ∃ (r : Addr) (v : V) (n m : Int) (ws : List Int) (p : Int), vs = [.ref r, v] ∧ RowAt C H r n m ws ∧ Row2 n m ws ∧ IsN CN H v n p ∧ ((ws.length : Int) ≤ p → WordE CF "index" H E) ∧
  (∀ (j : Nat) (x : Int), p = (j : Int) → ws[j]? = some x → ∀ z H', Ext H H' → NumAt CN H' z n x → Q (.ref z) H')
theorem IsN.bounds {C : Addr} {H : Hp} {v : V} {n q : Int} (h : IsN C H v n q) : 0 ≤ q ∧ q < n := by
  rcases h with ⟨a, _, h⟩ | ⟨_, h1, h2⟩
  · exact ⟨h.p0, h.pn⟩
  · exact ⟨h1, h2⟩
theorem ok_Row___getitem__ (T : Tx P K mg) : FnOk P w K mg base (L2.CX P w) 6 T.F_Row___getitem__ T.fd_Row___getitem__ ["self", "i"] (spGet T.C_Number T.C_Row T.C_Fault) := by
  obtain ⟨ds, wd, wb⟩ := wd_binds T
  refine T.Row___getitem___ok.okX sc_Row___getitem__ (fun vs H Q E h => ?_) (fun cdv A outer s H vs Q E hr h => ?_)
  · obtain ⟨r, v, n, m, ws, p, rfl, _⟩ := h
    rfl
  · obtain ⟨r, v, n, m, ws, p, rfl, hR, R, hv, kz, kq⟩ := h
    have nd := sc_Row___getitem__.nd
    obtain ⟨dx, t, er, et⟩ := id hR
    refine ⟨_, (pss_one (ps_ret (pe_make T.Number_mk (ok_Number__init__ T) (hr.mono (by decide)) (by rfl) T.Number_mg T.b_Number___init__ .nil pass0 (pa_cons (pe_fld (pv 0) rfl) (pa_cons (pe_meth (pv 0) T.Row_cl ⟨T.Row_worth_at_sl.at_, T.Row_worth_at_sl.fn, T.Row_worth_at_ok.kp⟩ (ok_Row_worth_at T) (hr.mono (by decide)) wb wd (passes_call (takes_of rfl rfl rfl rfl) (fun _ _ _ _ z => z)) (pa_cons (pe_call (ok_worth_of T) (hr.mono (by decide)) rfl T.worth_of_mg T.worth_of_ok.kp T.b_worth_of .nil pass0 (pa_cons (pv 1) pa_nil)) pa_nil)) pa_nil))))), ?_⟩
    refine ⟨_, rfl, r, T.C_Row, dx, _, _, rfl, er, T.Row_cl, T.x_n_size, rf_size n m _, _, rfl, r, dx, _, rfl, er, by kernel_rfl, _, rfl, v, n, p, rfl, hv, r, n, m, ws, p, rfl, hR, hv.bounds.1, kz, fun j x hp hj => ?_⟩
    obtain ⟨x0, xn⟩ := R.all x (List.mem_of_getElem? hj)
    exact made (C := T.C_Number) R.n2 R.n4 x0 xn (kq j x hp hj)
def spSetI (CN C CF : Addr) : Sp := fun vs H Q E => ∃ (r : Addr) (v u : V) (n m : Int) (ws : List Int) (p x : Int), vs = [.ref r, v, u] ∧ RowAt C H r n m ws ∧ Row2 n m ws ∧ IsN CN H v n p ∧ IsN CN H u n x ∧ ((ws.length : Int) ≤ p → WordE CF "index" H E) ∧
  (∀ (j : Nat), p = (j : Int) → j < ws.length → ∀ H', ExtB r H H' → RowAt C H' r n m (ws.set j x) → Q .non H')
theorem ok_Row___setitem__ (T : Tx P K mg) : FnOk P w K mg base (L2.CX P w) 6 T.F_Row___setitem__ T.fd_Row___setitem__ ["self", "i", "x"] (spSetI T.C_Number T.C_Row T.C_Fault) := by
  obtain ⟨ds, ld, lb⟩ := lay_binds T
  refine T.Row___setitem___ok.okX sc_Row___setitem__ (fun vs H Q E h => ?_) (fun cdv A outer s H vs Q E hr h => ?_)
  · obtain ⟨r, v, u, n, m, ws, p, x, rfl, _⟩ := h
    rfl
  · obtain ⟨r, v, u, n, m, ws, p, x, rfl, hR, R, hv, hu, kz, kq⟩ := h
    have nd := sc_Row___setitem__.nd
    obtain ⟨dx, t, er, et⟩ := id hR
    refine ⟨_, (pss_cons (ps_expr (pe_meth0 (pv 0) T.Row_cl ⟨T.Row_count_sl.at_, T.Row_count_sl.fn, T.Row_count_ok.kp⟩ (ok_Row_count T) (hr.mono (by decide)) T.b_Row_count .nil pass0)) (pss_one (ps_expr (pe_meth (pv 0) T.Row_cl ⟨T.Row_lay_sl.at_, T.Row_lay_sl.fn, T.Row_lay_ok.kp⟩ (ok_Row_lay T) (hr.mono (by decide)) lb ld (passes_call (takes_of rfl rfl rfl rfl) (fun _ _ _ _ z => z)) (pa_cons (pe_call (ok_worth_of T) (hr.mono (by decide)) rfl T.worth_of_mg T.worth_of_ok.kp T.b_worth_of .nil pass0 (pa_cons (pv 1) pa_nil)) (pa_cons (pe_call (ok_worth_of T) (hr.mono (by decide)) rfl T.worth_of_mg T.worth_of_ok.kp T.b_worth_of .nil pass0 (pa_cons (pv 2) pa_nil)) pa_nil)))))), ?_⟩
    refine ⟨_, rfl, r, dx, _, rfl, er, by kernel_rfl, r, n, m, ws, rfl, hR, ?_⟩
    exact ⟨_, rfl, r, dx, _, rfl, er, by kernel_rfl, _, rfl, v, n, p, rfl, hv, _, rfl, u, n, x, rfl, hu, r, n, m, ws, p, x, rfl, hR, R, hv.bounds.1, kz, kq⟩
def spIAdd (CN C CF : Addr) : Sp := fun vs H Q E => ∃ (r : Addr) (u : V) (n m : Int) (ws : List Int) (x : Int), vs = [.ref r, u] ∧ RowAt C H r n m ws ∧ Row2 n m ws ∧ IsN CN H u n x ∧ ((ws.length : Int) = m → WordE CF "full" H E) ∧
  ((ws.length : Int) < m → ∀ H', ExtB r H H' → RowAt C H' r n m (ws ++ [x]) → Q (.ref r) H')
theorem ok_Row___iadd__ (T : Tx P K mg) : FnOk P w K mg base (L2.CX P w) 6 T.F_Row___iadd__ T.fd_Row___iadd__ ["self", "x"] (spIAdd T.C_Number T.C_Row T.C_Fault) := by
  obtain ⟨ds, ud, ub⟩ := push_binds T
  refine T.Row___iadd___ok.okX sc_Row___iadd__ (fun vs H Q E h => ?_) (fun cdv A outer s H vs Q E hr h => ?_)
  · obtain ⟨r, u, n, m, ws, x, rfl, _⟩ := h
    rfl
  · obtain ⟨r, u, n, m, ws, x, rfl, hR, R, hu, kz, kq⟩ := h
    have nd := sc_Row___iadd__.nd
    obtain ⟨dx, t, er, et⟩ := id hR
    refine ⟨_, (pss_cons (ps_expr (pe_meth0 (pv 0) T.Row_cl ⟨T.Row_count_sl.at_, T.Row_count_sl.fn, T.Row_count_ok.kp⟩ (ok_Row_count T) (hr.mono (by decide)) T.b_Row_count .nil pass0)) (pss_cons (ps_expr (pe_meth (pv 0) T.Row_cl ⟨T.Row_push_sl.at_, T.Row_push_sl.fn, T.Row_push_ok.kp⟩ (ok_Row_push T) (hr.mono (by decide)) ub ud (passes_call (takes_of rfl rfl rfl rfl) (fun _ _ _ _ z => z)) (pa_cons (pe_call (ok_worth_of T) (hr.mono (by decide)) rfl T.worth_of_mg T.worth_of_ok.kp T.b_worth_of .nil pass0 (pa_cons (pv 1) pa_nil)) pa_nil))) (pss_one (ps_ret (pv 0))))), ?_⟩
    refine ⟨_, rfl, r, dx, _, rfl, er, by kernel_rfl, r, n, m, ws, rfl, hR, ?_⟩
    refine ⟨_, rfl, r, dx, _, rfl, er, by kernel_rfl, _, rfl, u, n, x, rfl, hu, r, n, m, ws, x, rfl, hR, R, kz, fun hl H' x1 h1 => ?_⟩
    exact ⟨_, rfl, kq hl H' x1 h1⟩
end

end K02

namespace K02
open PySem PySem.Spec PyProof.Rows L2 L2.TP
theorem str_ne {x y : Str} (h : x ≠ y) : decide (V.str x = V.str y) = false := decide_eq_false fun z => h (by injection z)
theorem str_eq {x : Str} : decide (V.str x = V.str x) = true := decide_eq_true rfl
theorem int_ne {x y : Int} (h : x ≠ y) : ¬ decide (V.int x = V.int y) = true := fun z => h (by injection of_decide_eq_true z)
theorem int_eq {x y : Int} (h : x = y) : decide (V.int x = V.int y) = true := decide_eq_true (by rw [h])
theorem but_at {G H : Hp} {p a : Addr} {k : Nat} {o : HO} (w : WP G p k H) (e : H a = some o) (h : ∀ x y z, o ≠ .lst [x, y, z]) : butP H p a = some o := by
  obtain ⟨x, y, z, q, _⟩ := w.pot.at_
  have ne : a ≠ p := fun c => by
    rw [c, q] at e
    injection e with e
    exact h _ _ _ e.symm
  exact (if_neg ne).trans e
theorem IsN.but {C : Addr} {G H : Hp} {p : Addr} {k : Nat} {v : V} {n q : Int} (w : WP G p k H) (h : IsN C H v n q) : IsN C (butP H p) v n q := by
  rcases h with ⟨a, rfl, ⟨⟨dx, ex⟩, h1, h2, h3, h4⟩⟩ | h
  · exact .inl ⟨a, rfl, ⟨⟨dx, but_at w ex fun _ _ _ z => by cases z⟩, h1, h2, h3, h4⟩⟩
  · exact .inr h
/-- the pot, the row, the law's own list -/
structure W3 (C : Addr) (G : Hp) (p r l : Addr) (k : Nat) (n m : Int) (ws : List Int) (H : Hp) : Prop where
  wp : WP G p k H
  nr : G r = none
  nl : G l = none
  row : RowAt C H r n m ws
  mine : H l = some (.lst (ws.map V.int))
  R : Row2 n m ws
theorem short3 {n m : Int} {ws : List Int} (R : Row2 n m ws) (x y z : V) : HO.lst (ws.map V.int) ≠ .lst [x, y, z] := fun c => by
  injection c with c
  have q := congrArg List.length c
  rw [List.length_map] at q
  have := R.len
  have := R.m2
  simp only [List.length_cons, List.length_nil] at q
  omega
theorem W3.grow {C : Addr} {G H H' : Hp} {p r l : Addr} {k : Nat} {n m : Int} {ws : List Int} (w : W3 C G p r l k n m ws H) (e : Ext H H') : W3 C G p r l k n m ws H' :=
  ⟨w.wp.grow e, w.nr, w.nl, w.row.ext e, e _ _ w.mine, w.R⟩
theorem W3.mono {C : Addr} {G H : Hp} {p r l : Addr} {k k' : Nat} {n m : Int} {ws : List Int} (w : W3 C G p r l k n m ws H) (h : k ≤ k') : W3 C G p r l k' n m ws H :=
  ⟨w.wp.mono h, w.nr, w.nl, w.row, w.mine, w.R⟩
theorem W3.step {C : Addr} {G G' H H' : Hp} {p r l : Addr} {k k' : Nat} {n m : Int} {ws : List Int} (w : W3 C G p r l k n m ws H) (x : Ext (butP H p) G') (w' : WP G' p k' H') : W3 C G p r l k' n m ws H' := by
  have e := x.trans w'.ext
  obtain ⟨dx, t, er, et⟩ := w.row
  exact ⟨⟨(w.wp.all.2).trans e, w.wp.no, w'.pot⟩, w.nr, w.nl, ⟨dx, t, e _ _ (but_at w.wp er fun _ _ _ z => by cases z), e _ _ (but_at w.wp et fun _ _ _ z => by cases z)⟩, e _ _ (but_at w.wp w.mine (short3 w.R)), w.R⟩
theorem W3.pr {C : Addr} {G H : Hp} {p r l : Addr} {k : Nat} {n m : Int} {ws : List Int} (w : W3 C G p r l k n m ws H) : p ≠ r ∧ p ≠ l ∧ l ≠ r := by
  obtain ⟨x, y, z, q, _⟩ := w.wp.pot.at_
  obtain ⟨dx, t, er, et⟩ := w.row
  refine ⟨fun c => ?_, fun c => ?_, fun c => ?_⟩
  · rw [c, er] at q
    cases q
  · rw [c, w.mine] at q
    injection q with q
    exact short3 w.R _ _ _ q
  · have q := w.mine
    rw [c, er] at q
    cases q
/-- the row and the list go on alike -/
theorem W3.both {C : Addr} {G H H' : Hp} {p r l : Addr} {k : Nat} {n m : Int} {ws ws' : List Int} (w : W3 C G p r l k n m ws H) (x : ExtB r H H') (hR : RowAt C H' r n m ws') (R : Row2 n m ws') : W3 C G p r l k n m ws' (upd H' l (.lst (ws'.map V.int))) := by
  obtain ⟨n1, n2, n3⟩ := w.pr
  obtain ⟨a, b, c, q, h⟩ := w.wp.pot.at_
  refine ⟨⟨fun a o e => ?_, w.wp.no, ⟨a, b, c, ?_, h⟩⟩, w.nr, w.nl, ?_, upd_same, R⟩
  · have c1 : a ≠ r := fun z => by rw [z, w.nr] at e; cases e
    have c2 : a ≠ l := fun z => by rw [z, w.nl] at e; cases e
    rw [upd_ne c2]
    exact x _ _ c1 (w.wp.ext _ _ e)
  · rw [upd_ne n2]
    exact x _ _ n1 q
  · obtain ⟨dx, t, er, et⟩ := hR
    have lm : H' l = some (.lst (ws.map V.int)) := x _ _ n3 w.mine
    refine ⟨dx, t, ?_, ?_⟩
    · rw [upd_ne (Ne.symm n3)]
      exact er
    · have c : t ≠ l := fun z => by rw [z, lm] at et; cases et
      rw [upd_ne c]
      exact et
theorem W3.same {C : Addr} {G H H' : Hp} {p r l : Addr} {k : Nat} {n m : Int} {ws : List Int} (w : W3 C G p r l k n m ws H) (x : ExtB r H H') (hR : RowAt C H' r n m ws) : W3 C G p r l k n m ws H' := by
  obtain ⟨n1, n2, n3⟩ := w.pr
  obtain ⟨a, b, c, q, h⟩ := w.wp.pot.at_
  refine ⟨⟨fun a o e => ?_, w.wp.no, ⟨a, b, c, x _ _ n1 q, h⟩⟩, w.nr, w.nl, hR, x _ _ n3 w.mine, w.R⟩
  have c1 : a ≠ r := fun z => by rw [z, w.nr] at e; cases e
  exact x _ _ c1 (w.wp.ext _ _ e)
theorem Row2.set {n m : Int} {ws : List Int} (R : Row2 n m ws) (j : Nat) {x : Int} (h0 : 0 ≤ x) (h1 : x < n) : Row2 n m (ws.set j x) :=
  ⟨R.n2, R.n4, R.m1, R.m2, by rw [List.length_set]; exact R.len, fun y hy => by
    rcases List.mem_or_eq_of_mem_set hy with h | rfl
    · exact R.all y h
    · exact ⟨h0, h1⟩⟩
theorem Row2.push {n m : Int} {ws : List Int} (R : Row2 n m ws) {x : Int} (h0 : 0 ≤ x) (h1 : x < n) (hl : (ws.length : Int) < m) : Row2 n m (ws ++ [x]) :=
  ⟨R.n2, R.n4, R.m1, R.m2, by rw [List.length_append]; simp only [List.length_cons, List.length_nil]; omega, fun y hy => by
    rcases List.mem_append.mp hy with h | h
    · exact R.all y h
    · rw [List.mem_singleton] at h
      rw [h]
      exact ⟨h0, h1⟩⟩
/-- what reading a place tells -/
def readD (n : Int) (ws : List Int) (p : Int) : PyData := match ws[p.toNat]? with
  | some x => .list [.int n, .int x]
  | none => .tuple [.str "index"]
def wordD (x : Str) : PyData := .tuple [.str x]
theorem word_sm : Sm 1 100 (wordD "index") ∧ Sm 1 100 (wordD "full") := ⟨⟨by decide, by decide, by decide, by decide⟩, ⟨by decide, by decide, by decide, by decide⟩⟩
theorem int_sm {n m : Int} {ws : List Int} (R : Row2 n m ws) {x : Int} (h : x ∈ ws) : x.natAbs < 10 ^ 12 := by
  have := R.all x h
  have := R.n4
  omega
theorem read_sm {n m : Int} {ws : List Int} (R : Row2 n m ws) (p : Int) : Sm 1 200 (readD n ws p) := by
  unfold readD
  split
  · rename_i x e
    have := R.n4
    have := R.n2
    exact (Sm.lst (k := 0) (SmA.cons (Sm.int (by omega)) (SmA.cons (Sm.int (int_sm R (List.mem_of_getElem? e))) (SmA.nil (w := 0))))).mono (by decide) (by decide)
  · exact word_sm.1.mono (by decide) (by decide)
theorem ints_dp {K : PySem.W.Frag} {H : Hp} : ∀ ws : List Int, DpAll K H (ws.map V.int) (ws.map PyData.int)
  | [] => .nil
  | x :: r => .cons (.int x) (ints_dp r)
theorem ints_sm {n m : Int} {ws : List Int} (R : Row2 n m ws) : SmA 0 100 (ws.map PyData.int) := by
  rcases two_of R with rfl | ⟨a, rfl⟩ | ⟨a, b, rfl⟩
  · exact SmA.nil
  · exact (SmA.cons (Sm.int (k := 0) (int_sm R (by simp))) (SmA.nil (w := 0))).mono (by decide) (by decide)
  · exact (SmA.cons (Sm.int (k := 0) (int_sm R (by simp))) (SmA.cons (Sm.int (k := 0) (int_sm R (by simp))) (SmA.nil (w := 0)))).mono (by decide) (by decide)
theorem ints_lay (ws : List Int) : PyData.canLayAll0 (ws.map PyData.int) = true := by
  induction ws with
  | nil => rfl
  | cons x r ih => exact ih
theorem ints_shaped {n m : Int} {ws : List Int} (R : Row2 n m ws) : SeqAt.shaped (.tuple (ws.map PyData.int)) = true := by
  rcases two_of R with rfl | ⟨a, rfl⟩ | ⟨a, b, rfl⟩ <;> rfl
section
variable {P : Program} {w : World} {K : PySem.W.Frag} {mg : Str → Option Value} {base : Heap}
theorem ty_row (T : Tx P K mg) {H : Hp} {r : Addr} {n m : Int} {ws : List Int} (h : RowAt T.C_Row H r n m ws) : TyX K H (.ref r) (.ref T.C_Row) := by
  obtain ⟨dx, t, er, _⟩ := h
  exact .base (.ins er T.Row_cl T.x_rcc T.x_cg T.x_rct T.x_rcm)
theorem kit_row (T : Tx P K mg) : PySem.W.kitOne K (.ref T.C_Row) (.ref T.C_Row) = some true := kit_ref T.Row_ty T.x_r3 fun _ => rfl
def spNumber (C : Addr) : Sp := fun vs H Q _ => ∃ (G : Hp) (p : Addr) (k : Nat) (n : Int), vs = [.ref p, .int n] ∧ WP G p k H ∧ k ≤ 90000 ∧ 2 ≤ n ∧ n ≤ 4 ∧ ∀ (t : Addr) (v : V) (q : Int) (G' H' : Hp), Ext G G' → WP G' p (k + 2) H' → G' t = some (.tup [v, .int q]) → IsN C G' v n q → Q (.ref t) H'
theorem ok__law_number (T : Tx P K mg) : FnOk P w K mg base CX0 5 T.F__law_number T.fd__law_number ["_law_pot_here", "_law_size"] (spNumber T.C_Number) := by
  refine T._law_number_ok.ok sc__law_number (fun vs H Q E h => ?_) (fun cdv A outer s H vs Q E hr h => ?_)
  · obtain ⟨G, p, k, n, rfl, _⟩ := h
    rfl
  · obtain ⟨G, p, k, n, rfl, wp, hk, n2, n4, q⟩ := h
    have nd := sc__law_number.nd
    refine ⟨_, (pss_cons (ps_set (i := 2) nd rfl (Or.inl rfl) (pe_call (ok__law_take T) (hr.mono (by decide)) rfl T._law_take_mg T._law_take_ok.kp T.b__law_take .nil pass0 (pa_cons (pv 0) (pa_cons (pv 1) pa_nil)))) (pss_one (ps_ret (pe_tup (pa_cons (pe_ifExp (pt_cmpR op_eq (pe_call (ok__law_take T) (hr.mono (by decide)) rfl T._law_take_mg T._law_take_ok.kp T.b__law_take .nil pass0 (pa_cons (pv 0) (pa_cons pe_int pa_nil))) pe_int (nomark _)) (pe_make T.Number_mk (ok_Number__init__ T) (hr.mono (by decide)) (by rfl) T.Number_mg T.b_Number___init__ .nil pass0 (pa_cons (pv 1) (pa_cons (pv 2) pa_nil))) (pv 2)) (pa_cons (pv 2) pa_nil)))))), ?_⟩
    refine ⟨_, rfl, _, rfl, G, p, k, n, rfl, wp, by omega, by omega, by omega, fun a H1 a0 an w1 => ?_⟩
    refine ⟨_, rfl, G, p, _, 2, rfl, w1, by omega, by decide, by decide, fun y H2 y0 y2 w2 => ?_⟩
    refine ⟨rfl, _, rfl, ?_⟩
    by_cases c : y = 0
    · refine (if_pos (int_eq c)).mpr ?_
      refine ⟨_, rfl, _, rfl, ?_⟩
      intro x dx h1 h2 _
      refine ⟨x, dx, n, a, rfl, upd_same, n2, n4, a0, an, rfl, ?_⟩
      have F := newN (C := T.C_Number) h1 h2 n2 n4 a0 an
      generalize (upd (upd (upd H2 dx (.own x)) x (.ins T.C_Number dx [])) x (.ins T.C_Number dx (nf n a))) = H3 at F ⊢
      obtain ⟨x3, hx⟩ := F
      refine ⟨_, rfl, by show 2 ≤ sizeLine; decide, fun t ht => ?_⟩
      have w4 := (w2.grow x3).grow (ext_upd (o := .tup [.ref x, .int a]) ht)
      exact q t _ a _ _ w4.all.2 w4.all.1 (but_at w4 upd_same fun _ _ _ z => by cases z) (IsN.but w4 (.inl ⟨x, rfl, hx.ext (ext_upd ht)⟩))
    · refine (if_neg (int_ne c)).mpr ?_
      refine ⟨_, rfl, _, rfl, by show 2 ≤ sizeLine; decide, fun t ht => ?_⟩
      have w4 := w2.grow (ext_upd (o := .tup [.int a, .int a]) ht)
      exact q t _ a _ _ w4.all.2 w4.all.1 (but_at w4 upd_same fun _ _ _ z => by cases z) (.inr ⟨rfl, a0, an⟩)
def spRead (K : PySem.W.Frag) (CN C : Addr) : Sp := fun vs H Q _ => ∃ (r : Addr) (v : V) (n m : Int) (ws : List Int) (p : Int), vs = [.ref r, v] ∧ RowAt C H r n m ws ∧ Row2 n m ws ∧ IsN CN H v n p ∧ ∀ z H', Ext H H' → Dp K H' z (readD n ws p) → Q z H'
theorem ok__law_read (T : Tx P K mg) : FnOk P w K mg base CX0 8 T.F__law_read T.fd__law_read ["_law_row", "_law_at"] (spRead K T.C_Number T.C_Row) := by
  refine T._law_read_ok.ok sc__law_read (fun vs H Q E h => ?_) (fun cdv A outer s H vs Q E hr h => ?_)
  · obtain ⟨r, v, n, m, ws, p, rfl, _⟩ := h
    rfl
  · obtain ⟨r, v, n, m, ws, p, rfl, hR, R, hv, k⟩ := h
    have nd := sc__law_read.nd
    obtain ⟨dx, t, er, et⟩ := id hR
    have p0 := hv.bounds.1
    refine ⟨_, (pss_cons (ps_try_as (i := 3) rfl rfl nd rfl rfl ⟨rfl, by decide, .inl T.Fault_mg⟩ takes0 (fun W pn xe tk _ => pss_one (ps_set (i := 2) nd rfl (Or.inl rfl) (pe_getK T.Row___getitem___sl T.x_fget (ok_Row___getitem__ T) (hr.mono (by decide)) T.b_Row___getitem__ (fun σ => passAt tk σ) (pv 0) (pv 1)))) (fun a oe cls d pn hz hf => pss_one (ps_ret (pe_xf T.Fault_xf T.Fault_no0 hz hf (pv 3))))) (pss_one (ps_ret (pe_ifExp (pt_val (pe_callB call_isi (by rfl) T.b_isinstance (by decide +kernel) (pa_cons (pv 2) (pa_cons (pe_glob (v := .ref T.C_Number) rfl T.Number_mg rfl) pa_nil)))) (pe_lst (pa_cons (pe_prop (pv 2) T.Number_cl T.Number_size_pr (ok_Number_size T) (hr.mono (by decide)) T.b_Number_size .nil pass0 rfl) (pa_cons (pe_prop (pv 2) T.Number_cl T.Number_worth_pr (ok_Number_worth T) (hr.mono (by decide)) T.b_Number_worth .nil pass0 rfl) pa_nil))) pe_non)))), ?_⟩
    refine ⟨_, rfl, _, rfl, r, dx, _, rfl, er, r, v, n, m, ws, p, rfl, hR, R, hv, fun c H' t d x1 x2 x3 => ?_, fun j x hp hj z H' x1 x2 => ?_⟩
    · refine ⟨true, T.Fault_te, fun _ e he => ?_, fun q => Bool.noConfusion q⟩
      refine ⟨_, rfl, rfl, rfl, d, _, .ref t, rfl, x3, rfl, ?_⟩
      refine k _ _ x1 ?_
      unfold readD
      rw [List.getElem?_eq_none (by omega)]
      exact .tup (SqT.of x2) (.cons (.str _) .nil)
    · obtain ⟨dz, ez⟩ := x2.at_
      refine ⟨_, rfl, _, _, _, _, _, rfl, .own _, ty_num T x2, kit_num T, _, rfl, iteT ?_⟩
      refine ⟨_, rfl, z, dz, _, rfl, ez, z, dz, _, _, rfl, ez, nf_size n x, _, rfl, z, dz, _, rfl, ez, z, dz, _, _, rfl, ez, nf_worth n x, by show 2 ≤ sizeLine; decide, fun p' hp' => ?_⟩
      refine k _ _ (x1.trans (ext_upd hp')) ?_
      unfold readD
      rw [hp, show ((j : Int)).toNat = j from rfl, hj]
      exact .lst (SqL.of upd_same) (.cons (.int _) (.cons (.int _) .nil))
def spSet (K : PySem.W.Frag) (CN C : Addr) : Sp := fun vs H Q _ => ∃ (r : Addr) (v u : V) (n m : Int) (ws : List Int) (p x : Int), vs = [.ref r, v, u] ∧ RowAt C H r n m ws ∧ Row2 n m ws ∧ IsN CN H v n p ∧ IsN CN H u n x ∧
  ((ws.length : Int) ≤ p → ∀ z H', Ext H H' → Dp K H' z (wordD "index") → Q z H') ∧ (∀ (j : Nat), p = (j : Int) → j < ws.length → ∀ H', ExtB r H H' → RowAt C H' r n m (ws.set j x) → Q .non H')
theorem ok__law_set (T : Tx P K mg) : FnOk P w K mg base CX0 8 T.F__law_set T.fd__law_set ["_law_row", "_law_at", "_law_x"] (spSet K T.C_Number T.C_Row) := by
  refine T._law_set_ok.ok sc__law_set (fun vs H Q E h => ?_) (fun cdv A outer s H vs Q E hr h => ?_)
  · obtain ⟨r, v, u, n, m, ws, p, x, rfl, _⟩ := h
    rfl
  · obtain ⟨r, v, u, n, m, ws, p, x, rfl, hR, R, hv, hu, kz, kq⟩ := h
    have nd := sc__law_set.nd
    obtain ⟨dx, t, er, et⟩ := id hR
    refine ⟨_, (pss_cons (ps_try_as (i := 3) rfl rfl nd rfl rfl ⟨rfl, by decide, .inl T.Fault_mg⟩ takes0 (fun W pn xe tk _ => pss_one (ps_asg (pv 2) (pg_subK T.Row___setitem___sl T.x_nsq (ok_Row___setitem__ T) (hr.mono (by decide)) T.b_Row___setitem__ (fun σ => passAt tk σ) (pv 0) (pv 1)))) (fun a oe cls d pn hz hf => pss_one (ps_ret (pe_xf T.Fault_xf T.Fault_no0 hz hf (pv 3))))) (pss_one (ps_ret pe_non))), ?_⟩
    refine ⟨_, rfl, _, rfl, _, rfl, r, dx, _, rfl, er, r, v, u, n, m, ws, p, x, rfl, hR, R, hv, hu, fun c H' t d x1 x2 x3 => ?_, fun j hp hj H' x1 x2 => ?_⟩
    · refine ⟨true, T.Fault_te, fun _ e he => ?_, fun q => Bool.noConfusion q⟩
      refine ⟨_, rfl, rfl, rfl, d, _, .ref t, rfl, x3, rfl, ?_⟩
      exact kz c _ _ x1 (.tup (SqT.of x2) (.cons (.str _) .nil))
    · exact kq j hp hj H' x1 x2
def spPushed (K : PySem.W.Frag) (CN C : Addr) : Sp := fun vs H Q _ => ∃ (r : Addr) (u : V) (n m : Int) (ws : List Int) (x : Int), vs = [.ref r, u] ∧ RowAt C H r n m ws ∧ Row2 n m ws ∧ IsN CN H u n x ∧
  ((ws.length : Int) = m → ∀ z H', Ext H H' → Dp K H' z (wordD "full") → Q z H') ∧ ((ws.length : Int) < m → ∀ H', ExtB r H H' → RowAt C H' r n m (ws ++ [x]) → Q .non H')
theorem ok__law_pushed (T : Tx P K mg) : FnOk P w K mg base CX0 8 T.F__law_pushed T.fd__law_pushed ["_law_row", "_law_x"] (spPushed K T.C_Number T.C_Row) := by
  refine T._law_pushed_ok.ok sc__law_pushed (fun vs H Q E h => ?_) (fun cdv A outer s H vs Q E hr h => ?_)
  · obtain ⟨r, u, n, m, ws, x, rfl, _⟩ := h
    rfl
  · obtain ⟨r, u, n, m, ws, x, rfl, hR, R, hu, kz, kq⟩ := h
    have nd := sc__law_pushed.nd
    obtain ⟨dx, t, er, et⟩ := id hR
    refine ⟨_, (pss_cons (ps_set (i := 2) nd rfl (Or.inl rfl) (pv 0)) (pss_cons (ps_try_as (i := 3) rfl rfl nd rfl rfl ⟨rfl, by decide, .inl T.Fault_mg⟩ takes0 (fun W pn xe tk _ => pss_one (ps_augK (n := 0) nd rfl rfl T.x_rslf T.Row___iadd___sl (ok_Row___iadd__ T) (hr.mono (by decide)) T.b_Row___iadd__ (fun σ => passAt tk σ) (pv 1))) (fun a oe cls d pn hz hf => pss_one (ps_ret (pe_xf T.Fault_xf T.Fault_no0 hz hf (pv 3))))) (pss_one (ps_ret (pe_ifExp (PW.pt (pw_and (pt_val (pe_callB call_isi (by rfl) T.b_isinstance (by decide +kernel) (pa_cons (pv 0) (pa_cons (pe_glob (v := .ref T.C_Row) rfl T.Row_mg rfl) pa_nil)))) (pw_and1 (pt_cmpR (op_eqD hr.units) (pe_prop (pv 0) T.Row_cl T.Row_worths_pr (ok_Row_worths T) (hr.mono (by decide)) T.b_Row_worths .nil pass0 rfl) (pe_prop (pv 2) T.Row_cl T.Row_worths_pr (ok_Row_worths T) (hr.mono (by decide)) T.b_Row_worths .nil pass0 rfl) (nomark _))))) pe_non (pe_tup (pa_cons pe_str pa_nil))))))), ?_⟩
    refine ⟨_, rfl, _, rfl, _, rfl, r, dx, _, rfl, er, r, u, n, m, ws, x, rfl, hR, R, hu, fun c H' t d x1 x2 x3 => ?_, fun c H' x1 x2 => ?_⟩
    · refine ⟨true, T.Fault_te, fun _ e he => ?_, fun q => Bool.noConfusion q⟩
      refine ⟨_, rfl, rfl, rfl, d, _, .ref t, rfl, x3, rfl, ?_⟩
      exact kz c _ _ x1 (.tup (SqT.of x2) (.cons (.str _) .nil))
    · obtain ⟨dx', t', er', et'⟩ := id x2
      have R' := R.push hu.bounds.1 hu.bounds.2 c
      refine ⟨_, rfl, _, _, _, _, _, rfl, .own _, ty_row T x2, kit_row T, _, rfl, iteT ?_⟩
      refine ⟨_, rfl, r, dx', _, rfl, er', r, dx', _, _, rfl, er', rf_worths n m _, _, rfl, r, dx', _, rfl, er', r, dx', _, _, rfl, er', rf_worths n m _, .tuple ((ws ++ [x]).map .int), .tuple ((ws ++ [x]).map .int), .tup (SqT.of et') (ints_dp _), .tup (SqT.of et') (ints_dp _), ints_shaped R', ints_shaped R', ?_⟩
      rw [SeqAt.eqv_refl _ (SeqAt.canLay_of_shaped (ints_shaped R'))]
      exact ⟨_, rfl, iteT (kq c H' x1 x2)⟩
end
end K02

namespace K02
open PySem PySem.Spec PyProof.Rows L2 L2.TP
section
variable {P : Program} {w : World} {K : PySem.W.Frag} {mg : Str → Option Value} {base : Heap}
def spDeed (C : Addr) : Sp := fun vs H Q _ => ∃ (G : Hp) (p r l lo : Addr) (k : Nat) (n m : Int) (ws : List Int), vs = [.ref p, .ref r, .ref l, .ref lo] ∧ W3 C G p r l k n m ws H ∧ H lo = some (.tup [.int n, .int m]) ∧ k ≤ 80000 ∧ ∀ (ws' : List Int) (H' : Hp), W3 C G p r l (k + 5) n m ws' H' → Q (.bl true) H'
theorem ok__law_deed_right (T : Tx P K mg) : FnG P w K mg base CX0 10 T.F__law_deed_right T.fd__law_deed_right ["_law_pot_here", "_law_row", "_law_mine", "_law_lore"] (spDeed T.C_Row) := by
  refine okG T._law_deed_right_ok sc__law_deed_right (fun vs H Q E h => ?_) (fun cdv A outer s H vs Q E gA hr h => ?_)
  · obtain ⟨G, p, r, l, lo, k, n, m, ws, rfl, _⟩ := h
    rfl
  · obtain ⟨G, p, r, l, lo, k, n, m, ws, rfl, W, hlo, hk, q⟩ := h
    have nd := sc__law_deed_right.nd
    have R := W.R
    have n2 := R.n2
    have n4 := R.n4
    refine ⟨_, (pss_cons (ps_asg (pv 3) (pg_tup rfl (pgs_cons (pg_name (i := 4) nd rfl (Or.inl rfl)) (pgs_cons (pg_name (i := 5) nd rfl (Or.inl rfl)) pgs_nil)))) (pss_cons (ps_asg (pe_tup (pa_cons (pe_call (ok__law_take T) (hr.mono (by decide)) rfl T._law_take_mg T._law_take_ok.kp T.b__law_take .nil pass0 (pa_cons (pv 0) (pa_cons pe_int pa_nil))) (pa_cons (pe_call (ok__law_number T) (hr.mono (by decide)) rfl T._law_number_mg T._law_number_ok.kp T.b__law_number .nil pass0 (pa_cons (pv 0) (pa_cons (pv 4) pa_nil))) (pa_cons (pe_call (ok__law_number T) (hr.mono (by decide)) rfl T._law_number_mg T._law_number_ok.kp T.b__law_number .nil pass0 (pa_cons (pv 0) (pa_cons (pv 4) pa_nil))) pa_nil)))) (pg_tup rfl (pgs_cons (pg_name (i := 6) nd rfl (Or.inl rfl)) (pgs_cons (pg_tup rfl (pgs_cons (pg_name (i := 7) nd rfl (Or.inl rfl)) (pgs_cons (pg_name (i := 8) nd rfl (Or.inl rfl)) pgs_nil))) (pgs_cons (pg_tup rfl (pgs_cons (pg_name (i := 9) nd rfl (Or.inl rfl)) (pgs_cons (pg_name (i := 10) nd rfl (Or.inl rfl)) pgs_nil))) pgs_nil))))) (pss_cons (ps_if (pt_cmpR op_eq (pv 6) pe_int (nomark _)) (Evl.pss_cut (ps_set (i := 11) nd rfl (Or.inl rfl) (pe_ifExp (pt_cmpR op_lt (pv 8) (pe_callB call_len_seq (by rfl) T.b_len (by decide +kernel) (pa_cons (pv 2) pa_nil)) (nomark _)) (pe_lst (pa_cons (pv 4) (pa_cons (pe_ix ix_list (pv 2) (pv 8) (fun _ _ => rfl)) pa_nil))) (pe_tup (pa_cons pe_str pa_nil)))) (pss_one (ps_ret (pe_cmpR op_eq (pe_callB (call_repr gA hr) (by rfl) T.b_repr (by decide +kernel) (pa_cons (pe_call (ok__law_read T) (hr.mono (by decide)) rfl T._law_read_mg T._law_read_ok.kp T.b__law_read .nil pass0 (pa_cons (pv 1) (pa_cons (pv 7) pa_nil))) pa_nil)) (pe_callB (call_repr gA hr) (by rfl) T.b_repr (by decide +kernel) (pa_cons (pv 11) pa_nil)) (nomark _))))) pss_nil) (pss_cons (ps_if (pt_cmpR op_eq (pv 6) pe_int (nomark _)) (pss_one (ps_ret (pe_cmpR op_eq (pe_callB (call_repr gA hr) (by rfl) T.b_repr (by decide +kernel) (pa_cons (pe_meth (pv 1) T.Row_cl ⟨T.Row_has_sl.at_, T.Row_has_sl.fn, T.Row_has_ok.kp⟩ (ok_Row_has T) (hr.mono (by decide)) T.b_Row_has .nil pass0 (pa_cons (pv 7) pa_nil)) pa_nil)) (pe_callB (call_repr gA hr) (by rfl) T.b_repr (by decide +kernel) (pa_cons (pe_cmpR op_lt (pv 8) (pe_callB call_len_seq (by rfl) T.b_len (by decide +kernel) (pa_cons (pv 2) pa_nil)) (nomark _)) pa_nil)) (nomark _)))) pss_nil) (pss_cons (ps_if (pt_cmpR op_lt (pv 6) pe_int (nomark _)) (pss_cons (ps_set (i := 11) nd rfl (Or.inl rfl) (pe_ifExp (pt_cmpR op_lt (pv 8) (pe_callB call_len_seq (by rfl) T.b_len (by decide +kernel) (pa_cons (pv 2) pa_nil)) (nomark _)) pe_non (pe_tup (pa_cons pe_str pa_nil)))) (pss_cons (ps_set (i := 12) nd rfl (Or.inl rfl) (pe_call (ok__law_set T) (hr.mono (by decide)) rfl T._law_set_mg T._law_set_ok.kp T.b__law_set .nil pass0 (pa_cons (pv 1) (pa_cons (pv 7) (pa_cons (pv 9) pa_nil))))) (pss_cons (ps_if (pt_cmpR op_isN (pv 11) pe_non (nomark _)) (pss_one (ps_asg (pv 10) (pg_sub (pv 2) (pv 8) set_list))) pss_nil) (pss_one (ps_ret (pe_cmpR op_eq (pe_callB (call_repr gA hr) (by rfl) T.b_repr (by decide +kernel) (pa_cons (pv 12) pa_nil)) (pe_callB (call_repr gA hr) (by rfl) T.b_repr (by decide +kernel) (pa_cons (pv 11) pa_nil)) (nomark _))))))) pss_nil) (pss_cons (ps_set (i := 11) nd rfl (Or.inl rfl) (pe_ifExp (pt_cmpR op_lt (pe_callB call_len_seq (by rfl) T.b_len (by decide +kernel) (pa_cons (pv 2) pa_nil)) (pv 5) (nomark _)) pe_non (pe_tup (pa_cons pe_str pa_nil)))) (pss_cons (ps_set (i := 12) nd rfl (Or.inl rfl) (pe_call (ok__law_pushed T) (hr.mono (by decide)) rfl T._law_pushed_mg T._law_pushed_ok.kp T.b__law_pushed .nil pass0 (pa_cons (pv 1) (pa_cons (pv 9) pa_nil)))) (pss_cons (ps_if (pt_cmpR op_isN (pv 11) pe_non (nomark _)) (pss_one (ps_expr (pe_bm PySem.F.plainAttrs_list PySem.F.slot_list_append PySem.F.type_list_append mt_append (pv 2) (pa_cons (pv 10) pa_nil)))) pss_nil) (pss_one (ps_ret (pe_cmpR op_eq (pe_callB (call_repr gA hr) (by rfl) T.b_repr (by decide +kernel) (pa_cons (pv 12) pa_nil)) (pe_callB (call_repr gA hr) (by rfl) T.b_repr (by decide +kernel) (pa_cons (pv 11) pa_nil)) (nomark _)))))))))))), ?_⟩
    refine ⟨_, rfl, lo, _, rfl, SqT.of hlo, rfl, _, _, rfl, _, _, rfl, rfl, ?_⟩
    have w0 := W.wp.all.1
    refine ⟨_, rfl, _, p, k, 5, rfl, w0, by omega, by decide, by decide, fun y H1 y0 y5 w1 => ?_⟩
    refine ⟨_, rfl, _, rfl, _, p, _, n, rfl, w1, by omega, n2, n4, fun t1 v1 q1 G1 H2 g1 w2 e1 i1 => ?_⟩
    refine ⟨_, rfl, _, rfl, _, p, _, n, rfl, w2, by omega, n2, n4, fun t2 v2 q2 G2 H3 g2 w3 e2 i2 => ?_⟩
    refine ⟨by show 3 ≤ sizeLine; decide, fun t3 ht3 => ?_⟩
    have x3 := ext_upd (o := .tup [.int y, .ref t1, .ref t2]) ht3
    have W3' := (W.step (g1.trans g2) w3).grow x3
    have h1 : upd H3 t3 (.tup [.int y, .ref t1, .ref t2]) t1 = some (.tup [v1, .int q1]) := x3 _ _ (w3.ext _ _ (g2 _ _ e1))
    have h2 : upd H3 t3 (.tup [.int y, .ref t1, .ref t2]) t2 = some (.tup [v2, .int q2]) := x3 _ _ (w3.ext _ _ e2)
    have h3 : upd H3 t3 (.tup [.int y, .ref t1, .ref t2]) t3 = some (.tup [.int y, .ref t1, .ref t2]) := upd_same
    have i1 := ((i1.ext g2).ext w3.ext).ext x3
    have i2 := (i2.ext w3.ext).ext x3
    generalize upd H3 t3 (.tup [.int y, .ref t1, .ref t2]) = H4 at W3' h1 h2 h3 i1 i2 ⊢
    refine ⟨t3, _, rfl, SqT.of h3, rfl, _, _, rfl, _, _, rfl, t1, _, rfl, SqT.of h1, rfl, _, _, rfl, _, _, rfl, rfl, _, _, rfl, t2, _, rfl, SqT.of h2, rfl, _, _, rfl, _, _, rfl, rfl, rfl, ?_⟩
    have W := W3'.mono (k' := k + 5) (by omega)
    clear W3'
    obtain ⟨b1, b2⟩ := i1.bounds
    obtain ⟨d1, d2⟩ := i2.bounds
    have lm := W.mine
    obtain ⟨dx, t, er, et⟩ := id W.row
    refine ⟨_, rfl, rfl, _, rfl, ?_⟩
    by_cases c0 : y = 0
    · refine (if_pos (int_eq c0)).mpr ?_
      refine ⟨fun σ' H' => ∃ (d : V) (v6 v8 v9 v10 v12 : Option V), σ' = [some (.ref p), some (.ref r), some (.ref l), some (.ref lo), some (.int n), some (.int m), v6, some v1, v8, v9, v10, some d, v12] ∧ Ext H4 H' ∧ Dp K H' d (readD n ws q1), ?_, ?_⟩
      · refine ⟨_, rfl, _, rfl, l, _, rfl, .inl (SqL.of lm), _, _, rfl, rfl, _, rfl, ?_⟩
        rw [len_map]
        refine ite2 (fun h => ?_) (fun h => ?_)
        · have hl := of_decide_eq_true h
          obtain ⟨j, rfl⟩ : ∃ j : Nat, q1 = (j : Int) := ⟨q1.toNat, by omega⟩
          have hj : j < ws.length := by omega
          have ej : ws[j]? = some ws[j] := List.getElem?_eq_getElem hj
          refine ⟨_, rfl, _, rfl, _, rfl, l, _, _, _, rfl, rfl, SqL.of lm, atI_nat (v := V.int ws[j]) (by rw [List.getElem?_map, ej]; rfl), by show 2 ≤ sizeLine; decide, fun p5 hp5 => ?_⟩
          refine ⟨_, _, _, _, _, _, rfl, ext_upd hp5, ?_⟩
          unfold readD
          rw [show ((j : Int)).toNat = j from rfl, ej]
          exact .lst (SqL.of upd_same) (.cons (.int _) (.cons (.int _) .nil))
        · have hl := of_decide_eq_false (Bool.eq_false_iff.mpr h)
          refine ⟨by show 1 ≤ sizeLine; decide, fun p5 hp5 => ?_⟩
          refine ⟨_, _, _, _, _, _, rfl, ext_upd hp5, ?_⟩
          unfold readD
          rw [List.getElem?_eq_none (by omega)]
          exact .tup (SqT.of upd_same) (.cons (.str _) .nil)
      · rintro σ' H5 ⟨d, v6, v8, v9, v10, v12, rfl, x5, dd⟩
        have sm := read_sm R q1
        refine ⟨_, rfl, _, rfl, r, v1, n, m, ws, q1, rfl, W.row.ext x5, R, i1.ext x5, fun z H6 x6 dz => ?_⟩
        refine ⟨z, _, rfl, dz, sm.shw, sm.d40, sm.len, _, rfl, d, _, rfl, Dp.ext x6 _ _ dd, sm.shw, sm.d40, sm.len, rfl, ?_⟩
        show Q (.bl (decide (V.str _ = V.str _))) _
        rw [str_eq]
        exact q ws _ ((W.grow x5).grow x6)
    · refine (if_neg (int_ne c0)).mpr ?_
      refine ⟨_, rfl, rfl, _, rfl, ?_⟩
      by_cases c1 : y = 1
      · refine (if_pos (int_eq c1)).mpr ?_
        have sm : ∀ b : Bool, Sm 0 0 (.bool b) := fun b => Sm.bl b
        refine ⟨_, rfl, r, dx, _, rfl, er, by kernel_rfl, _, rfl, r, v1, n, m, q1, ws, rfl, W.row, i1, ?_⟩
        refine ⟨_, _, rfl, .bl _, (sm _).shw, (sm _).d40, (sm _).len, _, rfl, _, rfl, l, _, rfl, .inl (SqL.of lm), _, _, rfl, rfl, ?_⟩
        rw [len_map]
        refine ⟨_, _, rfl, .bl _, (sm _).shw, (sm _).d40, (sm _).len, rfl, ?_⟩
        show Q (.bl (decide (V.str _ = V.str _))) _
        rw [str_eq]
        exact q ws _ W
      · refine (if_neg (int_ne c1)).mpr ?_
        refine ⟨_, rfl, _, _, rfl, rfl, _, rfl, ?_⟩
        refine ite2 (fun _ => ?_) (fun _ => ?_)
        · refine ⟨_, rfl, _, rfl, l, _, rfl, .inl (SqL.of lm), _, _, rfl, rfl, _, rfl, ?_⟩
          rw [len_map]
          refine ite2 (fun h => ?_) (fun h => ?_)
          · have hl := of_decide_eq_true h
            refine ⟨_, rfl, _, rfl, _, rfl, r, v1, v2, n, m, ws, q1, q2, rfl, W.row, R, i1, i2, fun z => absurd z (by omega), fun j hj hl2 H5 x5 hR5 => ?_⟩
            subst hj
            refine ⟨_, rfl, rfl, _, rfl, iteT ?_⟩
            have l5 := x5 _ _ W.pr.2.2 lm
            refine ⟨_, rfl, _, rfl, _, rfl, l, _, _, j, rfl, rfl, l5, ?_, ?_⟩
            · rw [List.length_map]
              unfold ixN
              rw [if_pos (by omega), if_pos (by omega)]
              rfl
            have sm : Sm 0 0 .none := Sm.non
            refine ⟨_, rfl, _, _, rfl, .non, sm.shw, sm.d40, sm.len, _, rfl, _, _, rfl, .non, sm.shw, sm.d40, sm.len, rfl, ?_⟩
            show Q (.bl (decide (V.str _ = V.str _))) _
            rw [str_eq]
            have e : (ws.map V.int).set j (.int q2) = (ws.set j q2).map V.int := List.map_set.symm
            have z := q (ws.set j q2) _ (W.both x5 hR5 (R.set j d1 d2))
            rw [← e] at z
            exact z
          · have hl := of_decide_eq_false (Bool.eq_false_iff.mpr h)
            refine ⟨by show 1 ≤ sizeLine; decide, fun p5 hp5 => ?_⟩
            have x5 := ext_upd (o := .tup [.str "index"]) hp5
            have e5 : upd H4 p5 (.tup [.str "index"]) p5 = some (.tup [.str "index"]) := upd_same
            refine ⟨_, rfl, _, rfl, _, rfl, r, v1, v2, n, m, ws, q1, q2, rfl, W.row.ext x5, R, i1.ext x5, i2.ext x5, fun _ z H6 x6 dz => ?_, fun j hj hl2 => absurd hl2 (by omega)⟩
            refine ⟨_, rfl, rfl, _, rfl, iteF ?_⟩
            have sm := word_sm.1
            refine ⟨_, rfl, _, _, rfl, dz, sm.shw, sm.d40, sm.len, _, rfl, _, wordD "index", rfl, .tup (SqT.of (x6 _ _ e5)) (.cons (.str _) .nil), sm.shw, sm.d40, sm.len, rfl, ?_⟩
            show Q (.bl (decide (V.str _ = V.str _))) _
            rw [str_eq]
            exact q ws _ ((W.grow x5).grow x6)
        · refine ⟨_, rfl, l, _, rfl, .inl (SqL.of lm), _, rfl, _, _, rfl, rfl, _, rfl, ?_⟩
          rw [len_map]
          refine ite2 (fun h => ?_) (fun h => ?_)
          · have hl := of_decide_eq_true h
            refine ⟨_, rfl, _, rfl, r, v2, n, m, ws, q2, rfl, W.row, R, i2, fun z => absurd z (by omega), fun hl2 H5 x5 hR5 => ?_⟩
            refine ⟨_, rfl, rfl, _, rfl, iteT ?_⟩
            have l5 := x5 _ _ W.pr.2.2 lm
            refine ⟨_, rfl, .inl ⟨rfl, _, .inl (.inl l5)⟩, _, rfl, l, _, _, rfl, rfl, l5, ?_, ?_⟩
            · rw [List.length_map]
              have := R.m2
              exact Nat.lt_trans (by omega : ws.length < 3) (by decide)
            have sm : Sm 0 0 .none := Sm.non
            refine ⟨_, rfl, _, _, rfl, .non, sm.shw, sm.d40, sm.len, _, rfl, _, _, rfl, .non, sm.shw, sm.d40, sm.len, rfl, ?_⟩
            show Q (.bl (decide (V.str _ = V.str _))) _
            rw [str_eq]
            have e : (ws.map V.int) ++ [.int q2] = (ws ++ [q2]).map V.int := by rw [List.map_append]; rfl
            have z := q (ws ++ [q2]) _ (W.both x5 hR5 (R.push d1 d2 hl2))
            rw [← e] at z
            exact z
          · have hl := of_decide_eq_false (Bool.eq_false_iff.mpr h)
            have := R.len
            refine ⟨by show 1 ≤ sizeLine; decide, fun p5 hp5 => ?_⟩
            have x5 := ext_upd (o := .tup [.str "full"]) hp5
            have e5 : upd H4 p5 (.tup [.str "full"]) p5 = some (.tup [.str "full"]) := upd_same
            refine ⟨_, rfl, _, rfl, r, v2, n, m, ws, q2, rfl, W.row.ext x5, R, i2.ext x5, fun _ z H6 x6 dz => ?_, fun hl2 => absurd hl2 (by omega)⟩
            refine ⟨_, rfl, rfl, _, rfl, iteF ?_⟩
            have sm := word_sm.2
            refine ⟨_, rfl, _, _, rfl, dz, sm.shw, sm.d40, sm.len, _, rfl, _, wordD "full", rfl, .tup (SqT.of (x6 _ _ e5)) (.cons (.str _) .nil), sm.shw, sm.d40, sm.len, rfl, ?_⟩
            show Q (.bl (decide (V.str _ = V.str _))) _
            rw [str_eq]
            exact q ws _ ((W.grow x5).grow x6)
end
end K02

namespace K02
open PySem PySem.Spec PyProof.Rows L2 L2.TP
theorem WP.over {G H : Hp} {p D : Addr} {o o' : HO} {m : Nat} (w : WP (upd G D o) p m H) (h : G D = none) : WP (upd G D o') p m (upd H D o') := by
  have ne : p ≠ D := fun z => by
    have := w.no
    rw [z, upd_same] at this
    cases this
  obtain ⟨a, b, c, q, h2⟩ := w.pot.at_
  have n1 := w.no
  rw [upd_ne ne] at n1
  exact ⟨ext_both ((ext_upd h).trans w.ext), by rw [upd_ne ne]; exact n1, ⟨a, b, c, by rw [upd_ne ne]; exact q, h2⟩⟩
theorem all_true (n : Nat) : (List.replicate n true).all id = true := by simp
theorem map_true (n : Nat) : (List.replicate n true).map V.bl = List.replicate n (.bl true) := List.map_replicate
/-- what the making of a Row leaves -/
theorem newR {C : Addr} {H H' : Hp} {x dx : Addr} (hx : H x = none) (hdx : H dx = none) (e : ExtB x (upd (upd H dx (.own x)) x (.ins C dx [])) H') : Ext H H' := fun a o q => by
  have n1 : a ≠ x := ne_of_none q hx
  have n2 : a ≠ dx := ne_of_none q hdx
  refine e a o n1 ?_
  rw [upd_ne n1, upd_ne n2]
  exact q
section
variable {P : Program} {w : World} {K : PySem.W.Frag} {mg : Str → Option Value} {base : Heap}
def spR : Sp := fun vs H Q _ => ∃ (G : Hp) (p : Addr) (k : Nat), vs = [.ref p] ∧ WP G p k H ∧ k ≤ 50000 ∧ ∀ H', WP G p (k + 200) H' → Q (.bl true) H'
theorem ok__law_row_right (T : Tx P K mg) : FnG P w K mg base CX0 12 T.F__law_row_right T.fd__law_row_right ["_law_pot_here"] spR := by
  refine okG T._law_row_right_ok sc__law_row_right (fun vs H Q E h => ?_) (fun cdv A outer s H vs Q E gA hr h => ?_)
  · obtain ⟨G, p, k, rfl, _⟩ := h
    rfl
  · obtain ⟨G, p, k, rfl, wp, hk, q⟩ := h
    have nd := sc__law_row_right.nd
    refine ⟨_, (pss_cons (ps_asg (pe_tup (pa_cons (pe_op op_add pe_int (pe_call (ok__law_take T) (hr.mono (by decide)) rfl T._law_take_mg T._law_take_ok.kp T.b__law_take .nil pass0 (pa_cons (pv 0) (pa_cons pe_int pa_nil)))) (pa_cons (pe_op op_add pe_int (pe_call (ok__law_take T) (hr.mono (by decide)) rfl T._law_take_mg T._law_take_ok.kp T.b__law_take .nil pass0 (pa_cons (pv 0) (pa_cons pe_int pa_nil)))) pa_nil))) (pg_tup rfl (pgs_cons (pg_name (i := 1) nd rfl (Or.inr rfl)) (pgs_cons (pg_name (i := 2) nd rfl (Or.inl rfl)) pgs_nil)))) (pss_cons (ps_setLc (i := 3) (own := [("_law_lap", 8)]) (g := gName 8) (by rfl) nd rfl rfl (sw_true rfl rfl rfl (by decide +kernel)) (pi_range1 (by rfl) T.b_range (pa_cons (pe_call (ok__law_take T) (hr.mono (by decide)) rfl T._law_take_mg T._law_take_ok.kp T.b__law_take .nil pass0 (pa_cons (pv 0) (pa_cons (pe_op op_add (pv 2) pe_int) pa_nil))) pa_nil)) (blkOk_by (own := [("_law_lap", 8)]) (N := N__law_row_right) (sc := defScope s__law_row_right) (by decide +kernel)) (fun _ _ _ _ _ => (pg_name (i := 8) nd rfl (Or.inl rfl))) (fun _ _ _ _ _ => pts_nil) (fun _ _ _ _ _ => (pe_call (ok__law_take T) (hr.mono (by decide)) rfl T._law_take_mg T._law_take_ok.kp T.b__law_take .nil pass0 (pa_cons (pv 0) (pa_cons (pv 1) pa_nil))))) (pss_cons (ps_set (i := 4) nd rfl (Or.inl rfl) (pe_callTy call_tuple_of (by rfl) T.b_tuple (by decide +kernel) (pa_cons (pv 3) pa_nil))) (pss_cons (ps_par (i := 5) (j := 6) (by rfl) nd rfl rfl (by decide) rfl rfl (pa_cons (pe_make T.Row_mk (ok_Row__init__ T) (hr.mono (by decide)) (by rfl) T.Row_mg T.b_Row___init__ .nil pass0 (pa_cons (pv 1) (pa_cons (pv 2) (pa_cons (pv 4) pa_nil)))) (pa_cons (pe_make T.Row_mk (ok_Row__init__ T) (hr.mono (by decide)) (by rfl) T.Row_mg T.b_Row___init__ .nil pass0 (pa_cons (pv 1) (pa_cons (pv 2) (pa_cons (pv 4) pa_nil)))) pa_nil)) (by rfl)) (pss_cons (ps_for PassesOwn.never rfl (pi_range1 (by rfl) T.b_range (pa_cons pe_int pa_nil)) (pg_name (i := 7) nd rfl (Or.inl rfl)) (pss_cons (ps_if (pt_not (pt_val (pe_callG (ok__law_deed_right T) gA (hr.mono (by decide)) rfl T._law_deed_right_mg T._law_deed_right_ok.kp T.b__law_deed_right .nil pass0 (pa_cons (pv 0) (pa_cons (pv 5) (pa_cons (pv 3) (pa_cons (pe_tup (pa_cons (pv 1) (pa_cons (pv 2) pa_nil))) pa_nil))))))) (pss_one (ps_ret pe_bl)) pss_nil) (pss_one (ps_if (pt_cmpR op_ne (pe_callB (call_repr gA hr) (by rfl) T.b_repr (by decide +kernel) (pa_cons (pe_lst (pa_cons (pe_prop (pv 5) T.Row_cl T.Row_worths_pr (ok_Row_worths T) (hr.mono (by decide)) T.b_Row_worths .nil pass0 rfl) (pa_cons (pe_callB (call_lenK T.Row___len___sl (ok_Row___len__ T) (hr.mono (by decide)) T.b_Row___len__) (by rfl) T.b_len (by decide +kernel) (pa_cons (pv 5) pa_nil)) pa_nil))) pa_nil)) (pe_callB (call_repr gA hr) (by rfl) T.b_repr (by decide +kernel) (pa_cons (pe_lst (pa_cons (pe_callTy call_tuple_of (by rfl) T.b_tuple (by decide +kernel) (pa_cons (pv 3) pa_nil)) (pa_cons (pe_callB call_len_seq (by rfl) T.b_len (by decide +kernel) (pa_cons (pv 3) pa_nil)) pa_nil))) pa_nil)) (nomark _)) (pss_one (ps_ret pe_bl)) pss_nil)))) (pss_one (ps_ret (pe_cmpR op_eq (pe_callB (call_repr gA hr) (by rfl) T.b_repr (by decide +kernel) (pa_cons (pe_lst (pa_cons (pe_prop (pv 6) T.Row_cl T.Row_worths_pr (ok_Row_worths T) (hr.mono (by decide)) T.b_Row_worths .nil pass0 rfl) (pa_cons (pv 4) pa_nil))) pa_nil)) (pe_callB (call_repr gA hr) (by rfl) T.b_repr (by decide +kernel) (pa_cons (pe_lst (pa_cons (pv 4) (pa_cons (pv 4) pa_nil))) pa_nil)) (nomark _))))))))), ?_⟩
    refine ⟨_, rfl, G, p, k, 3, rfl, wp, by omega, by decide, by decide, fun a H1 a0 a3 w1 => ?_⟩
    refine ⟨_, _, rfl, rfl, _, rfl, G, p, _, 2, rfl, w1, by omega, by decide, by decide, fun b H2 b0 b2 w2 => ?_⟩
    refine ⟨_, _, rfl, rfl, by show 2 ≤ sizeLine; decide, fun tt htt => ?_⟩
    refine ⟨tt, _, rfl, SqT.of upd_same, rfl, _, _, rfl, _, _, rfl, rfl, ?_⟩
    have w2 := w2.grow (ext_upd (o := .tup [.int (2 + a), .int (1 + b)]) htt)
    refine ⟨_, rfl, _, rfl, _, _, rfl, rfl, G, p, _, 1 + b + 1, rfl, w2, by omega, by omega, by omega, fun c H3 c0 c3 w3 => ?_⟩
    refine ⟨c, rfl, by omega, by omega, fun l hl => ?_⟩
    have gl := ext_none w3.ext hl
    refine lc_range (n := c.toNat) (lo := 0) (fun i H'' => ∃ ws : List Int, ws.length = i ∧ (∀ x ∈ ws, 0 ≤ x ∧ x < 2 + a) ∧ WP (upd G l (.lst (ws.map V.int))) p (k + 3 + i) H'') ⟨[], rfl, (fun x h => by cases h), w3.new hl⟩ (fun i H'' hi h => ?_) (fun H'' h => ?_)
    · obtain ⟨ws, lw, aw, ww⟩ := h
      refine ⟨rfl, ?_⟩
      refine ⟨_, rfl, _, rfl, _, p, _, 2 + a, rfl, ww, by omega, by omega, by omega, fun x H4 x0 x1 w4 => ?_⟩
      refine ⟨_, w4.ext _ _ upd_same, by rw [List.length_map]; exact Nat.lt_trans (by omega : ws.length < 4) (by decide), ws ++ [x], by rw [List.length_append, lw]; rfl, fun y hy => ?_, ?_⟩
      · rcases List.mem_append.mp hy with h | h
        · exact aw y h
        · rw [List.mem_singleton] at h
          rw [h]
          exact ⟨x0, x1⟩
      · have e : (ws.map V.int) ++ [V.int x] = (ws ++ [x]).map V.int := by rw [List.map_append]; rfl
        rw [e]
        exact WP.over w4 gl
    · obtain ⟨ws, lw, aw, ww⟩ := h
      have R : Row2 (2 + a) (1 + b) ws := ⟨by omega, by omega, by omega, by omega, by omega, aw⟩
      have lm : H'' l = some (.lst (ws.map V.int)) := ww.ext _ _ upd_same
      refine ⟨_, rfl, l, _, rfl, .inl ⟨SqL.of lm, fun t ht => ?_⟩⟩
      have xt := ext_upd (o := .tup (ws.map V.int)) ht
      have et : upd H'' t (.tup (ws.map V.int)) t = some (.tup (ws.map V.int)) := upd_same
      generalize upd H'' t (.tup (ws.map V.int)) = H5 at xt et ⊢
      refine ⟨_, rfl, _, rfl, _, rfl, ?_⟩
      intro r dr r1 r2 rne
      have et1 : upd (upd H5 dr (.own r)) r (.ins T.C_Row dr []) t = some (.tup (ws.map V.int)) := by
        rw [upd_ne (ne_of_none et r1), upd_ne (ne_of_none et r2)]
        exact et
      refine ⟨r, dr, 2 + a, 1 + b, t, ws, rfl, upd_same, et1, R, fun H6 x6 er => ⟨rfl, ?_⟩⟩
      have e6 := newR r1 r2 x6
      refine ⟨_, rfl, _, rfl, _, rfl, ?_⟩
      intro r' dr' r1' r2' rne'
      have et6 := e6 _ _ et
      have et2 : upd (upd H6 dr' (.own r')) r' (.ins T.C_Row dr' []) t = some (.tup (ws.map V.int)) := by
        rw [upd_ne (ne_of_none et6 r1'), upd_ne (ne_of_none et6 r2')]
        exact et6
      refine ⟨r', dr', 2 + a, 1 + b, t, ws, rfl, upd_same, et2, R, fun H7 x7 er' => ⟨rfl, ?_⟩⟩
      have e7 := newR r1' r2' x7
      refine ⟨_, _, rfl, ?_⟩
      have w7 := ((ww.grow xt).grow e6).grow e7
      have hr7 := e7 _ _ er
      have ht7 := e7 _ _ et6
      have hl7 := e7 _ _ (e6 _ _ (xt _ _ lm))
      -- all but the pot, the row and the list
      obtain ⟨G', gG, W, mt, bg⟩ : ∃ G' : Hp, Ext G G' ∧ W3 T.C_Row G' p r l (k + 3 + c.toNat) (2 + a) (1 + b) ws H7 ∧ G' r' = some (.ins T.C_Row dr' (rf (2 + a) (1 + b) (.ref t))) ∧ G' t = some (.tup (ws.map V.int)) := by
        refine ⟨fun z => if z = p ∨ z = r ∨ z = l then none else H7 z, fun z o e => ?_, ⟨⟨fun z o e => ?_, if_pos (.inl rfl), w7.pot⟩, if_pos (.inr (.inl rfl)), if_pos (.inr (.inr rfl)), ⟨dr, t, hr7, ht7⟩, hl7, R⟩, ?_, ?_⟩
        · have g1 := gl
          have c1 : z ≠ p := fun q => by
            rw [q, wp.no] at e
            cases e
          have c3 : z ≠ l := fun q => by
            rw [q, gl] at e
            cases e
          have zl : (upd G l (.lst (ws.map V.int))) z = some o := by
            rw [upd_ne c3]
            exact e
          have c2 : z ≠ r := ne_of_none ((ww.grow xt).ext _ _ zl) r1
          show (if z = p ∨ z = r ∨ z = l then none else H7 z) = some o
          rw [if_neg (by simp [c1, c2, c3])]
          exact w7.ext _ _ zl
        · have e : (if z = p ∨ z = r ∨ z = l then none else H7 z) = some o := e
          split at e
          · cases e
          · exact e
        · obtain ⟨_, _, _, pp, _⟩ := w7.pot.at_
          have c1 : r' ≠ p := fun q => by rw [q, pp] at er'; cases er'
          have c2 : r' ≠ r := fun q => by rw [q] at r1'; rw [er] at r1'; cases r1'
          have c3 : r' ≠ l := fun q => by rw [q, hl7] at er'; cases er'
          show (if r' = p ∨ r' = r ∨ r' = l then none else H7 r') = _
          rw [if_neg (by simp [c1, c2, c3])]
          exact er'
        · obtain ⟨_, _, _, pp, _⟩ := w7.pot.at_
          have c1 : t ≠ p := fun q => by rw [q, pp] at ht7; cases ht7
          have c2 : t ≠ r := fun q => by rw [q, hr7] at ht7; cases ht7
          have c3 : t ≠ l := fun q => by rw [q, hl7] at ht7; cases ht7
          show (if t = p ∨ t = r ∨ t = l then none else H7 t) = _
          rw [if_neg (by simp [c1, c2, c3])]
          exact ht7
      refine ⟨20, rfl, by decide, by decide, ?_⟩
      refine for_range (n := 20) (lo := 0) (fun i σ H' => ∃ (ws' : List Int) (v7 : Option V), σ = [some (.ref p), some (.int (2 + a)), some (.int (1 + b)), some (.ref l), some (.ref t), some (.ref r), some (.ref r'), v7, none] ∧ W3 T.C_Row G' p r l (k + 3 + c.toNat + 5 * i) (2 + a) (1 + b) ws' H') ⟨ws, _, rfl, W⟩ ?_ ?_
      · rintro i σ H' hi ⟨ws', v7, rfl, W'⟩
        refine ⟨_, rfl, _, rfl, _, rfl, _, rfl, _, rfl, by show 2 ≤ sizeLine; decide, fun lo hlo => ?_⟩
        refine ⟨G', p, r, l, lo, _, 2 + a, 1 + b, ws', rfl, W'.grow (ext_upd hlo), upd_same, by omega, fun ws2 H8 W8 => ?_⟩
        refine ⟨_, rfl, iteF ?_⟩
        obtain ⟨dx, t8, er8, et8⟩ := id W8.row
        have lm8 := W8.mine
        have R8 := W8.R
        refine ⟨_, rfl, r, dx, _, rfl, er8, r, dx, _, _, rfl, er8, rf_worths _ _ _, _, rfl, r, dx, _, rfl, er8, r, 2 + a, 1 + b, ws2, rfl, W8.row, _, rfl, by omega, by have := R8.len; omega, by show 2 ≤ sizeLine; decide, fun p9 hp9 => ?_⟩
        have x9 := ext_upd (o := .lst [.ref t8, .int ws2.length]) hp9
        have sm : Sm 2 1000 (.list [.tuple (ws2.map .int), .int ws2.length]) := by
          have := R8.len
          exact (Sm.lst (k := 1) (SmA.cons (Sm.tup (k := 0) (ints_sm R8)) (SmA.cons (Sm.int (by omega)) (SmA.nil (w := 0))))).mono (by decide) (by decide)
        refine ⟨_, .list [.tuple (ws2.map .int), .int ws2.length], rfl, .lst (SqL.of upd_same) (.cons (.tup (SqT.of (x9 _ _ et8)) (ints_dp _)) (.cons (.int _) .nil)), sm.shw, sm.d40, sm.len, ?_⟩
        refine ⟨_, rfl, l, _, rfl, .inl ⟨SqL.of (x9 _ _ lm8), fun t9 ht9 => ?_⟩⟩
        have x10 := ext_upd (o := .tup (ws2.map V.int)) ht9
        refine ⟨_, rfl, l, _, rfl, .inl (SqL.of (x10 _ _ (x9 _ _ lm8))), ?_⟩
        rw [len_map]
        refine ⟨by show 2 ≤ sizeLine; decide, fun p11 hp11 => ?_⟩
        have x11 := ext_upd (o := .lst [.ref t9, .int ws2.length]) hp11
        refine ⟨_, .list [.tuple (ws2.map .int), .int ws2.length], rfl, .lst (SqL.of upd_same) (.cons (.tup (SqT.of (x11 _ _ upd_same)) (ints_dp _)) (.cons (.int _) .nil)), sm.shw, sm.d40, sm.len, rfl, _, rfl, ?_⟩
        refine (if_neg (show ¬ (!decide (V.str _ = V.str _)) = true by rw [str_eq]; decide)).mpr ?_
        exact ⟨ws2, _, rfl, ((W8.grow x9).grow x10).grow x11⟩
      · rintro σ H' ⟨ws', v7, rfl, W'⟩
        have er := W'.wp.ext _ _ mt
        have eb := W'.wp.ext _ _ bg
        refine ⟨_, rfl, r', dr', _, rfl, er, r', dr', _, _, rfl, er, rf_worths _ _ _, _, rfl, by show 2 ≤ sizeLine; decide, fun p9 hp9 => ?_⟩
        have x9 := ext_upd (o := .lst [.ref t, .ref t]) hp9
        have sm : Sm 2 1000 (.list [.tuple (ws.map .int), .tuple (ws.map .int)]) :=
          (Sm.lst (k := 1) (SmA.cons (Sm.tup (k := 0) (ints_sm R)) (SmA.cons (Sm.tup (k := 0) (ints_sm R)) (SmA.nil (w := 0))))).mono (by decide) (by decide)
        refine ⟨_, .list [.tuple (ws.map .int), .tuple (ws.map .int)], rfl, .lst (SqL.of upd_same) (.cons (.tup (SqT.of (x9 _ _ eb)) (ints_dp _)) (.cons (.tup (SqT.of (x9 _ _ eb)) (ints_dp _)) .nil)), sm.shw, sm.d40, sm.len, ?_⟩
        refine ⟨_, rfl, _, rfl, by show 2 ≤ sizeLine; decide, fun p10 hp10 => ?_⟩
        have x10 := ext_upd (o := .lst [.ref t, .ref t]) hp10
        refine ⟨_, .list [.tuple (ws.map .int), .tuple (ws.map .int)], rfl, .lst (SqL.of upd_same) (.cons (.tup (SqT.of (x10 _ _ (x9 _ _ eb))) (ints_dp _)) (.cons (.tup (SqT.of (x10 _ _ (x9 _ _ eb))) (ints_dp _)) .nil)), sm.shw, sm.d40, sm.len, rfl, ?_⟩
        show Q (.bl (decide (V.str _ = V.str _))) _
        rw [str_eq]
        have wz := (W'.wp.grow x9).grow x10
        exact q _ ⟨gG.trans wz.ext, wp.no, (wz.mono (by omega)).pot⟩
def spLaw (K : PySem.W.Frag) : Sp := fun vs H Q _ => ∃ (a : Addr) (ns : List Int), vs = [.ref a] ∧ SqL K H a (ns.map V.int) ∧ ns.length ≤ 10000 ∧ ∀ H', Q (.bl true) H'
theorem ok_law (T : Tx P K mg) : FnG P w K mg base CX0 14 T.F_law T.fd_law ["_law_script"] (spLaw K) := by
  refine okG T.law_ok sc_law (fun vs H Q E h => ?_) (fun cdv A outer s H vs Q E gA hr h => ?_)
  · obtain ⟨a, ns, rfl, _⟩ := h
    rfl
  · obtain ⟨a, ns, rfl, hS, hl, k⟩ := h
    have nd := sc_law.nd
    refine ⟨_, (pss_cons (ps_for PassesOwn.never rfl (pi_range1 (by rfl) T.b_range (pa_cons (pe_op op_add (pe_op op_add pe_int (pe_callTy call_int1 (by rfl) T.b_int (by decide +kernel) (pa_cons (pe_cmpR op_gt (pe_callB call_len_seq (by rfl) T.b_len (by decide +kernel) (pa_cons (pv 0) pa_nil)) pe_int (nomark _)) pa_nil))) (pe_callTy call_int1 (by rfl) T.b_int (by decide +kernel) (pa_cons (pe_cmpR op_gt (pe_callB call_len_seq (by rfl) T.b_len (by decide +kernel) (pa_cons (pv 0) pa_nil)) pe_int (nomark _)) pa_nil))) pa_nil)) (pg_name (i := 1) nd rfl (Or.inl rfl)) (pss_cons (ps_set (i := 2) nd rfl (Or.inr rfl) (pe_call (ok__law_pot T) (hr.mono (by decide)) rfl T._law_pot_mg T._law_pot_ok.kp T.b__law_pot .nil pass0 (pa_cons (pv 0) (pa_cons (pv 1) pa_nil)))) (pss_one (ps_if (pt_not (pt_val (pe_callB (cr_all rfl) (by rfl) T.b_all (by decide +kernel) (pa_cons (pe_lc (own := [("_law_turn", 3)]) (g := gName 3) (by rfl) nd (pi_range1 (by rfl) T.b_range (pa_cons pe_int pa_nil)) (blkOk_by (own := [("_law_turn", 3)]) (N := N_law) (sc := defScope s_law) (by decide +kernel)) (fun _ _ _ _ _ => (pg_name (i := 3) nd rfl (Or.inl rfl))) (fun _ _ _ _ _ => pts_nil) (fun _ _ _ _ _ => (pe_callG (ok__law_row_right T) gA (hr.mono (by decide)) rfl T._law_row_right_mg T._law_row_right_ok.kp T.b__law_row_right .nil pass0 (pa_cons (pv 2) pa_nil)))) pa_nil)))) (pss_one (ps_ret pe_bl)) pss_nil)))) (pss_one (ps_ret pe_bl))), ?_⟩
    refine ⟨_, rfl, a, _, rfl, .inl hS, _, _, rfl, rfl, .inr ⟨_, rfl, _, _, rfl, rfl, _, rfl, a, _, rfl, .inl hS, _, _, rfl, rfl, .inr ⟨_, rfl, _, _, rfl, rfl, ?_⟩⟩⟩
    obtain ⟨j, hj⟩ : ∃ j : Int, 1 + (if decide (1 < ((ns.map V.int).length : Int)) = true then (1 : Int) else 0) + (if decide (2 < ((ns.map V.int).length : Int)) = true then (1 : Int) else 0) = j := ⟨_, rfl⟩
    have j0 : 0 ≤ j ∧ j ≤ 3 := by
      rw [← hj]
      constructor <;> (split <;> split <;> omega)
    refine ⟨j, by rw [← hj], by omega, by omega, ?_⟩
    refine for_range (n := j.toNat) (lo := 0) (fun i σ H' => ∃ (v1 v2 : Option V), σ = [some (.ref a), v1, v2, none] ∧ Ext H H') ⟨_, _, rfl, Ext.rfl'⟩ ?_ ?_
    · rintro i σ H' hi ⟨v1, v2, rfl, x1⟩
      refine ⟨_, rfl, _, rfl, a, ns, 0 + i, rfl, hS.ext x1, by omega, by omega, fun p x y hp x0 y0 y1 => ?_⟩
      have w0 : WP H' p 0 (upd H' p (.lst [.int x, .int y, .int 0])) := ⟨ext_upd hp, hp, ⟨x, y, 0, upd_same, x0, y0, y1, by decide, by decide⟩⟩
      refine ⟨3, rfl, by decide, by decide, fun D hD => ?_⟩
      have gD := ext_none w0.ext hD
      refine lc_range (n := 3) (lo := 0) (fun j H'' => WP (upd H' D (.lst (List.replicate j (.bl true)))) p (200 * j) H'') (w0.new hD) (fun j H'' hj h => ?_) (fun H'' h => ?_)
      · refine ⟨rfl, ?_⟩
        refine ⟨_, rfl, _, p, _, rfl, h, by omega, fun H4 w4 => ?_⟩
        refine ⟨_, w4.ext _ _ upd_same, by rw [List.length_replicate]; exact Nat.lt_trans hj (by decide), ?_⟩
        rw [← List.replicate_succ']
        exact (WP.over w4 gD).mono (by omega)
      · refine ⟨D, List.replicate 3 true, rfl, SqL.of (h.ext _ _ upd_same), _, rfl, ?_⟩
        refine (if_neg (show ¬ (!(List.replicate 3 true).all id) = true by decide)).mpr ?_
        exact ⟨_, _, rfl, x1.trans ((ext_upd gD).trans h.ext)⟩
    · rintro σ H' ⟨v1, v2, rfl, x1⟩
      exact k _
end
end K02

namespace K02
open PySem PySem.Spec PyProof.Rows L2 L2.TP
theorem walk0 {l : PySem.W.OpenLaw} {n : Nat} {q : Program} {loose : List Str} {XP : (Str → Option Value) → Heap → Prop} {YP : World → Heap → Prop} {d : DefRec} {K : Params → PySem.W.Frag}
    (hn : l.most = some n) (hn2 : n ≤ 10000) (hdf : d.params.defaults = []) (hr : Room 14 callerA) (hdn : d.name = "law") (hY : ∀ (w : World) (h : Heap), YP w h → (K w.params).In h)
    (F : ∀ (w : World) (mg : Str → Option Value) (fa : Addr) (h : Heap), (K w.params).In h → h.Ns mainGlobals mg → mg d.name = some (.ref fa) → Nonempty (Tx l.prog (K w.params) mg)) :
    PySem.W.WalkO q loose XP YP l.row.toRowW d [] (fun f vs => PySem.call f vs) := by
  refine walkG (k := 14) (sp := spLaw) (CX := CX0) (x := "_law_script") hn (Nat.le_trans hn2 (by decide)) hdf hr hY (fun w mg fa h KX G hmg => ?_) (fun K H a ns hl hb hO hS => ⟨a, ns, rfl, hS, Nat.le_trans hl hn2, fun _ => rfl⟩) (fun _ _ _ _ z => z)
  obtain ⟨T⟩ := F w mg fa h KX G hmg
  rw [hdn] at hmg
  have e := T.law_mg
  rw [hmg] at e
  injection e with e
  injection e with e
  subst e
  refine ⟨T.fd_law, fun s u => ?_, fun base _ _ => ok_law T⟩
  obtain ⟨_, _, _, _, _, _, _, _, _, e, _⟩ := T.law_ok.ex
  rw [e]
  exact .of_eq rfl
end K02

namespace K02
open PySem PySem.W PyProof.Rows
set_option maxRecDepth 100000 in
set_option maxHeartbeats 0 in
open_top hd for PySem.Challenge.rw_tapedonce_k02_rows_read_set_and_pushed
end K02

open PySem PySem.W PyProof.Rows in
set_option maxRecDepth 100000 in
set_option maxHeartbeats 0 in
theorem PySem.Challenge.cw_tapedonce_k02_rows_read_set_and_pushed_holds : PySem.Challenge.rw_tapedonce_k02_rows_read_set_and_pushed.Holds :=
  K02.hd (by
  k_fill
  refine K02.walk0 (l := PySem.Challenge.rw_tapedonce_k02_rows_read_set_and_pushed) rfl (by decide) rfl ⟨by decide, by decide, by decide⟩ rfl (fun w h Y => PySem.W.kIn_of Y) ?F
  case F =>
    intro w mg fa h KX G hmg
    clear hmg
    constructor
    refine' K02.tx_mk KX G ⟨rfl, trivial⟩ ?a_Number ?a_Row ?a_Fault ?pg_Number ?hd_Number ?po_Number ?sa_Number ?kc_Number ?tc_Number ?mk_Number ?pg_Row ?hd_Row ?po_Row ?sa_Row ?kc_Row ?tc_Row ?mk_Row ?g_is_integer ?l_is_integer ?c_is_integer ?k_is_integer ?g_is_from ?l_is_from ?c_is_from ?k_is_from ?g_worth_of ?l_worth_of ?c_worth_of ?k_worth_of ?g_Number___init__ ?i_Number___init__ ?l_Number___init__ ?c_Number___init__ ?k_Number___init__ ?g_Number_size ?gg_Number_size ?gt_Number_size ?gr_Number_size ?l_Number_size ?c_Number_size ?k_Number_size ?g_Number_worth ?gg_Number_worth ?gt_Number_worth ?gr_Number_worth ?l_Number_worth ?c_Number_worth ?k_Number_worth ?g_are_items ?l_are_items ?c_are_items ?k_are_items ?g_Row___init__ ?i_Row___init__ ?l_Row___init__ ?c_Row___init__ ?k_Row___init__ ?g_Row_worths ?gg_Row_worths ?gt_Row_worths ?gr_Row_worths ?l_Row_worths ?c_Row_worths ?k_Row_worths ?g_Row___len__ ?i_Row___len__ ?l_Row___len__ ?c_Row___len__ ?k_Row___len__ ?g_Row_has ?i_Row_has ?l_Row_has ?c_Row_has ?k_Row_has ?g_Row_worth_at ?i_Row_worth_at ?l_Row_worth_at ?c_Row_worth_at ?k_Row_worth_at ?dV1_Row_worth_at ?dV2_Row_worth_at ?dV3_Row_worth_at ?dV4_Row_worth_at ?g_Row_lay ?i_Row_lay ?l_Row_lay ?c_Row_lay ?k_Row_lay ?dV1_Row_lay ?dV2_Row_lay ?dV3_Row_lay ?dV4_Row_lay ?g_Row_push ?i_Row_push ?l_Row_push ?c_Row_push ?k_Row_push ?dV1_Row_push ?dV2_Row_push ?dV3_Row_push ?dV4_Row_push ?g_Row_count ?i_Row_count ?l_Row_count ?c_Row_count ?k_Row_count ?g_Row___getitem__ ?i_Row___getitem__ ?l_Row___getitem__ ?c_Row___getitem__ ?k_Row___getitem__ ?g_Row___setitem__ ?i_Row___setitem__ ?l_Row___setitem__ ?c_Row___setitem__ ?k_Row___setitem__ ?g_Row___iadd__ ?i_Row___iadd__ ?l_Row___iadd__ ?c_Row___iadd__ ?k_Row___iadd__ ?g__law_pot ?l__law_pot ?c__law_pot ?k__law_pot ?g__law_take ?l__law_take ?c__law_take ?k__law_take ?g__law_number ?l__law_number ?c__law_number ?k__law_number ?g__law_read ?l__law_read ?c__law_read ?k__law_read ?g__law_set ?l__law_set ?c__law_set ?k__law_set ?g__law_pushed ?l__law_pushed ?c__law_pushed ?k__law_pushed ?g__law_deed_right ?l__law_deed_right ?c__law_deed_right ?k__law_deed_right ?g__law_row_right ?l__law_row_right ?c__law_row_right ?k__law_row_right ?g_law ?l_law ?c_law ?k_law ?e1_Fault ?e2_Fault ?e3_Fault ?e4_Fault ?e5_Fault ?e6_Fault ?e7_Fault ?e8_Fault ?ef0_Fault ?ef1_Fault ?e9_Fault ?ea_Fault ?eb_Fault ?ec_Fault ?ed_Fault ?ee_Fault ?ek_Fault ?ex_Fault ?et_Fault ?eh_Fault ?eg_Fault ?ei_Fault ?dV1_Fault ?dV2_Fault ?dV3_Fault ?dV4_Fault ?z_super ?z_tp ?z_int ?z_bool ?z_abs ?z_len ?z_isinstance ?z_repr ?z_all ?z_range ?z_tuple ?q_LEAST_SIZE ?q_MOST_SIZE ?q_INDEX ?q_FULL ?q_LEAST_MOST ?q_GREATEST_MOST ?x_cg ?x_cc ?x_ct ?x_cm ?x_rcc ?x_rct ?x_rcm ?x_s1 ?x_s3 ?x_r3 ?x_nS ?x_nW ?x_n_size ?x_n_most ?x_n_worths ?x_n_counter ?x_n_name ?x_fget ?x_nsq ?x_rslf
    (case a_Number => k_is)
    (case a_Row => k_is)
    (case a_Fault => k_is)
    (case pg_Number => k_is)
    (case hd_Number => k_is)
    (case po_Number => k_is)
    (case sa_Number => k_is)
    (case kc_Number => k_is)
    (case tc_Number => k_is)
    (case mk_Number => k_is)
    (case pg_Row => k_is)
    (case hd_Row => k_is)
    (case po_Row => k_is)
    (case sa_Row => k_is)
    (case kc_Row => k_is)
    (case tc_Row => k_is)
    (case mk_Row => k_is)
    (case g_is_integer => k_is)
    (case l_is_integer => k_is)
    (case c_is_integer => k_is)
    (case k_is_integer => k_is)
    (case g_is_from => k_is)
    (case l_is_from => k_is)
    (case c_is_from => k_is)
    (case k_is_from => k_is)
    (case g_worth_of => k_is)
    (case l_worth_of => k_is)
    (case c_worth_of => k_is)
    (case k_worth_of => k_is)
    (case g_Number___init__ => k_is)
    (case i_Number___init__ => k_is)
    (case l_Number___init__ => k_is)
    (case c_Number___init__ => k_is)
    (case k_Number___init__ => k_is)
    (case g_Number_size => k_is)
    (case gg_Number_size => k_is)
    (case gt_Number_size => k_is)
    (case gr_Number_size => k_is)
    (case l_Number_size => k_is)
    (case c_Number_size => k_is)
    (case k_Number_size => k_is)
    (case g_Number_worth => k_is)
    (case gg_Number_worth => k_is)
    (case gt_Number_worth => k_is)
    (case gr_Number_worth => k_is)
    (case l_Number_worth => k_is)
    (case c_Number_worth => k_is)
    (case k_Number_worth => k_is)
    (case g_are_items => k_is)
    (case l_are_items => k_is)
    (case c_are_items => k_is)
    (case k_are_items => k_is)
    (case g_Row___init__ => k_is)
    (case i_Row___init__ => k_is)
    (case l_Row___init__ => k_is)
    (case c_Row___init__ => k_is)
    (case k_Row___init__ => k_is)
    (case g_Row_worths => k_is)
    (case gg_Row_worths => k_is)
    (case gt_Row_worths => k_is)
    (case gr_Row_worths => k_is)
    (case l_Row_worths => k_is)
    (case c_Row_worths => k_is)
    (case k_Row_worths => k_is)
    (case g_Row___len__ => k_is)
    (case i_Row___len__ => k_is)
    (case l_Row___len__ => k_is)
    (case c_Row___len__ => k_is)
    (case k_Row___len__ => k_is)
    (case g_Row_has => k_is)
    (case i_Row_has => k_is)
    (case l_Row_has => k_is)
    (case c_Row_has => k_is)
    (case k_Row_has => k_is)
    (case g_Row_worth_at => k_is)
    (case i_Row_worth_at => k_is)
    (case l_Row_worth_at => k_is)
    (case c_Row_worth_at => k_is)
    (case k_Row_worth_at => k_is)
    (case dV1_Row_worth_at => exact rfl)
    (case dV2_Row_worth_at => k_is)
    (case dV3_Row_worth_at => exact rfl)
    (case dV4_Row_worth_at => exact (.cons rfl .nil))
    (case g_Row_lay => k_is)
    (case i_Row_lay => k_is)
    (case l_Row_lay => k_is)
    (case c_Row_lay => k_is)
    (case k_Row_lay => k_is)
    (case dV1_Row_lay => exact rfl)
    (case dV2_Row_lay => k_is)
    (case dV3_Row_lay => exact rfl)
    (case dV4_Row_lay => exact (.cons rfl .nil))
    (case g_Row_push => k_is)
    (case i_Row_push => k_is)
    (case l_Row_push => k_is)
    (case c_Row_push => k_is)
    (case k_Row_push => k_is)
    (case dV1_Row_push => exact rfl)
    (case dV2_Row_push => k_is)
    (case dV3_Row_push => exact rfl)
    (case dV4_Row_push => exact (.cons rfl .nil))
    (case g_Row_count => k_is)
    (case i_Row_count => k_is)
    (case l_Row_count => k_is)
    (case c_Row_count => k_is)
    (case k_Row_count => k_is)
    (case g_Row___getitem__ => k_is)
    (case i_Row___getitem__ => k_is)
    (case l_Row___getitem__ => k_is)
    (case c_Row___getitem__ => k_is)
    (case k_Row___getitem__ => k_is)
    (case g_Row___setitem__ => k_is)
    (case i_Row___setitem__ => k_is)
    (case l_Row___setitem__ => k_is)
    (case c_Row___setitem__ => k_is)
    (case k_Row___setitem__ => k_is)
    (case g_Row___iadd__ => k_is)
    (case i_Row___iadd__ => k_is)
    (case l_Row___iadd__ => k_is)
    (case c_Row___iadd__ => k_is)
    (case k_Row___iadd__ => k_is)
    (case g__law_pot => k_is)
    (case l__law_pot => k_is)
    (case c__law_pot => k_is)
    (case k__law_pot => k_is)
    (case g__law_take => k_is)
    (case l__law_take => k_is)
    (case c__law_take => k_is)
    (case k__law_take => k_is)
    (case g__law_number => k_is)
    (case l__law_number => k_is)
    (case c__law_number => k_is)
    (case k__law_number => k_is)
    (case g__law_read => k_is)
    (case l__law_read => k_is)
    (case c__law_read => k_is)
    (case k__law_read => k_is)
    (case g__law_set => k_is)
    (case l__law_set => k_is)
    (case c__law_set => k_is)
    (case k__law_set => k_is)
    (case g__law_pushed => k_is)
    (case l__law_pushed => k_is)
    (case c__law_pushed => k_is)
    (case k__law_pushed => k_is)
    (case g__law_deed_right => k_is)
    (case l__law_deed_right => k_is)
    (case c__law_deed_right => k_is)
    (case k__law_deed_right => k_is)
    (case g__law_row_right => k_is)
    (case l__law_row_right => k_is)
    (case c__law_row_right => k_is)
    (case k__law_row_right => k_is)
    (case g_law => k_is)
    (case l_law => k_is)
    (case c_law => k_is)
    (case k_law => k_is)
    (case e1_Fault => k_is)
    (case e2_Fault => kernel_rfl)
    (case e3_Fault => k_is)
    (case e4_Fault => k_is)
    (case e5_Fault => k_is)
    (case e6_Fault => ks_is)
    (case e7_Fault => k_is)
    (case e8_Fault => k_is)
    (case ef0_Fault => k_is)
    (case ef1_Fault => k_is)
    (case e9_Fault => k_is)
    (case ea_Fault => k_is)
    (case eb_Fault => k_is)
    (case ec_Fault => exact rfl)
    (case ed_Fault => exact rfl)
    (case ee_Fault => k_is)
    (case ek_Fault => k_is)
    (case ex_Fault => k_is)
    (case et_Fault => k_is)
    (case eh_Fault => k_is)
    (case eg_Fault => k_is)
    (case ei_Fault => k_is)
    (case dV1_Fault => exact rfl)
    (case dV2_Fault => k_is)
    (case dV3_Fault => exact rfl)
    (case dV4_Fault => exact (.cons rfl .nil))
    (case z_super => k_is)
    (case z_tp => k_is)
    (case z_int => k_is)
    (case z_bool => k_is)
    (case z_abs => k_is)
    (case z_len => k_is)
    (case z_isinstance => k_is)
    (case z_repr => k_is)
    (case z_all => k_is)
    (case z_range => k_is)
    (case z_tuple => k_is)
    (case q_LEAST_SIZE => k_is)
    (case q_MOST_SIZE => k_is)
    (case q_INDEX => k_is)
    (case q_FULL => k_is)
    (case q_LEAST_MOST => k_is)
    (case q_GREATEST_MOST => k_is)
    (case x_cg => k_is)
    (case x_cc => k_is)
    (case x_ct => k_is)
    (case x_cm => k_is)
    (case x_rcc => k_is)
    (case x_rct => k_is)
    (case x_rcm => k_is)
    (case x_s1 => k_is)
    (case x_s3 => k_is)
    (case x_r3 => k_is)
    (case x_nS => k_is)
    (case x_nW => k_is)
    (case x_n_size => k_is)
    (case x_n_most => k_is)
    (case x_n_worths => k_is)
    (case x_n_counter => k_is)
    (case x_n_name => k_is)
    (case x_fget => k_is)
    (case x_nsq => k_is)
    (case x_rslf => k_is)
    )

